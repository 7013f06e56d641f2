import PyProof.Rows.All
import Wide.All
import OpenK.AllK
import Wide.FinOn
import HandS.ForMost
import HandS.IsInst
import HandS.Star
import HandS.TupAny
import HandS.TupMul
import HandS.Conv
import HandS.Property
import HandS.Zip
import HandS.Walk
import KE.KeyNested
import KE.DataEq
import KE.SortData
import HandS.GenList
import KE.GoesEnum
import PyProof.AutoSeq1
import HandS.Style
import KE.KRevSl
import PyProof.InstEq
import PyProof.FactsAll.object
import PyProof.FactsAll.dict
import HandS.FStr
import HandS.Flow
import PyProof.ReprRoads
import HandS.ClsMeth
import HandS.HeadHook2
import HandS.HeadEnd
import HandS.HeadNt
import HandS.Head2
import PySem.Challenge.RW_whichvariant_k08_equal_variants
set_option Elab.async false
set_option linter.all false
set_option maxRecDepth 100000
set_option maxHeartbeats 4000000
namespace Wv
open PySem L2
/-- plain data trees of the mirror; cel n: the mutable cell number n; cls c: an own class -/
inductive D where
  | non | bl (b : Bool) | int (i : Int) | str (s : Str)
  | tup (xs : List D) | lst (xs : List D)
  | dic (ks : List Key) (vs : List D)
  | ins (c : Nat) (fs : List Nat) (vs : List D)
  | cel (n : Nat) | cls (c : Nat)
  /-- the law's script -/
  | scr (ns : List Int)
  /-- an object of which nothing is told -/
  | opq
/-- a mutable cell's content -/
inductive Cl where
  | lst (xs : List D)
  | ins (c : Nat) (fs : List Nat) (vs : List D)
  /-- a dict, its keys tuples of ints, None and such tuples -/
  | dic (kvs : List (NestedKey × D))
/-- what a name of a frame holds: a tree, or the list number k that is the frame's own -/
inductive R where
  | fz (d : D) | own (k : Nat)
/-- a frame's own lists and instances (still open?, content), and the cells -/
structure FS where
  ol : List (Bool × Cl)
  st : List Cl
/-- an exception of an own class -/
structure Xc where
  c : Nat
  fs : List Nat
  vs : List D
inductive Out (α : Type) where
  | ok (a : α) (s : FS) | exc (x : Xc) (s : FS) | bad
/-- what a call hands back: a tree, or a list that nobody else holds -/
inductive RV where
  | fz (d : D) | ow (c : Cl)
def Cl.d : Cl → D
  | .lst xs => .lst xs
  | .ins c fs vs => .ins c fs vs
  | .dic _ => .opq
inductive Oc where
  | ok (r : RV) (st : List Cl) | exc (x : Xc) (st : List Cl) | bad
/-- the written part, the module's names, the addresses of the own classes -/
structure Cfg where
  K : PySem.W.Frag
  mg : Str → Option Value
  ca : Nat → Addr
  nms : List Str
  fa : Nat → Addr
  /-- the generator defs' addresses -/
  gb : Nat → Addr
/-- the attribute number i -/
def Cfg.nm (G : Cfg) (i : Nat) : Str := G.nms.getD i ""
abbrev Ev := List (Option R)
inductive Kc where
  | non | bl (b : Bool) | int (i : Int) | str (s : Str)
def Kc.d : Kc → D
  | .non => .non
  | .bl b => .bl b
  | .int i => .int i
  | .str s => .str s
inductive Bin where
  | add | sub | mul | mod | fdiv | pow | band
inductive Cmp where
  | eq | ne | lt | le | gt | ge | isin | notin | isN | notN
/-- what isinstance asks for -/
inductive Ty where
  | int | bool | str | tup | lst | own (c : Nat)
inductive Bi where
  | len | tup | lst | all | any | max1 | min1 | max2 | min2 | repr | str | int | sum | srt | lens
inductive Bm where
  | app | ext | pop | popAt | join | split | stw | enw | find | idx | cnt
/-- operators by an own class's method -/
inductive Ob where
  | le | isin | notin | eq | ne
inductive Tg where
  | n (i : Nat) | t (is : List Nat) | q (i : Nat) (is : List Nat)
inductive E where
  | nil | cons (a r : E) | sta (a r : E)
  | var (i : Nat) | con (k : Kc) | glo (x : Nat) (k : Kc)
  | bin (o : Bin) (a b : E) | cmp (o : Cmp) (a b : E) | chn (o p : Cmp) (a b c : E)
  | and (a b : E) | or (a b : E) | not (a : E) | neg (a : E) | ife (t a b : E)
  | tup (es : E) | lst (es : E) | lsc (es : E) | dic (ks : List Key) (es : E)
  | idx (a b : E) | slc (a lo hi : E) | rev (a : E) | pop (x : Nat) (i : E)
  | cal (f : Nat) (es : E) | new (c : Nat) (es : E) | met (o : E) (m : Nat) (es : E) | fld (o : E) (x : Nat) | cin (o : E) (es : E) | oop (q : Ob) (a b : E)
  | isi (a : E) (c : Ty) | lens (a : E) | bi (b : Bi) (es : E) | bm (m : Bm) (o : E) (es : E)
  | tupr (es : E) | lstr (es : E)
  | com (own : List Nat) (tg : Tg) (it tt el : E)
  | co2 (own : List Nat) (tg : Tg) (it : E) (own1 : List Nat) (tg1 : Tg) (it1 tt el : E)
  | rng (es : E) | zip (es : E) | enu (a : E)
  /-- an own list handed on at once -/
  | frz (a : E)
  /-- {}; k in d, k not in d; d[k]: a dict in a cell -/
  | dnew | din (neg : Bool) (a d : E) | dget (d a : E)
  /-- list(o.m()), m a generator method of the class number c -/
  | lsg (c : Nat) (o : E) (m : Nat)
  /-- repr(a), a an own class's object; a field of an f-string; an f-string of two parts or more; a or b, lists -/
  | rpo (a : E) | fmt (a : E) | fst (es : E) | orl (a b : E)
  /-- o[i] by an own class's method -/
  | gix (a b : E)
  /-- repr of any value, objects of own classes in lists and tuples too; C.m(..), a staticmethod -/
  | rpd (a : E) | cst (c m : Nat) (es : E)
/-- a tree, or a new list -/
inductive Rs where
  | t (d : D) | l (xs : List D)
def FS.get (s : FS) (k : Nat) : Option Cl := (s.ol[k]?).map (·.2)
/-- .. handed on: it never changes from now on -/
def fz (s : FS) : R → Option (D × FS)
  | .fz d => some (d, s)
  | .own k => (s.get k).map fun c => (c.d, ⟨s.ol.set k (false, c), s.st⟩)
/-- a result, as the frame holds it -/
def Rs.out (r : Rs) (s : FS) : Out R := match r with
  | .t d => .ok (.fz d) s
  | .l xs => .ok (.own s.ol.length) ⟨s.ol ++ [(true, .lst xs)], s.st⟩
/-- behind a call -/
def Oc.out (o : Oc) (ol : List (Bool × Cl)) : Out R := match o with
  | .ok (.fz d) st => .ok (.fz d) ⟨ol, st⟩
  | .ok (.ow c) st => .ok (.own ol.length) ⟨ol ++ [(true, c)], st⟩
  | .exc x st => .exc x ⟨ol, st⟩
  | .bad => .bad
structure Cla where
  nm : Str
  /-- never changes once it is made -/
  still : Bool
  init : Nat
  prop : List (Nat × Nat)
  meth : List (Nat × Nat)
  /-- its attributes, none of them a class's -/
  flds : List Nat
  /-- itself and the own classes above it -/
  mro : List Nat
  /-- operators (mAdd, mAnd) that it has not -/
  nn : List Nat
  /-- its generator methods -/
  gmeth : List (Nat × Nat)
  /-- its static methods -/
  stat : List (Nat × Nat)
abbrev mAdd := 1
abbrev mAnd := 2
def clsOf : D → List Cl → Option (Nat × List Nat × List D)
  | .ins c fs vs, _ => some (c, fs, vs)
  | .cel n, st => match st[n]? with
    | some (.ins c fs vs) => some (c, fs, vs)
    | _ => none
  | _, _ => none
structure Prm where
  /-- nothing is being shown around the call -/
  g : Bool
  cs : List Cla
  call : Nat → List D → List Cl → Oc
  /-- C(..) -/
  make : Nat → List D → List Cl → Oc
  /-- all that a generator hands out -/
  gens : Nat → List D → List Cl → Option (List D × List Cl)
  /-- a call while something is being shown -/
  callF : Nat → List D → List Cl → Oc
def Prm.methOf (P : Prm) (c m : Nat) : Option Nat := (P.cs[c]?).bind fun k => k.meth.lookup m
/-- o.m(ds) -/
def Prm.meth (P : Prm) (d : D) (m : Nat) (ds : List D) (s : FS) : Out R := match clsOf d s.st with
  | some (c, _) => (match P.methOf c m with
    | some f => (P.call f (d :: ds) s.st).out s.ol
    | none => .bad)
  | none => .bad
/-- what a built-in function is called -/
def Bi.nm : Bi → Str
  | .len => "len"
  | .tup => "tuple"
  | .lst => "list"
  | .all => "all"
  | .any => "any"
  | .max1 => "max"
  | .min1 => "min"
  | .max2 => "max"
  | .min2 => "min"
  | .repr => "repr"
  | .str => "str"
  | .int => "int"
  | .sum => "sum"
  | .srt => "sorted"
  | .lens => "len"
def Bi.val : Bi → Value
  | .len => .builtin "len"
  | .tup => .type "tuple"
  | .lst => .type "list"
  | .all => .builtin "all"
  | .any => .builtin "any"
  | .max1 => .builtin "max"
  | .min1 => .builtin "min"
  | .max2 => .builtin "max"
  | .min2 => .builtin "min"
  | .repr => .builtin "repr"
  | .str => .type "str"
  | .int => .type "int"
  | .sum => .builtin "sum"
  | .srt => .builtin "sorted"
  | .lens => .builtin "len"
inductive S where
  | nil | cons (a r : S)
  | asg (t : Tg) (e : E) | alc (i : Nat) (own : List Nat) (tg : Tg) (it tt el : E) | alc2 (i : Nat) (own : List Nat) (tg : Tg) (it : E) (own1 : List Nat) (tg1 : Tg) (it1 tt el : E) | par (is : List Nat) (es : E)
  | sfl (o : E) (x : Nat) (e : E) | sfp (xs : List Nat) (e : E) | sit (o i e : E) | dput (o i e : E)
  | exp (e : E) | app (x : Nat) (e : E) | ext (x : Nat) (e : E)
  | ret (e : E) | rtn
  | ife (c : E) (a b : S) | for (t : Tg) (it : E) (b : S) | whl (n : Nat) (c : E) (b : S)
  | rai (c : Nat) (es : E) | pas | nev
  /-- no statement of the text: an own list is handed on from here on -/
  | fzv (i : Nat)
/-- a statement's end -/
inductive SO where
  | nx (env : Ev) (s : FS) | rt (r : R) (env : Ev) (s : FS) | bk (env : Ev) (s : FS) | ct (env : Ev) (s : FS) | exc (x : Xc) (env : Ev) (s : FS) | bad
/-- an expression's outcome within a statement -/
def Out.st {α : Type} (o : Out α) (env : Ev) (k : α → FS → SO) : SO := match o with
  | .ok a s => k a s
  | .exc x s => .exc x env s
  | .bad => .bad
/-- one def -/
structure Fn where
  /-- a global's name; a class and its method -/
  pl : Str × Option Str
  /-- .. its property's getter -/
  pr : Bool
  qual : Str
  /-- its names, the parameters first -/
  N : List Str
  np : Nat
  star : Bool
  body : S
/-- a generator def: for tg in it: if tt: yield el -/
structure Gn where
  pl : Str × Option Str
  qual : Str
  N : List Str
  np : Nat
  tg : Tg
  it : E
  tt : E
  el : E
structure Pg where
  fns : List Fn
  cls : List Cla
  nms : List Str
  /-- the module's constants -/
  ks : List (Nat × Kc)
  gens : List Gn
/-- the arguments as the parameters have them -/
def Fn.bind (f : Fn) (ds : List D) : Option (List D) :=
  if f.star = true then (if f.np - 1 ≤ ds.length ∧ ds.length ≤ 4000 then some (ds.take (f.np - 1) ++ [.tup (ds.drop (f.np - 1))]) else none) else if ds.length = f.np then some ds else none
def noStar : Expr → Bool
  | .Starred _ _ => false
  | _ => true
def headNo : List Expr → Bool
  | [] => true
  | e :: _ => noStar e
def noSlice : Expr → Bool
  | .Slice _ _ _ _ => false
  | _ => true
def noSet : Expr → Bool
  | .Set _ _ _ => false
  | _ => true
def noCall : Expr → Bool
  | .Call _ (_ :: _) _ _ => true
  | .Call _ [] _ _ => false
  | _ => true
def noLc : Expr → Bool
  | .ListComp _ _ _ _ => false
  | .SetComp _ _ _ _ => false
  | .DictComp _ _ _ _ _ => false
  | _ => true
/-- built-in names that the module leaves alone -/
def bltNames : List Str := ["len", "tuple", "list", "all", "any", "max", "min", "repr", "str", "int", "sum", "set", "range", "zip", "enumerate", "isinstance", "bool", "super", "sorted"]
def opN (x : Nat) : String := if x = mAdd then "add" else "and"
def spNms : List Str := ["__len__", "__add__", "__and__", "__le__", "__eq__", "__contains__", "__getitem__", "__call__", "__repr__"]
/-- what is written around: the names' places, the scope, where a name may be stored -/
structure Sx where
  N : List Str
  sc : Scope
  st : Str → Bool
def Kc.v : Kc → V
  | .non => .non
  | .bl b => .bl b
  | .int i => .int i
  | .str s => .str s
def chK : Kc → Const → Bool
  | .non, .none => true
  | .bl b, .bool c => b == c
  | .int i, .int j => decide (i = j)
  | .str s, .str t => decide (s = t)
  | _, _ => false
def Ty.nm (p : Pg) : Ty → Option Str
  | .int => some "int"
  | .bool => some "bool"
  | .str => some "str"
  | .tup => some "tuple"
  | .lst => some "list"
  | .own c => (p.cls[c]?).map (·.nm)
def Ty.v (G : Cfg) : Ty → V
  | .int => .ty "int"
  | .bool => .ty "bool"
  | .str => .ty "str"
  | .tup => .ty "tuple"
  | .lst => .ty "list"
  | .own c => .ref (G.ca c)
def Tg.ix : Tg → List Nat
  | .n i => [i]
  | .t is => is
  | .q i is => i :: is
def Bm.nm : Bm → Str
  | .idx => "index"
  | .join => "join"
  | .stw => "startswith"
  | .enw => "endswith"
  | .find => "find"
  | .split => "split"
  | .app => "append"
  | .ext => "extend"
  | .pop => "pop"
  | .popAt => "pop"
  | .cnt => "count"
def bmOk : Bm → Bool
  | .idx => true
  | .join => true
  | .stw => true
  | .enw => true
  | .find => true
  | .split => true
  | _ => false
def isNm : Expr → Bool
  | .Name _ _ => true
  | .Subscript _ _ _ => true
  | _ => false
def keyK : Key → Kc
  | .inl i => .int i
  | .inr x => .str x
def visC (sc : Scope) (x : Str) : Bool := match sc.names.lookup x with
  | some .local => true
  | some .cell => true
  | some .free => true
  | _ => false
def glC (sc : Scope) (x : Str) : Bool := match sc.names.lookup x with
  | some .globalImplicit => true
  | _ => false
def locC (sc : Scope) (x : Str) : Bool := match sc.names.lookup x with
  | some .local => true
  | _ => false
def nmC (x : Str) : Bool := !(x == ("__debug__" : Str)) && !(x == ("__classdict__" : Str))
/-- inside a comprehension -/
def Sx.blk (S : Sx) (scope : Scope) : Sx := ⟨S.N, relS scope S.sc, fun x => match scope.names.lookup x with
  | some .local => true
  | some .cell => true
  | _ => false⟩
def kcEq : Kc → Kc → Bool
  | .non, .non => true
  | .bl a, .bl b => a == b
  | .int a, .int b => decide (a = b)
  | .str a, .str b => decide (a = b)
  | _, _ => false
def binC : Bin → Operator → Bool
  | .add, .Add => true
  | .sub, .Sub => true
  | .mul, .Mult => true
  | .mod, .Mod => true
  | .fdiv, .FloorDiv => true
  | .pow, .Pow => true
  | .band, .BitAnd => true
  | _, _ => false
def cmpC : Cmp → CmpOp → Bool
  | .eq, .Eq => true
  | .ne, .NotEq => true
  | .lt, .Lt => true
  | .le, .LtE => true
  | .gt, .Gt => true
  | .ge, .GtE => true
  | .isin, .In => true
  | .notin, .NotIn => true
  | .isN, .Is => true
  | .notN, .IsNot => true
  | _, _ => false
def dinC : Bool → CmpOp → Bool
  | false, .In => true
  | true, .NotIn => true
  | _, _ => false
def obC : Ob → CmpOp → Bool
  | .le, .LtE => true
  | .isin, .In => true
  | .notin, .NotIn => true
  | .eq, .Eq => true
  | .ne, .NotEq => true
  | _, _ => false
def isLens : Bi → Bool
  | .lens => true
  | _ => false
/-- the names of a target -/
def tgC (S : Sx) : Tg → Expr → Bool
  | .n i, .Name x _ => decide (S.N[i]? = some x) && S.st x
  | .t is, .Tuple es _ _ => go is es
  | .q i is, .Tuple [.Name x _, .Tuple es _ _] _ _ => decide (S.N[i]? = some x) && S.st x && go is es
  | _, _ => false
where
  go : List Nat → List Expr → Bool
  | [], [] => true
  | i :: is, .Name x _ :: es => decide (S.N[i]? = some x) && S.st x && go is es
  | _, _ => false
/-- plain parts, no stars -/
def consE : E → Bool
  | .nil => true
  | .cons _ r => consE r
  | _ => false
/-- the keys of a display -/
def dicC : List Key → List (Option Expr) → Bool
  | [], [] => true
  | [k], [some (.Constant c _ _)] => chK (keyK k) c
  | _, _ => false
mutual
/-- t: as a test -/
def ch (p : Pg) (S : Sx) (t : Bool) : E → Expr → Bool
  | .var i, .Name x _ => decide (S.N[i]? = some x) && visC S.sc x && nmC x
  | .con k, .Constant c _ _ => chK k c
  | .glo x k, .Name y _ => !t && glC S.sc y && decide (p.nms.getD x "" = y) && (p.ks.any fun q => decide (q.1 = x) && kcEq q.2 k) && nmC y
  | .bin o a b, .BinOp l op r _ => !t && binC o op && ch p S false a l && ch p S false b r
  | .cmp q a b, .Compare l [op] [r] _ => cmpC q op && noSet r && ch p S false a l && ch p S false b r
  | .chn q q' a b c, .Compare l [op, op'] [m, r] _ => cmpC q op && cmpC q' op' && noSet r && ch p S false a l && ch p S false b m && ch p S false c r
  | .and a b, .BoolOp .And (x :: y :: r) _ => ch p S t a x && (match r with
    | [] => ch p S t b y
    | _ :: _ => chAnd p S t b (y :: r))
  | .or a b, .BoolOp .Or (x :: y :: r) _ => ch p S t a x && (match r with
    | [] => ch p S t b y
    | _ :: _ => chOr p S t b (y :: r))
  | .not a, .UnaryOp .Not x _ => ch p S t a x
  | .neg a, .UnaryOp .USub x _ => !t && ch p S false a x
  | .ife c a b, .IfExp x y z _ => !t && ch p S true c x && ch p S false a y && ch p S false b z
  | .tup es, .Tuple xs _ _ => !t && chA p S es xs
  | .lst es, .List xs _ => !t && chA p S es xs
  | .lsc es, .List xs _ => !t && chA p S es xs
  | .idx a b, .Subscript x y _ => noSlice y && ch p S false a x && ch p S false b y
  | .slc a lo hi, .Subscript x (.Slice l h none _) _ => ch p S false a x && chP p S lo l && chP p S hi h
  | .dnew, .Dict [] [] _ => !t
  | .din neg a d, .Compare l [op] [r] _ => dinC neg op && noSet r && ch p S false a l && ch p S false d r
  | .dget d a, .Subscript x y _ => noSlice y && ch p S false d x && ch p S false a y
  | .frz a, x => !t && ch p S false a x
  | .rev a, .Subscript x (.Slice none none (some (.UnaryOp .USub (.Constant (.int i) _ _) _)) _) _ => decide (i = 1) && ch p S false a x
  | .pop i a, .Call (.Attribute (.Name x _) m q) [y] [] q2 => decide (m = "pop") && decide (S.N[i]? = some x) && visC S.sc x && nmC x && noStar y && (q.endLine == q2.line) && ch p S false a y
  | .lstr (.cons a .nil), .Call (.Name f _) [.Call (.Name f2 _) [z] [] _] [] _ => decide (f = "list") && glC S.sc f && decide (f2 = "range") && glC S.sc f2 && noStar z && ch p S false a z
  | .lsg c o m, .Call (.Name f _) [.Call (.Attribute y x q) [] [] q2] [] _ => decide (f = "list") && glC S.sc f && decide (p.nms.getD m "" = x) && noCall y && (q.endLine == q2.line) && (match p.cls[c]? with
    | some k => (match k.gmeth.lookup m with
      | some i => decide (i < p.gens.length)
      | none => false)
    | none => false) && ch p S false o y
  | .orl a b, .BoolOp .Or [x, y] _ => !t && ch p S false a x && ch p S false b y
  | .gix a b, .Subscript x y _ => !t && noSlice y && ch p S false a x && ch p S false b y
  | .dic ks es, .Dict a b _ => !t && dicC ks a && chA p S es b
  | .rpd a, .Call (.Name f _) [y] [] _ => !t && decide (f = "repr") && glC S.sc f && noStar y && ch p S false a y
  | .cst c m es, .Call (.Attribute (.Name cn _) x q) xs [] q2 => !t && decide (p.nms.getD m "" = x) && glC S.sc cn && nmC cn && (match p.cls[c]? with
    | some k => decide (k.nm = cn) && (match k.stat.lookup m with
      | some i => decide (i < p.fns.length)
      | none => false)
    | none => false) && xs.all noStar && decide (xs.length < 30) && (q.endLine == q2.line) && chA p S es xs
  | .rpo a, .Call (.Name f _) [y] [] _ => !t && decide (f = "repr") && glC S.sc f && noStar y && ch p S false a y
  | .fmt a, .FormattedValue y k none _ => !t && decide (k = -1) && ch p S false a y
  | .fst es, .JoinedStr (x :: y :: r) _ => !t && consE es && chA p S es (x :: y :: r)
  | .tupr (.cons a .nil), .Call (.Name f _) [.Call (.Name f2 _) [z] [] _] [] _ => decide (f = "tuple") && glC S.sc f && decide (f2 = "range") && glC S.sc f2 && noStar z && ch p S false a z
  | .cal i es, .Call (.Name x _) xs [] _ => glC S.sc x && nmC x && (match p.fns[i]? with
    | some f => decide (f.pl = (x, none))
    | none => false) && chC p S es xs
  | .new c es, .Call (.Name x _) xs [] _ => glC S.sc x && nmC x && (match p.cls[c]? with
    | some k => decide (k.nm = x)
    | none => false) && headNo xs && chA p S es xs
  | .met o m es, .Call (.Attribute y x q) xs [] q2 => decide (p.nms.getD m "" = x) && noCall y && xs.all noStar && decide (xs.length < 30) && (q.endLine == q2.line) && ch p S false o y && chA p S es xs
  | .oop q a b, .Compare l [op] [r] _ => obC q op && noSet r && ch p S false a l && ch p S false b r
  | .cin o es, .Call y (x :: xs) [] _ => isNm y && noStar x && xs.all noStar && ch p S false o y && chA p S es (x :: xs)
  | .bm m o e, .Call (.Attribute y x q) [z] [] q2 => decide (m.nm = x) && bmOk m && noCall y && noStar z && (q.endLine == q2.line) && ch p S false o y && ch p S false e z
  | .fld o m, .Attribute y x _ => decide (p.nms.getD m "" = x) && noCall y && ch p S false o y
  | .isi a ty, .Call (.Name f _) [y, .Name x _] [] _ => decide (f = "isinstance") && glC S.sc f && decide (ty.nm p = some x) && glC S.sc x && nmC x && noStar y && ch p S false a y
  | .lens a, .Call (.Name f _) [.Call (.Name f2 _) [z] [] _] [] _ => decide (f = "len") && glC S.sc f && decide (f2 = "set") && glC S.sc f2 && noStar z && ch p S false a z
  | .bi b es, .Call (.Name f _) (y :: ys) [] _ => glC S.sc f && !isLens b && decide (b.nm = f) && (y :: ys).all noStar && chA p S es (y :: ys)
  | .com own tg it tt el, .ListComp z [⟨tgE, iter, ifs, as⟩] scope _ => !t && decide (as = 0) && noSet iter && blkC S.N S.sc scope (own.map fun i => (S.N.getD i "", i)) && (tg.ix.all fun i => own.contains i) && tgC (S.blk scope) tg tgE &&
      chI p S it tgE iter && chTt p (S.blk scope) tt ifs && ch p (S.blk scope) false el z
  | .co2 own tg it own1 tg1 it1 tt el, .ListComp z [⟨tgE, iter, [], as⟩, ⟨tgE1, iter1, ifs1, as1⟩] scope _ => !t && decide (as = 0) && decide (as1 = 0) && noSet iter && noSet iter1 && blkC S.N S.sc scope (own.map fun i => (S.N.getD i "", i)) && (tg.ix.all fun i => own.contains i) && (tg1.ix.all fun i => own1.contains i) && (own1.all fun i => own.contains i) && tgC (S.blk scope) tg tgE && tgC (S.blk scope) tg1 tgE1 &&
      chI p S it tgE iter && chI p (S.blk scope) it1 tgE1 iter1 && chTt p (S.blk scope) tt ifs1 && ch p (S.blk scope) false el z
  | _, _ => false
def chAnd (p : Pg) (S : Sx) (t : Bool) : E → List Expr → Bool
  | .and a b, x :: y :: r => ch p S t a x && (match r with
    | [] => ch p S t b y
    | _ :: _ => chAnd p S t b (y :: r))
  | _, _ => false
def chOr (p : Pg) (S : Sx) (t : Bool) : E → List Expr → Bool
  | .or a b, x :: y :: r => ch p S t a x && (match r with
    | [] => ch p S t b y
    | _ :: _ => chOr p S t b (y :: r))
  | _, _ => false
def chA (p : Pg) (S : Sx) : E → List Expr → Bool
  | .nil, [] => true
  | .cons a r, x :: xs => noStar x && ch p S false a x && chA p S r xs
  | .sta a r, .Starred x _ :: xs => ch p S false a x && chA p S r xs
  | _, _ => false
/-- .. of a call: a star ahead only alone -/
def chC (p : Pg) (S : Sx) : E → List Expr → Bool
  | .nil, [] => true
  | .cons a r, x :: xs => noStar x && ch p S false a x && chA p S r xs
  | .sta a .nil, [.Starred x _] => ch p S false a x
  | _, _ => false
def chTt (p : Pg) (S : Sx) : E → List Expr → Bool
  | .nil, [] => true
  | .cons a .nil, [x] => ch p S true a x
  | _, _ => false
def chP (p : Pg) (S : Sx) : E → Option Expr → Bool
  | .nil, none => true
  | .cons a .nil, some x => ch p S false a x
  | _, _ => false
def chI (p : Pg) (S : Sx) : E → Expr → Expr → Bool
  | .rng (.cons a .nil), _, .Call (.Name f _) [x] [] _ => decide (f = "range") && glC S.sc f && noStar x && ch p S false a x
  | .rng (.cons a (.cons b .nil)), _, .Call (.Name f _) [x, y] [] _ => decide (f = "range") && glC S.sc f && noStar x && noStar y && ch p S false a x && ch p S false b y
  | .zip (.cons a (.cons b .nil)), .Tuple _ _ _, .Call (.Name f _) [x, y] [] _ => decide (f = "zip") && glC S.sc f && noStar x && noStar y && ch p S false a x && ch p S false b y
  | .zip (.cons a (.cons b (.cons c .nil))), .Tuple _ _ _, .Call (.Name f _) [x, y, z] [] _ => decide (f = "zip") && glC S.sc f && noStar x && noStar y && noStar z && ch p S false a x && ch p S false b y && ch p S false c z
  | .zip (.cons a (.cons b (.cons c .nil))), .Name _ _, .Call (.Name f _) [x, y, z] [] _ => decide (f = "zip") && glC S.sc f && noStar x && noStar y && noStar z && ch p S false a x && ch p S false b y && ch p S false c z
  | .enu a, .Tuple _ _ _, .Call (.Name f _) [x] [] _ => decide (f = "enumerate") && glC S.sc f && noStar x && ch p S false a x
  | .cons a .nil, _, x => ch p S false a x
  | _, _, _ => false
end
def comC (p : Pg) (S : Sx) (own : List Nat) (tg : Tg) (it tt el : E) (z tgE iter : Expr) (ifs : List Expr) (scope : Scope) : Bool :=
  noSet iter && blkC S.N S.sc scope (own.map fun i => (S.N.getD i "", i)) && (tg.ix.all fun i => own.contains i) && tgC (S.blk scope) tg tgE && chI p S it tgE iter && chTt p (S.blk scope) tt ifs && ch p (S.blk scope) false el z
def co2C (p : Pg) (S : Sx) (own : List Nat) (tg : Tg) (it : E) (own1 : List Nat) (tg1 : Tg) (it1 tt el : E) (z tgE iter tgE1 iter1 : Expr) (ifs1 : List Expr) (scope : Scope) : Bool :=
  noSet iter && noSet iter1 && blkC S.N S.sc scope (own.map fun i => (S.N.getD i "", i)) && (tg.ix.all fun i => own.contains i) && (tg1.ix.all fun i => own1.contains i) && (own1.all fun i => own.contains i) && tgC (S.blk scope) tg tgE && tgC (S.blk scope) tg1 tgE1 &&
    chI p S it tgE iter && chI p (S.blk scope) it1 tgE1 iter1 && chTt p (S.blk scope) tt ifs1 && ch p (S.blk scope) false el z
def fnC (sc : Scope) : Bool := match sc.kind with
  | .function => true
  | _ => false
def isTup : Expr → Bool
  | .Tuple _ _ _ => true
  | .List _ _ => true
  | _ => false
/-- the attributes of a name -/
def atC (p : Pg) (S : Sx) : List Nat → List Expr → Bool
  | [], [] => true
  | x :: xs, .Attribute (.Name y _) f _ :: es => decide (p.nms.getD x "" = f) && decide (S.N[0]? = some y) && visC S.sc y && nmC y && atC p S xs es
  | _, _ => false
def celC (sc : Scope) (x : Str) : Bool := match sc.names.lookup x with
  | some .cell => true
  | _ => false
/-- a name of these is a cell -/
def anyCel (sc : Scope) : List Expr → Bool
  | [] => false
  | .Name x _ :: es => celC sc x || anyCel sc es
  | _ :: es => anyCel sc es
/-- names that are stored side by side -/
def parC (Y : Sx) : List Nat → List Expr → List Expr → Bool
  | [i, j], [.Name x px, .Name y py], [a, b] => fnC Y.sc && decide (Y.N[i]? = some x) && decide (Y.N[j]? = some y) && !decide (i = j) && !decide (x = y) && locC Y.sc x && locC Y.sc y && (py.line == px.line) && noStar a && noStar b && ![a, b].all (foldedForSure 8) && ![a, b].all (constantsAlone 8)
  | [i, j, l], [.Name x px, .Name y py, .Name z pz], [a, b, c] => fnC Y.sc && decide (Y.N[i]? = some x) && decide (Y.N[j]? = some y) && decide (Y.N[l]? = some z) && !decide (i = j) && !decide (i = l) && !decide (j = l) && !decide (x = y) && !decide (x = z) && !decide (y = z) &&
      locC Y.sc x && locC Y.sc y && locC Y.sc z && (py.line == px.line) && (pz.line == px.line) && noStar a && noStar b && noStar c && ![a, b, c].all (foldedForSure 8) && ![a, b, c].all (constantsAlone 8)
  | _, _, _ => false
mutual
def chS (p : Pg) (Y : Sx) : S → Stmt → Bool
  | .nev, _ => true
  | .pas, .Pass _ => true
  | .pas, .Expr (.Constant (.str _) _ _) _ => true
  | .exp e, .Expr x _ => noLc x && ch p Y false e x
  | .ret e, .Return (some x) _ => ch p Y false e x
  | .rtn, .Return none _ => true
  | .ife c a b, .If x s1 s2 _ => ch p Y true c x && chSs p Y a s1 && chSs p Y b s2
  | .asg (.n i) e, .Assign [.Name x _] y _ => decide (Y.N[i]? = some x) && Y.st x && (noLc y || celC Y.sc x) && ch p Y false e y
  | .asg (.t is) e, .Assign [.Tuple es k q] y _ => !isTup y && tgC Y (.t is) (.Tuple es k q) && ch p Y false e y
  | .asg (.q i is) e, .Assign [.Tuple es k q] y _ => tgC Y (.q i is) (.Tuple es k q) && ch p Y false e y
  | .alc i own tg it tt el, .Assign [.Name y py] (.ListComp z [⟨tgE, iter, ifs, as⟩] scope pos) _ => decide (as = 0) && decide (Y.N[i]? = some y) && locC Y.sc y && fnC Y.sc && (py.line == pos.line) && !(scope.names.any fun (n, k) => n == y && (k == .local || k == .cell)) && comC p Y own tg it tt el z tgE iter ifs scope
  | .alc2 i own tg it own1 tg1 it1 tt el, .Assign [.Name y py] (.ListComp z [⟨tgE, iter, [], as⟩, ⟨tgE1, iter1, ifs1, as1⟩] scope pos) _ => decide (as = 0) && decide (as1 = 0) && decide (Y.N[i]? = some y) && locC Y.sc y && fnC Y.sc && (py.line == pos.line) && !(scope.names.any fun (n, k) => n == y && (k == .local || k == .cell)) && co2C p Y own tg it own1 tg1 it1 tt el z tgE iter tgE1 iter1 ifs1 scope
  | .par is es, .Assign [.Tuple ns _ _] (.Tuple vs _ _) _ => (parC Y is ns vs || (decide (is.length ≤ 100) && tgC.go Y is ns && anyCel Y.sc ns)) && chA p Y es vs
  | .sfl o x e, .Assign [.Attribute ob f _] y _ => decide (p.nms.getD x "" = f) && ch p Y false o ob && ch p Y false e y
  | .sfp xs e, .Assign [.Tuple es _ _] y _ => atC p Y xs es && !es.isEmpty && ch p Y false e y
  | .sit o i e, .Assign [.Subscript ob ix _] y _ => noSlice ix && ch p Y false o ob && ch p Y false i ix && ch p Y false e y
  | .dput o i e, .Assign [.Subscript ob ix _] y _ => noLc y && ch p Y false o ob && ch p Y false i ix && ch p Y false e y
  | .app i e, .Expr (.Call (.Attribute (.Name x _) m q2) [y] [] q3) _ => decide (m = "append") && decide (Y.N[i]? = some x) && visC Y.sc x && nmC x && noStar y && (q2.endLine == q3.line) && ch p Y false e y
  | .ext i e, .Expr (.Call (.Attribute (.Name x _) m q2) [y] [] q3) _ => decide (m = "extend") && decide (Y.N[i]? = some x) && visC Y.sc x && nmC x && noStar y && (q2.endLine == q3.line) && ch p Y false e y
  | .for tg it b, .For tgE iter body [] _ => noSet iter && tgC Y tg tgE && chI p Y it tgE iter && chSs p Y b body
  | .whl _ c b, .While x body [] _ => ch p Y true c x && chSs p Y b body
  | _, _ => false
def chSs (p : Pg) (Y : Sx) : S → List Stmt → Bool
  | .nev, _ => true
  | .nil, [] => true
  | .cons (.fzv _) r, sts => chSs p Y r sts
  | .cons a r, st :: sts => chS p Y a st && chSs p Y r sts
  | _, _ => false
end
def stD (scope : Scope) (x : Str) : Bool := match scope.names.lookup x with
  | some .local => true
  | some .cell => true
  | _ => false
open He
def Cla.ad (K : PySem.W.Frag) (k : Cla) : Addr := ga K k.nm
def Fn.ad (K : PySem.W.Frag) (f : Fn) : Addr := if f.pr = true then (match f.pl.2 with
  | some m => (match PySem.W.recIn K (ma K (ga K f.pl.1) m) "property" with
    | some (.ref g :: _) => g
    | _ => (match PySem.W.recIn K (ma K (ga K f.pl.1) m) "staticmethod" with
      | some (.ref g :: _) => g
      | _ => 0))
  | none => 0) else fAd K f.pl
def Pg.cfg (p : Pg) (K : PySem.W.Frag) (mg : Str → Option Value) : Cfg := ⟨K, mg, fun c => match p.cls[c]? with
  | some k => k.ad K
  | none => 0, p.nms, fun i => match p.fns[i]? with
  | some f => f.ad K
  | none => 0, fun i => match p.gens[i]? with
  | some q => fAd K q.pl
  | none => 0⟩
def scC (N : List Str) (np : Nat) (sc : Scope) : Bool := fnC sc && !sc.isCoroutine && !sc.isGenerator && decide N.Nodup && ((N.take np).all fun x => stD sc x) && (sc.names.all fun y => match y.2 with
  | .free => false
  | _ => true)
def pargC (a : Arguments) (ns : List Str) (star : Option Str) : Bool := a.posonlyargs.isEmpty && a.kwonlyargs.isEmpty && a.kwarg.isNone && decide (a.args.map (·.arg) = ns) && decide (a.vararg.map (·.arg) = star)
def isNone' : Value → Bool
  | .none => true
  | _ => false
def fnAtC (K : PySem.W.Frag) (a : Addr) (p : Pg) (f : Fn) : Bool := match K.lookup a with
  | some ⟨_, _, .func fd, _⟩ => decide (fd.globals = mainGlobals) && fd.closure.isEmpty && isNone' fd.defaults && decide (fd.builtins = builtinsNs) && PySem.W.codeIn K fd.code fd.qualname && decide (f.np ≤ f.N.length) && scC f.N f.np fd.scope &&
      (if f.star = true then decide (1 ≤ f.np) && pargC fd.params (f.N.take (f.np - 1)) f.N[f.np - 1]? else pargC fd.params (f.N.take f.np) none) && (match fd.body with
        | .stmts b => chSs p ⟨f.N, fd.scope, stD fd.scope⟩ f.body b
        | _ => false)
  | _ => false
def gscC (N : List Str) (np : Nat) (sc : Scope) : Bool := fnC sc && !sc.isCoroutine && sc.isGenerator && decide N.Nodup && ((N.take np).all fun x => stD sc x) && (sc.names.all fun y => match y.2 with
  | .free => false
  | _ => true)
def gbC (p : Pg) (q : Gn) (sc : Scope) : List Stmt → Bool
  | [.For tgE iter [.If test [.Expr (.Yield (some ey) _) _] [] _] [] _] => noSet iter && tgC ⟨q.N, sc, stD sc⟩ q.tg tgE && chI p ⟨q.N, sc, stD sc⟩ q.it tgE iter && ch p ⟨q.N, sc, stD sc⟩ true q.tt test && ch p ⟨q.N, sc, stD sc⟩ false q.el ey
  | _ => false
def gnAtC (K : PySem.W.Frag) (a : Addr) (p : Pg) (q : Gn) : Bool := match K.lookup a with
  | some ⟨_, _, .func fd, _⟩ => decide (fd.globals = mainGlobals) && fd.closure.isEmpty && isNone' fd.defaults && decide (fd.builtins = builtinsNs) && PySem.W.codeIn K fd.code fd.qualname && decide (q.np ≤ q.N.length) && gscC q.N q.np fd.scope &&
      pargC fd.params (q.N.take q.np) none && (match fd.body with
        | .stmts b => gbC p q fd.scope b
        | _ => false)
  | _ => false
def kitC (K : PySem.W.Frag) (a b : Value) (r : Bool) : Bool := decide (PySem.W.kitOne K a b = some r)
def ofTys : List String := ["NoneType", "int", "bool", "str", "tuple", "list", "dict"]
def isTys : List String := ["NoneType", "int", "bool", "str", "tuple", "list", "dict"]
def noNumC (K : PySem.W.Frag) (a : Addr) (nm : String) : Bool := (match PySem.W.clsIn K a with
  | some cd => decide (cd.mro = [.ref a, .type "object"])
  | none => false) && eqO (PySem.W.findIn K (.ref a) (PySem.dunder nm)) (some none) && eqO (PySem.W.findIn K (.ref a) (dunderR nm)) (some none)
/-- a staticmethod of the class at a -/
def staC (K : PySem.W.Frag) (a : Addr) (m : Str) (f : Addr) : Bool := PySem.W.readsIn K a (.type "type") && eqO (PySem.W.specialIn K (.ref a) "__getattribute__") (some (some (.builtin "type.__getattribute__"))) &&
  He5.wrapB K a "staticmethod" "staticmethod.__get__" m && decide (He5.wf K a "staticmethod" m = f)
def clsC (G : Cfg) (p : Pg) (k : Cla) : Bool :=
  let K := G.K
  let a := k.ad K
  eqO (PySem.W.nsIn K mainGlobals k.nm) (some (some (.ref a))) && (Fa.cls k.nm).ok K && PySem.W.makesIn K a && eqO (PySem.W.findIn K (.ref a) "__init__") (some (some (.ref (G.fa k.init)))) && PySem.W.isFn K (.ref (G.fa k.init)) && PySem.W.keepIn K (.ref a) &&
  (k.prop.all fun q => match PySem.W.findIn K (.ref a) (G.nm q.1) with
    | some (some (.ref r)) => eqO (PySem.W.specialIn K (.ref r) "__get__") (some (some (.builtin "property.__get__"))) && decide (PySem.W.takesIn K (.ref r) = some true) && (match PySem.W.recIn K r "property" with
      | some (.ref g :: _) => decide (g = G.fa q.2)
      | _ => false)
    | _ => false) &&
  (k.meth.all fun q => eqO (PySem.W.findIn K (.ref a) (G.nm q.1)) (some (some (.ref (G.fa q.2)))) && PySem.W.isFn K (.ref (G.fa q.2)) && PySem.W.keepIn K (.ref (G.fa q.2)) && decide (q.1 < p.nms.length)) &&
  (k.flds.all fun x => eqO (PySem.W.findIn K (.ref a) (G.nm x)) (some none) && decide (x < p.nms.length)) &&
  eqO (PySem.W.findIn K (.ref a) "__class__") (some (some (.builtin "object.__class__"))) && decide (PySem.W.mroIn K a (.type "object") = some true) &&
  ((List.range p.cls.length).all fun d => kitC K (.ref a) (.ref (G.ca d)) (k.mro.contains d)) && (isTys.all fun t => kitC K (.ref a) (.type t) false) && (ofTys.all fun t => kitC K (.type t) (.ref a) false) && (k.meth.all fun q => !(decide (q.1 ∈ [mAdd, mAnd])) || PySem.W.selfFirst K a) && (k.nn.all fun x => decide (x ∈ [mAdd, mAnd]) && noNumC K a (opN x)) &&
  (k.gmeth.all fun q => eqO (PySem.W.findIn K (.ref a) (G.nm q.1)) (some (some (.ref (G.gb q.2)))) && PySem.W.isFn K (.ref (G.gb q.2)) && PySem.W.keepIn K (.ref (G.gb q.2)) && decide (q.1 < p.nms.length)) &&
  (k.stat.all fun q => staC K a (G.nm q.1) (G.fa q.2)) && eqO (PySem.W.findIn K (.ref a) "__ne__") (some (some (.builtin "object.__ne__")))
def glbC (G : Cfg) (f : Fn) (a : Addr) : Bool := match f.pl.2 with
  | none => eqO (PySem.W.nsIn G.K mainGlobals f.pl.1) (some (some (.ref a)))
  | some _ => true
def chPg (p : Pg) (K : PySem.W.Frag) : Bool :=
  let G := p.cfg K fun _ => none
  decide p.nms.Nodup && decide (p.nms.take 9 = spNms) && (p.fns.all fun f => glbC G f (f.ad K) && PySem.W.keepIn K (.ref (f.ad K)) && PySem.W.isFn K (.ref (f.ad K)) && fnAtC K (f.ad K) p f) && (p.cls.all fun k => clsC G p k && decide (k.init < p.fns.length)) &&
  (bltNames.all fun x => eqO (PySem.W.nsIn K mainGlobals x) (some none)) && (p.ks.all fun q => match PySem.W.nsIn K mainGlobals (p.nms.getD q.1 "") with
    | some (some u) => relB q.2.v u
    | _ => false) && eqO (PySem.W.specialIn K (.builtin "object.__class__") "__get__") (some (some (.builtin "getset_descriptor.__get__"))) && decide (PySem.W.takesIn K (.builtin "object.__class__") = some true) && (p.gens.all fun q => gnAtC K (fAd K q.pl) p q)
/-- what an object leads to -/
def refsB (o : Obj) : List Addr := match o.data with
  | .dict es _ => es.toList.flatMap fun e => refV e.val
  | .func fd => refV fd.code
  | .cls cd => [cd.ns]
  | .fields vs => vs.toList.flatMap refV
  | _ => []
section
variable {α : Type}
def frL : List Addr → (List Addr → α) → α
  | [], k => k []
  | a :: l, k => HandSHeadRun.frNat a fun a => frL l fun l => k (a :: l)
theorem frL_eq : ∀ (l : List Addr) (k : List Addr → α), frL l k = k l
  | [], _ => rfl
  | a :: l, k => by
    show HandSHeadRun.frNat a (fun a => frL l fun l => k (a :: l)) = _
    rw [HandSHeadRun.frNat_eq, frL_eq l]
variable (g : Addr → Option Obj)
def frB (a : Addr) : List Addr := match g a with
  | some o => refsB o
  | none => []
/-- .. in so many steps -/
def lvs : Nat → List Addr → List Addr
  | 0, as => as
  | n + 1, as => as ++ lvs n (as.flatMap (frB g))
def lvK : Nat → List Addr → (List Addr → α) → α
  | 0, as, k => k as
  | n + 1, as, k => frL (as.flatMap (frB g)) fun bs => lvK n bs fun cs => k (as ++ cs)
theorem lvK_eq : ∀ (n : Nat) (as : List Addr) (k : List Addr → α), lvK g n as k = k (lvs g n as)
  | 0, _, _ => rfl
  | n + 1, as, k => by
    show frL (as.flatMap (frB g)) (fun bs => lvK g n bs fun cs => k (as ++ cs)) = _
    rw [frL_eq, lvK_eq n] <;> rfl
def frK : List Addr → (PySem.W.Frag → α) → α
  | [], k => k []
  | a :: l, k => match g a with
    | some ⟨c, d, dt, sl⟩ => frK l fun K => k ((a, ⟨c, d, dt, sl⟩) :: K)
    | none => frK l k
theorem frK_eq : ∀ (as : List Addr) (k : PySem.W.Frag → α), frK g as k = k (frG g as)
  | [], _ => rfl
  | a :: l, k => by
    show (match g a with
      | some ⟨c, d, dt, sl⟩ => frK g l fun K => k ((a, ⟨c, d, dt, sl⟩) :: K)
      | none => frK g l k) = _
    unfold frG
    rw [List.filterMap_cons]
    cases e : g a with
    | none =>
      show frK g l k = _
      rw [frK_eq l] <;> rfl
    | some o =>
      obtain ⟨c, d, dt, sl⟩ := o
      show frK g l (fun K => k ((a, ⟨c, d, dt, sl⟩) :: K)) = _
      rw [frK_eq l] <;> rfl
end
def obsF (m : Nat) (p : Pg) (g : Addr → Option Obj) : Bool := lvK g m [mainGlobals] fun as => frK g (cStatics :: as) fun K => chPg p K
theorem obsF_eq (m : Nat) (p : Pg) (g : Addr → Option Obj) : obsF m p g = chPg p (frG g (cStatics :: lvs g m [mainGlobals])) := by
  unfold obsF
  rw [lvK_eq, frK_eq]
def hookW (m : Nat) (p : Pg) : PySem.W.Hook where
  α := Bool
  obs := fun s => obsF m p s.heap.get?
  val := fun _ => true
  says := fun _ h => ∃ K : PySem.W.Frag, K.In h ∧ chPg p K = true
  of := fun _ s e => ⟨_, frG_in, by
    rw [← obsF_eq]
    exact e⟩
  keeps := fun _ _ _ ⟨K, hK, c⟩ k => ⟨K, PySem.W.Frag.In.keeps hK k, c⟩
def obsW (m : Nat) (p : Pg) (s : PySem.W.SharedT) : Bool := obsF m p (HandSHeadRun.getT s)
theorem obsW_eq {m : Nat} {p : Pg} (s : PySem.W.SharedT) : obsW m p s = (hookW m p).obs s.abs := by
  have e : HandSHeadRun.getT s = s.abs.heap.get? := funext (HandSHeadRun.getT_eq s)
  unfold obsW
  rw [e]
  rfl
end Wv
namespace IR
open PySem L2 Wv
def F_law : Fn := ⟨("law", none), false, "law", ["_law_script", "_law_cell_here", "_law_pen_here", "_law_lap", "_law_variant", "_law_things", "_law_thing", "_law_shape", "_law_rules", "_law_wide", "_law_others"], 1, false, (.cons (.for (.n 1) (.cons (.bin .add (.lst (.cons (.cal 3 (.cons (.var 0) (.cons (.con (.int (0))) .nil))) .nil)) (.slc (.var 0) (.cons (.con (.int (1))) .nil) (.cons (.con (.int (3))) .nil))) .nil) (.cons (.asg (.n 2) (.cal 4 (.cons (.var 1) .nil))) (.cons (.for (.n 3) (.rng (.cons (.con (.int (20))) .nil)) (.cons (.asg (.n 7) (.cal 5 (.cons (.var 2) .nil))) (.cons (.asg (.n 8) (.cal 6 (.cons (.var 2) (.cons (.var 7) .nil)))) (.cons (.asg (.t [9, 10]) (.cal 7 (.cons (.var 2) (.cons (.var 7) (.cons (.var 8) .nil))))) (.cons (.ife (.or (.not (.cal 8 (.cons (.var 7) (.cons (.var 8) (.cons (.var 9) (.cons (.var 10) .nil)))))) (.not (.cal 8 (.cons (.var 7) (.cons (.var 8) (.cons (.var 7) (.cons (.var 8) .nil))))))) (.cons (.ret (.con (.bl false))) .nil) .nil) .nil))))) (.cons (.asg (.n 4) (.new 1 (.cons (.var 7) (.cons (.var 8) .nil)))) (.cons (.asg (.n 5) (.lst (.cons (.var 7) (.cons (.var 8) (.cons (.met (.var 4) 9 .nil) (.cons (.rpo (.var 4)) (.cons (.lst (.cons (.var 4) .nil)) (.cons (.new 0 (.cons (.var 7) (.cons (.var 4) .nil))) .nil)))))))) (.cons (.for (.n 6) (.cons (.bin .add (.cal 9 .nil) (.var 5)) .nil) (.cons (.ife (.not (.cal 10 (.cons (.lst (.cons (.oop .eq (.var 4) (.var 6)) (.cons (.oop .eq (.var 6) (.var 4)) (.cons (.oop .ne (.var 4) (.var 6)) .nil)))) (.cons (.lst (.cons (.con (.bl false)) (.cons (.con (.bl false)) (.cons (.con (.bl true)) .nil)))) .nil)))) (.cons (.ret (.con (.bl false))) .nil) .nil) .nil)) .nil)))))) (.cons (.ret (.and (.cal 8 (.cons (.tup (.cons (.con (.int (1))) .nil)) (.cons (.tup (.cons (.con .non) .nil)) (.cons (.tup (.cons (.con (.int (1))) .nil)) (.cons (.tup (.cons (.tup (.cons (.con (.int (0))) .nil)) .nil)) .nil))))) (.cal 8 (.cons (.tup (.cons (.con (.int (1))) (.cons (.con (.int (1))) .nil))) (.cons (.tup (.cons (.con .non) (.cons (.tup .nil) .nil))) (.cons (.tup (.cons (.con (.int (1))) (.cons (.con (.int (2))) .nil))) (.cons (.tup (.cons (.con .non) (.cons (.tup .nil) .nil))) .nil))))))) .nil))⟩
abbrev f0 : Fn := F_law
def F_Schema_init : Fn := ⟨("Schema", some "__init__"), false, "Schema.__init__", ["self", "shape", "variants", "one"], 3, true, (.cons (.exp (.cal 11 (.cons (.var 1) .nil))) (.cons (.ife (.or (.cmp .eq (.var 2) (.tup .nil)) (.not (.bi .all (.cons (.com [3] (.n 3) (.cons (.var 2) .nil) .nil (.isi (.var 3) (.own 1))) .nil)))) .nev .nil) (.cons (.ife (.not (.bi .all (.cons (.com [3] (.n 3) (.cons (.var 2) .nil) .nil (.cmp .eq (.fld (.var 3) 10) (.var 1))) .nil))) .nev .nil) (.cons (.ife (.cmp .gt (.bi .len (.cons (.var 2) .nil)) (.glo 11 (.int (6)))) .nev .nil) (.cons (.sfp [12, 13] (.tup (.cons (.var 1) (.cons (.var 2) .nil)))) .nil)))))⟩
abbrev f1 : Fn := F_Schema_init
def F_Variant_init : Fn := ⟨("Variant", some "__init__"), false, "Variant.__init__", ["self", "shape", "rules"], 3, false, (.cons (.exp (.cal 11 (.cons (.var 1) .nil))) (.cons (.ife (.not (.cal 12 (.cons (.var 2) (.cons (.var 1) .nil)))) .nev .nil) (.cons (.sfp [12, 13] (.tup (.cons (.var 1) (.cons (.var 2) .nil)))) .nil)))⟩
abbrev f2 : Fn := F_Variant_init
def F__law_cell : Fn := ⟨("_law_cell", none), false, "_law_cell", ["_law_script", "_law_k"], 2, false, (.cons (.ret (.ife (.cmp .lt (.var 1) (.bi .len (.cons (.var 0) .nil))) (.idx (.var 0) (.var 1)) (.con (.int (0))))) .nil)⟩
abbrev f3 : Fn := F__law_cell
def F__law_pen : Fn := ⟨("_law_pen", none), false, "_law_pen", ["_law_cell_here"], 1, false, (.cons (.ret (.lsc (.cons (.bi .max2 (.cons (.con (.int (0))) (.cons (.bin .sub (.var 0) (.bin .pow (.con (.int (10))) (.con (.int (18))))) .nil))) (.cons (.bin .add (.bin .mod (.var 0) (.con (.int (2147483629)))) (.con (.int (1)))) (.cons (.con (.int (0))) .nil))))) .nil)⟩
abbrev f4 : Fn := F__law_pen
def F__law_draw_shape : Fn := ⟨("_law_draw_shape", none), false, "_law_draw_shape", ["_law_pen_here", "_law_forms", "_law_row", "_law_by"], 1, false, (.cons (.asg (.n 1) (.lst (.cons (.tup (.cons (.con (.int (1))) .nil)) (.cons (.tup (.cons (.con (.int (4))) .nil)) (.cons (.tup (.cons (.con (.int (2))) (.cons (.con (.int (2))) .nil))) (.cons (.tup (.cons (.con (.int (1))) (.cons (.con (.int (3))) .nil))) (.cons (.tup (.cons (.con (.int (3))) (.cons (.con (.int (3))) .nil))) (.cons (.tup (.cons (.con (.int (4))) (.cons (.con (.int (2))) .nil))) (.cons (.tup (.cons (.con (.int (1))) (.cons (.con (.int (1))) (.cons (.con (.int (1))) .nil)))) (.cons (.tup (.cons (.con (.int (2))) (.cons (.con (.int (1))) (.cons (.con (.int (2))) .nil)))) (.cons (.tup (.cons (.con (.int (3))) (.cons (.con (.int (1))) (.cons (.con (.int (1))) .nil)))) (.cons (.tup (.cons (.con (.int (1))) (.cons (.con (.int (1))) (.cons (.con (.int (1))) (.cons (.con (.int (1))) .nil))))) (.cons (.tup (.cons (.con (.int (2))) (.cons (.con (.int (1))) (.cons (.con (.int (1))) (.cons (.con (.int (1))) .nil))))) .nil))))))))))))) (.cons (.asg (.n 2) (.bi .lst (.cons (.cal 13 (.cons (.var 0) (.cons (.bin .add (.var 1) (.lst (.cons (.tup (.cons (.con (.int (1))) (.cons (.con (.int (1))) (.cons (.con (.int (1))) (.cons (.con (.int (1))) (.cons (.con (.int (1))) .nil)))))) (.cons (.tup (.cons (.con (.int (1))) (.cons (.con (.int (2))) (.cons (.con (.int (2))) (.cons (.con (.int (1))) .nil))))) (.cons (.tup (.cons (.con (.int (4))) (.cons (.con (.int (1))) (.cons (.con (.int (2))) .nil)))) (.cons (.tup (.cons (.con (.int (3))) (.cons (.con (.int (3))) .nil))) (.cons (.tup (.cons (.con (.int (2))) (.cons (.con (.int (2))) (.cons (.con (.int (2))) .nil)))) .nil))))))) .nil))) .nil))) (.cons (.asg (.n 3) (.cal 14 (.cons (.var 0) (.cons (.bi .len (.cons (.var 2) .nil)) .nil)))) (.cons (.ret (.bi .tup (.cons (.bin .add (.slc (.var 2) (.cons (.var 3) .nil) .nil) (.slc (.var 2) .nil (.cons (.var 3) .nil))) .nil))) .nil))))⟩
abbrev f5 : Fn := F__law_draw_shape
def F__law_draw_rules : Fn := ⟨("_law_draw_rules", none), false, "_law_draw_rules", ["_law_pen_here", "_law_shape", "_law_size"], 2, false, (.cons (.ret (.bi .tup (.cons (.com [2] (.n 2) (.cons (.var 1) .nil) .nil (.cal 15 (.cons (.var 0) (.cons (.var 2) .nil)))) .nil))) .nil)⟩
abbrev f6 : Fn := F__law_draw_rules
def F__law_near : Fn := ⟨("_law_near", none), false, "_law_near", ["_law_pen_here", "_law_shape", "_law_rules", "_law_way", "_law_spot"], 3, false, (.cons (.par [3, 4] (.cons (.cal 14 (.cons (.var 0) (.cons (.con (.int (4))) .nil))) (.cons (.cal 14 (.cons (.var 0) (.cons (.bi .len (.cons (.var 1) .nil)) .nil))) .nil))) (.cons (.ife (.cmp .eq (.var 3) (.con (.int (0)))) (.cons (.ret (.tup (.cons (.var 1) (.cons (.bin .add (.bin .add (.slc (.var 2) .nil (.cons (.var 4) .nil)) (.tup (.cons (.cal 15 (.cons (.var 0) (.cons (.idx (.var 1) (.var 4)) .nil))) .nil))) (.slc (.var 2) (.cons (.bin .add (.var 4) (.con (.int (1)))) .nil) .nil)) .nil)))) .nil) .nil) (.cons (.ife (.and (.cmp .eq (.var 3) (.con (.int (1)))) (.and (.cmp .lt (.idx (.var 1) (.con (.int (0)))) (.con (.int (4)))) (.cmp .lt (.bi .len (.cons (.var 1) .nil)) (.con (.int (4)))))) (.cons (.ret (.tup (.cons (.bin .add (.tup (.cons (.bin .add (.idx (.var 1) (.con (.int (0)))) (.con (.int (1)))) .nil)) (.slc (.var 1) (.cons (.con (.int (1))) .nil) .nil)) (.cons (.var 2) .nil)))) .nil) .nil) (.cons (.ret (.ife (.cmp .eq (.var 3) (.con (.int (2)))) (.tup (.cons (.var 1) (.cons (.var 2) .nil))) (.tup (.cons (.var 1) (.cons (.cal 6 (.cons (.var 0) (.cons (.var 1) .nil))) .nil))))) .nil))))⟩
abbrev f7 : Fn := F__law_near
def F__law_is_right : Fn := ⟨("_law_is_right", none), false, "_law_is_right", ["_law_shape", "_law_rules", "_law_wide", "_law_others", "_law_due", "_law_one", "_law_other"], 4, false, (.cons (.par [5, 6] (.cons (.new 1 (.cons (.var 0) (.cons (.var 1) .nil))) (.cons (.new 1 (.cons (.var 2) (.cons (.var 3) .nil))) .nil))) (.cons (.asg (.n 4) (.cmp .eq (.tup (.cons (.var 0) (.cons (.var 1) .nil))) (.tup (.cons (.var 2) (.cons (.var 3) .nil))))) (.cons (.ret (.cal 10 (.cons (.lst (.cons (.oop .eq (.var 5) (.var 6)) (.cons (.oop .eq (.var 6) (.var 5)) (.cons (.oop .ne (.var 5) (.var 6)) (.cons (.oop .eq (.var 5) (.var 5)) .nil))))) (.cons (.lst (.cons (.var 4) (.cons (.var 4) (.cons (.not (.var 4)) (.cons (.con (.bl true)) .nil))))) .nil)))) .nil)))⟩
abbrev f8 : Fn := F__law_is_right
def F__law_odds : Fn := ⟨("_law_odds", none), false, "_law_odds", ["_law_found"], 0, false, (.cons (.asg (.n 0) (.lst (.cons (.con .non) (.cons (.con (.bl true)) (.cons (.con (.bl false)) (.cons (.con (.int (0))) (.cons (.con (.int (1))) (.cons (.con (.int (2))) (.cons (.con (.int (4))) (.cons (.con (.int (5))) (.cons (.neg (.con (.int (1)))) (.cons (.neg (.con (.int (2)))) (.cons (.bin .sub (.bin .pow (.con (.int (10))) (.con (.int (13)))) (.con (.int (1)))) (.cons (.con (.str "")) (.cons (.con (.str "any")) (.cons (.con (.str "0")) (.cons (.tup .nil) (.cons (.lst .nil) (.cons (.dic [] .nil) (.cons (.tup (.cons (.con (.int (0))) .nil)) (.cons (.tup (.cons (.con (.int (1))) .nil)) (.cons (.lst (.cons (.con (.int (1))) .nil)) .nil)))))))))))))))))))))) (.cons (.asg (.n 0) (.bin .add (.var 0) (.lst (.cons (.tup (.cons (.con (.bl true)) .nil)) (.cons (.tup (.cons (.con (.int (1))) (.cons (.con (.int (1))) .nil))) (.cons (.tup (.cons (.con (.int (0))) (.cons (.con (.int (1))) .nil))) (.cons (.tup (.cons (.con (.int (1))) (.cons (.con (.int (0))) .nil))) (.cons (.tup (.cons (.con (.int (2))) (.cons (.con (.int (5))) .nil))) (.cons (.tup (.cons (.neg (.con (.int (1)))) (.cons (.con (.int (0))) .nil))) (.cons (.tup (.cons (.neg (.con (.int (1)))) .nil)) (.cons (.tup (.cons (.con (.bl false)) (.cons (.con (.int (0))) .nil))) (.cons (.tup (.cons (.con (.str "1")) (.cons (.con (.str "1")) .nil))) (.cons (.tup (.cons (.con .non) .nil)) .nil))))))))))))) (.cons (.asg (.n 0) (.bin .add (.var 0) (.lst (.cons (.tup (.cons (.tup .nil) .nil)) (.cons (.tup (.cons (.tup .nil) (.cons (.tup .nil) .nil))) (.cons (.tup (.cons (.tup (.cons (.con (.int (0))) .nil)) (.cons (.con .non) .nil))) (.cons (.tup (.cons (.tup (.cons (.con (.int (0))) .nil)) (.cons (.tup (.cons (.con (.int (0))) .nil)) .nil))) (.cons (.tup (.cons (.tup (.cons (.con (.int (0))) .nil)) (.cons (.lst (.cons (.con (.int (0))) .nil)) .nil))) (.cons (.tup (.cons (.tup (.cons (.con (.int (0))) (.cons (.con (.int (0))) .nil))) (.cons (.con .non) .nil))) (.cons (.tup (.cons (.tup (.cons (.con (.int (1))) (.cons (.con (.int (0))) .nil))) .nil)) (.cons (.tup (.cons (.tup (.cons (.con (.bl true)) .nil)) (.cons (.tup .nil) .nil))) .nil))))))))))) (.cons (.asg (.n 0) (.bin .add (.var 0) (.lst (.cons (.lst (.cons (.con (.int (1))) (.cons (.con (.int (1))) .nil))) (.cons (.lst (.cons (.con .non) (.cons (.con .non) .nil))) (.cons (.dic [.inl (0)] (.cons (.con (.int (1))) .nil)) (.cons (.lst (.cons (.lst .nil) .nil)) (.cons (.tup (.cons (.con (.int (1))) (.cons (.con (.int (1))) (.cons (.con (.int (1))) .nil)))) (.cons (.tup (.cons (.con (.int (4))) (.cons (.con (.int (4))) (.cons (.con (.int (4))) (.cons (.con (.int (4))) .nil))))) (.cons (.tup (.cons (.con (.int (3))) (.cons (.con (.int (3))) (.cons (.con (.int (3))) (.cons (.con (.int (3))) .nil))))) (.cons (.tup (.cons (.con (.int (3))) (.cons (.con (.int (3))) (.cons (.con (.int (3))) (.cons (.con (.int (4))) .nil))))) .nil))))))))))) (.cons (.asg (.n 0) (.bin .add (.var 0) (.lst (.cons (.tup (.cons (.con (.str "clear")) (.cons (.tup .nil) .nil))) (.cons (.tup (.cons (.con (.str "doubtful")) (.cons (.con (.int (0))) (.cons (.con (.int (1))) (.cons (.tup (.cons (.con (.int (0))) (.cons (.con (.int (0))) .nil))) .nil))))) (.cons (.tup (.cons (.con (.int (0))) (.cons (.con (.int (1))) (.cons (.con (.int (0))) .nil)))) (.cons (.tup (.cons (.tup (.cons (.tup (.cons (.tup (.cons (.con (.int (0))) .nil)) .nil)) .nil)) .nil)) (.cons (.dic [.inr "a"] (.cons (.lst (.cons (.con (.int (0))) .nil)) .nil)) (.cons (.tup (.cons (.con (.int (1))) (.cons (.con (.int (2))) (.cons (.con (.int (3))) (.cons (.con (.int (4))) (.cons (.con (.int (4))) .nil)))))) .nil))))))))) (.cons (.asg (.n 0) (.bin .add (.var 0) (.lst (.cons (.tup (.cons (.con (.int (4))) (.cons (.con (.int (4))) (.cons (.con (.int (4))) (.cons (.con (.int (1))) .nil))))) (.cons (.tup (.cons (.con .non) (.cons (.con .non) .nil))) (.cons (.bin .mul (.tup (.cons (.con (.int (1))) .nil)) (.con (.int (6)))) (.cons (.tup (.cons (.con (.int (2))) (.cons (.con (.int (2))) (.cons (.con (.int (2))) (.cons (.con (.int (2))) (.cons (.con (.int (2))) .nil)))))) (.cons (.tup (.cons (.tup (.cons (.neg (.con (.int (1)))) .nil)) (.cons (.tup .nil) .nil))) .nil)))))))) (.cons (.ret (.bin .add (.var 0) (.lst (.cons (.tup (.cons (.tup (.cons (.con (.int (4))) .nil)) .nil)) (.cons (.tup (.cons (.con (.int (0))) (.cons (.tup (.cons (.con .non) (.cons (.con (.int (0))) .nil))) .nil))) .nil))))) .nil)))))))⟩
abbrev f9 : Fn := F__law_odds
def F__law_same : Fn := ⟨("_law_same", none), false, "_law_same", ["_law_actual", "_law_due"], 2, false, (.cons (.ret (.cmp .eq (.bi .repr (.cons (.var 0) .nil)) (.bi .repr (.cons (.var 1) .nil)))) .nil)⟩
abbrev f10 : Fn := F__law_same
def F_need_shape : Fn := ⟨("need_shape", none), false, "need_shape", ["thing"], 1, false, (.cons (.ife (.not (.cal 16 (.cons (.var 0) .nil))) .nev .nil) .nil)⟩
abbrev f11 : Fn := F_need_shape
def F_are_rules : Fn := ⟨("are_rules", none), false, "are_rules", ["thing", "shape", "rule", "size"], 2, false, (.cons (.ife (.or (.not (.isi (.var 0) .tup)) (.cmp .ne (.bi .len (.cons (.var 0) .nil)) (.bi .len (.cons (.var 1) .nil)))) (.cons (.ret (.con (.bl false))) .nil) .nil) (.cons (.ret (.bi .all (.cons (.com [2, 3] (.t [2, 3]) (.zip (.cons (.var 0) (.cons (.var 1) .nil))) .nil (.cal 17 (.cons (.var 2) (.cons (.var 3) .nil)))) .nil))) .nil))⟩
abbrev f12 : Fn := F_are_rules
def F__law_pick : Fn := ⟨("_law_pick", none), false, "_law_pick", ["_law_pen_here", "_law_values"], 2, false, (.cons (.ret (.idx (.var 1) (.cal 14 (.cons (.var 0) (.cons (.bi .len (.cons (.var 1) .nil)) .nil))))) .nil)⟩
abbrev f13 : Fn := F__law_pick
def F__law_draw : Fn := ⟨("_law_draw", none), false, "_law_draw", ["_law_pen_here", "_law_many", "_law_stirred", "_law_found"], 2, false, (.cons (.ife (.cmp .gt (.idx (.var 0) (.con (.int (0)))) (.con (.int (0)))) (.cons (.asg (.n 3) (.bin .mod (.idx (.var 0) (.con (.int (0)))) (.var 1))) (.cons (.sit (.var 0) (.con (.int (0))) (.bin .fdiv (.idx (.var 0) (.con (.int (0)))) (.var 1))) (.cons (.ret (.var 3)) .nil))) .nil) (.cons (.sit (.var 0) (.con (.int (2))) (.bin .add (.idx (.var 0) (.con (.int (2)))) (.con (.int (1))))) (.cons (.sit (.var 0) (.con (.int (1))) (.bin .mod (.bin .add (.bin .add (.bin .mul (.idx (.var 0) (.con (.int (1)))) (.con (.int (48271)))) (.bin .mul (.con (.int (1009))) (.idx (.var 0) (.con (.int (2)))))) (.con (.int (7)))) (.con (.int (2147483647))))) (.cons (.asg (.n 2) (.bin .mod (.bin .add (.bin .add (.bin .mul (.idx (.var 0) (.con (.int (1)))) (.idx (.var 0) (.con (.int (1))))) (.bin .mul (.con (.int (69621))) (.idx (.var 0) (.con (.int (1)))))) (.con (.int (11)))) (.con (.int (2147483629))))) (.cons (.asg (.n 2) (.bin .mod (.bin .add (.bin .mul (.var 2) (.var 2)) (.bin .mul (.con (.int (40014))) (.var 2))) (.con (.int (2147483587))))) (.cons (.ret (.bin .mod (.bin .fdiv (.var 2) (.con (.int (16)))) (.var 1))) .nil))))))⟩
abbrev f14 : Fn := F__law_draw
def F__law_draw_rule : Fn := ⟨("_law_draw_rule", none), false, "_law_draw_rule", ["_law_pen_here", "_law_size", "_law_way", "_law_value"], 2, false, (.cons (.asg (.n 2) (.cal 14 (.cons (.var 0) (.cons (.con (.int (6))) .nil)))) (.cons (.ife (.cmp .lt (.var 2) (.con (.int (2)))) (.cons (.ret (.con .non)) .nil) .nil) (.cons (.ife (.cmp .eq (.var 2) (.con (.int (2)))) (.cons (.ret (.tup .nil)) .nil) .nil) (.cons (.ife (.cmp .eq (.var 2) (.con (.int (3)))) (.cons (.ret (.tup (.cons (.cal 14 (.cons (.var 0) (.cons (.var 1) .nil))) .nil))) .nil) .nil) (.cons (.ife (.cmp .eq (.var 2) (.con (.int (4)))) (.cons (.ret (.tupr (.cons (.var 1) .nil))) .nil) .nil) (.cons (.ret (.bi .tup (.cons (.com [3] (.n 3) (.rng (.cons (.var 1) .nil)) (.cons (.cmp .eq (.cal 14 (.cons (.var 0) (.cons (.con (.int (2))) .nil))) (.con (.int (0)))) .nil) (.var 3)) .nil))) .nil))))))⟩
abbrev f15 : Fn := F__law_draw_rule
def F_are_sizes : Fn := ⟨("are_sizes", none), false, "are_sizes", ["thing", "one"], 1, false, (.cons (.ife (.or (.not (.isi (.var 0) .tup)) (.not (.chn .le .le (.con (.int (1))) (.bi .len (.cons (.var 0) .nil)) (.glo 14 (.int (5)))))) (.cons (.ret (.con (.bl false))) .nil) .nil) (.cons (.ret (.and (.bi .all (.cons (.com [1] (.n 1) (.cons (.var 0) .nil) .nil (.cal 19 (.cons (.var 1) (.cons (.con (.int (1))) (.cons (.glo 16 (.int (4))) .nil))))) .nil)) (.cmp .le (.cal 18 (.cons (.var 0) .nil)) (.glo 15 (.int (256)))))) .nil))⟩
abbrev f16 : Fn := F_are_sizes
def F_is_rule : Fn := ⟨("is_rule", none), false, "is_rule", ["thing", "size", "one", "other", "value"], 2, false, (.cons (.ife (.cmp .isN (.var 0) (.con .non)) (.cons (.ret (.con (.bl true))) .nil) .nil) (.cons (.ife (.or (.not (.isi (.var 0) .tup)) (.not (.bi .all (.cons (.com [4] (.n 4) (.cons (.var 0) .nil) .nil (.cal 19 (.cons (.var 4) (.cons (.con (.int (0))) (.cons (.bin .sub (.var 1) (.con (.int (1)))) .nil))))) .nil)))) (.cons (.ret (.con (.bl false))) .nil) .nil) (.cons (.ret (.bi .all (.cons (.com [2, 3] (.t [2, 3]) (.zip (.cons (.var 0) (.cons (.slc (.var 0) (.cons (.con (.int (1))) .nil) .nil) .nil))) .nil (.cmp .lt (.var 2) (.var 3))) .nil))) .nil)))⟩
abbrev f17 : Fn := F_is_rule
def F_how_many : Fn := ⟨("how_many", none), false, "how_many", ["shape", "found", "size"], 1, false, (.cons (.asg (.n 1) (.con (.int (1)))) (.cons (.for (.n 2) (.cons (.var 0) .nil) (.cons (.asg (.n 1) (.bin .mul (.var 1) (.bin .add (.var 2) (.con (.int (1)))))) .nil)) (.cons (.ret (.var 1)) .nil)))⟩
abbrev f18 : Fn := F_how_many
def F_is_between : Fn := ⟨("is_between", none), false, "is_between", ["thing", "least", "most"], 3, false, (.cons (.ret (.and (.cal 20 (.cons (.var 0) .nil)) (.chn .le .le (.var 1) (.var 0) (.var 2)))) .nil)⟩
abbrev f19 : Fn := F_is_between
def F_is_integer : Fn := ⟨("is_integer", none), false, "is_integer", ["thing"], 1, false, (.cons (.ret (.and (.isi (.var 0) .int) (.not (.isi (.var 0) .bool)))) .nil)⟩
abbrev f20 : Fn := F_is_integer
def F_Schema_shape : Fn := ⟨("Schema", some "shape"), true, "Schema.shape", ["self"], 1, false, (.cons (.ret (.fld (.var 0) 12)) .nil)⟩
abbrev f21 : Fn := F_Schema_shape
def F_Schema_call : Fn := ⟨("Schema", some "__call__"), false, "Schema.__call__", ["self", "record"], 2, false, (.cons (.ife (.not (.cal 33 (.cons (.var 1) (.cons (.fld (.var 0) 12) .nil)))) .nev .nil) (.cons (.ret (.cal 34 (.cons (.fld (.var 0) 13) (.cons (.var 1) .nil)))) .nil))⟩
abbrev f22 : Fn := F_Schema_call
def F_Schema_len : Fn := ⟨("Schema", some "__len__"), false, "Schema.__len__", ["self"], 1, false, (.cons (.ret (.bi .len (.cons (.fld (.var 0) 13) .nil))) .nil)⟩
abbrev f23 : Fn := F_Schema_len
def F_Schema_add : Fn := ⟨("Schema", some "__add__"), false, "Schema.__add__", ["self", "variant"], 2, false, (.cons (.exp (.cal 35 (.cons (.var 0) (.cons (.var 1) .nil)))) (.cons (.ret (.new 0 (.cons (.fld (.var 0) 12) (.sta (.fld (.var 0) 13) (.cons (.var 1) .nil))))) .nil))⟩
abbrev f24 : Fn := F_Schema_add
def F_Schema_eq : Fn := ⟨("Schema", some "__eq__"), false, "Schema.__eq__", ["self", "other"], 2, false, (.cons (.ret (.and (.isi (.var 1) (.own 0)) (.and (.cmp .eq (.fld (.var 0) 12) (.fld (.var 1) 12)) (.cmp .eq (.fld (.var 0) 13) (.fld (.var 1) 13))))) .nil)⟩
abbrev f25 : Fn := F_Schema_eq
def F_Schema_repr : Fn := ⟨("Schema", some "__repr__"), false, "Schema.__repr__", ["self"], 1, false, (.cons (.ret (.fst (.cons (.con (.str "Schema(")) (.cons (.fmt (.bi .len (.cons (.fld (.var 0) 13) .nil))) (.cons (.con (.str " variants, ")) (.cons (.fmt (.bi .len (.cons (.fld (.var 0) 12) .nil))) (.cons (.con (.str " fields)")) .nil))))))) .nil)⟩
abbrev f26 : Fn := F_Schema_repr
def F_Variant_text : Fn := ⟨("Variant", some "text"), false, "Variant.text", ["self", "rule"], 1, false, (.cons (.ret (.bm .join (.con (.str "")) (.com [1] (.n 1) (.cons (.fld (.var 0) 13) .nil) .nil (.cal 36 (.cons (.var 1) .nil))))) .nil)⟩
abbrev f27 : Fn := F_Variant_text
def F_Variant_shape : Fn := ⟨("Variant", some "shape"), true, "Variant.shape", ["self"], 1, false, (.cons (.ret (.fld (.var 0) 12)) .nil)⟩
abbrev f28 : Fn := F_Variant_shape
def F_Variant_call : Fn := ⟨("Variant", some "__call__"), false, "Variant.__call__", ["self", "record"], 2, false, (.cons (.ife (.not (.cal 33 (.cons (.var 1) (.cons (.fld (.var 0) 12) .nil)))) .nev .nil) (.cons (.ret (.cal 37 (.cons (.var 1) (.cons (.fld (.var 0) 13) .nil)))) .nil))⟩
abbrev f29 : Fn := F_Variant_call
def F_Variant_len : Fn := ⟨("Variant", some "__len__"), false, "Variant.__len__", ["self"], 1, false, (.cons (.ret (.bi .len (.cons (.cal 38 (.cons (.fld (.var 0) 12) (.cons (.fld (.var 0) 13) .nil))) .nil))) .nil)⟩
abbrev f30 : Fn := F_Variant_len
def F_Variant_eq : Fn := ⟨("Variant", some "__eq__"), false, "Variant.__eq__", ["self", "other"], 2, false, (.cons (.ret (.and (.isi (.var 1) (.own 1)) (.and (.cmp .eq (.fld (.var 0) 12) (.fld (.var 1) 12)) (.cmp .eq (.fld (.var 0) 13) (.fld (.var 1) 13))))) .nil)⟩
abbrev f31 : Fn := F_Variant_eq
def F_Variant_repr : Fn := ⟨("Variant", some "__repr__"), false, "Variant.__repr__", ["self"], 1, false, (.cons (.ret (.fst (.cons (.con (.str "Variant(")) (.cons (.fmt (.bi .len (.cons (.fld (.var 0) 18) .nil))) (.cons (.con (.str " required, ")) (.cons (.fmt (.bi .len (.cons (.fld (.var 0) 17) .nil))) (.cons (.con (.str " forbidden)")) .nil))))))) .nil)⟩
abbrev f32 : Fn := F_Variant_repr
def F_is_record : Fn := ⟨("is_record", none), false, "is_record", ["thing", "shape", "outcome", "size"], 2, false, (.cons (.ife (.or (.not (.isi (.var 0) .tup)) (.cmp .ne (.bi .len (.cons (.var 0) .nil)) (.bi .len (.cons (.var 1) .nil)))) (.cons (.ret (.con (.bl false))) .nil) .nil) (.cons (.ret (.bi .all (.cons (.com [2, 3] (.t [2, 3]) (.zip (.cons (.var 0) (.cons (.var 1) .nil))) .nil (.cal 39 (.cons (.var 2) (.cons (.var 3) .nil)))) .nil))) .nil))⟩
abbrev f33 : Fn := F_is_record
def F_fits_of : Fn := ⟨("fits_of", none), false, "fits_of", ["variants", "record", "number", "variant"], 2, false, (.cons (.ret (.bi .tup (.cons (.com [2, 3] (.t [2, 3]) (.enu (.var 0)) (.cons (.cal 37 (.cons (.var 1) (.cons (.fld (.var 3) 19) .nil))) .nil) (.var 2)) .nil))) .nil)⟩
abbrev f34 : Fn := F_fits_of
def F_need_like : Fn := ⟨("need_like", none), false, "need_like", ["variant", "other"], 2, false, (.cons (.exp (.cal 40 (.cons (.var 1) .nil))) (.cons (.ife (.cmp .ne (.fld (.var 1) 10) (.fld (.var 0) 10)) .nev .nil) .nil))⟩
abbrev f35 : Fn := F_need_like
def F_line_of : Fn := ⟨("line_of", none), false, "line_of", ["rule", "value"], 1, false, (.cons (.ife (.cmp .isN (.var 0) (.con .non)) (.cons (.ret (.bin .add (.glo 20 (.str "any")) (.con (.str "\n")))) .nil) .nil) (.cons (.ret (.bin .add (.ife (.cmp .eq (.var 0) (.tup .nil)) (.glo 21 (.str "never")) (.bin .add (.glo 22 (.str "one of ")) (.bm .join (.con (.str " ")) (.com [1] (.n 1) (.cons (.var 0) .nil) .nil (.bi .str (.cons (.var 1) .nil)))))) (.con (.str "\n")))) .nil))⟩
abbrev f36 : Fn := F_line_of
def F_are_kept : Fn := ⟨("are_kept", none), false, "are_kept", ["record", "rules", "outcome", "rule"], 2, false, (.cons (.ret (.bi .all (.cons (.com [2, 3] (.t [2, 3]) (.zip (.cons (.var 0) (.cons (.var 1) .nil))) .nil (.cal 41 (.cons (.var 2) (.cons (.var 3) .nil)))) .nil))) .nil)⟩
abbrev f37 : Fn := F_are_kept
def F_fitting : Fn := ⟨("fitting", none), false, "fitting", ["shape", "rules", "record"], 2, false, (.cons (.ret (.com [2] (.n 2) (.cons (.cal 42 (.cons (.var 0) .nil)) .nil) (.cons (.cal 37 (.cons (.var 2) (.cons (.var 1) .nil))) .nil) (.var 2))) .nil)⟩
abbrev f38 : Fn := F_fitting
def F_is_outcome : Fn := ⟨("is_outcome", none), false, "is_outcome", ["thing", "size"], 2, false, (.cons (.ret (.cal 19 (.cons (.var 0) (.cons (.glo 23 (.int (-1))) (.cons (.bin .sub (.var 1) (.con (.int (1)))) .nil))))) .nil)⟩
abbrev f39 : Fn := F_is_outcome
def F_need_variant : Fn := ⟨("need_variant", none), false, "need_variant", ["thing"], 1, false, (.cons (.ife (.not (.isi (.var 0) (.own 1))) .nev .nil) .nil)⟩
abbrev f40 : Fn := F_need_variant
def F_keeps_rule : Fn := ⟨("keeps_rule", none), false, "keeps_rule", ["outcome", "rule"], 2, false, (.cons (.ife (.cmp .isN (.var 1) (.con .non)) (.cons (.ret (.con (.bl true))) .nil) .nil) (.cons (.ret (.or (.cmp .isin (.var 0) (.var 1)) (.and (.cmp .eq (.var 1) (.tup .nil)) (.cmp .eq (.var 0) (.glo 23 (.int (-1))))))) .nil))⟩
abbrev f41 : Fn := F_keeps_rule
def F_every_record : Fn := ⟨("every_record", none), false, "every_record", ["shape", "found", "size", "record", "outcome"], 1, false, (.cons (.asg (.n 1) (.lst (.cons (.tup .nil) .nil))) (.cons (.for (.n 2) (.cons (.var 0) .nil) (.cons (.alc2 1 [3, 4] (.n 3) (.cons (.var 1) .nil) [4] (.n 4) (.rng (.cons (.glo 23 (.int (-1))) (.cons (.var 2) .nil))) .nil (.bin .add (.var 3) (.tup (.cons (.var 4) .nil)))) .nil)) (.cons (.ret (.var 1)) .nil)))⟩
abbrev f42 : Fn := F_every_record
def F_Variant_rules : Fn := ⟨("Variant", some "rules"), true, "Variant.rules", ["self"], 1, false, (.cons (.ret (.fld (.var 0) 13)) .nil)⟩
abbrev f43 : Fn := F_Variant_rules
def F_Variant_required : Fn := ⟨("Variant", some "required"), true, "Variant.required", ["self", "field", "rule"], 1, false, (.cons (.ret (.bi .tup (.cons (.com [1, 2] (.t [1, 2]) (.enu (.fld (.var 0) 13)) (.cons (.and (.cmp .notN (.var 2) (.con .non)) (.cmp .ne (.var 2) (.tup .nil))) .nil) (.var 1)) .nil))) .nil)⟩
abbrev f44 : Fn := F_Variant_required
def F_Variant_forbidden : Fn := ⟨("Variant", some "forbidden"), true, "Variant.forbidden", ["self", "field", "rule"], 1, false, (.cons (.ret (.bi .tup (.cons (.com [1, 2] (.t [1, 2]) (.enu (.fld (.var 0) 13)) (.cons (.cmp .eq (.var 2) (.tup .nil)) .nil) (.var 1)) .nil))) .nil)⟩
abbrev f45 : Fn := F_Variant_forbidden
def c0 : Cla := ⟨"Schema", true, 1, [(10, 21)], [(7, 22), (0, 23), (1, 24), (4, 25), (8, 26)], [12, 13], [0], [2], [], []⟩
def c1 : Cla := ⟨"Variant", true, 2, [(10, 28), (19, 43), (18, 44), (17, 45)], [(9, 27), (7, 29), (0, 30), (4, 31), (8, 32)], [12, 13], [1], [1], [], []⟩
def nms0 : List Str := ["__len__", "__add__", "__and__", "__le__", "__eq__", "__contains__", "__getitem__", "__call__", "__repr__", "text", "shape", "MOST_VARIANTS", "sizes", "kept", "MOST_FIELDS", "MOST_RECORDS"]
def nms1 : List Str := ["MOST_VALUES", "forbidden", "required", "rules", "ANY", "NEVER", "ONE_OF", "LACKING"]
def pg : Pg := ⟨[F_law, F_Schema_init, F_Variant_init, F__law_cell, F__law_pen, F__law_draw_shape, F__law_draw_rules, F__law_near, F__law_is_right, F__law_odds, F__law_same, F_need_shape, F_are_rules, F__law_pick, F__law_draw, F__law_draw_rule, F_are_sizes, F_is_rule, F_how_many, F_is_between, F_is_integer, F_Schema_shape, F_Schema_call, F_Schema_len, F_Schema_add, F_Schema_eq, F_Schema_repr, F_Variant_text, F_Variant_shape, F_Variant_call, F_Variant_len, F_Variant_eq, F_Variant_repr, F_is_record, F_fits_of, F_need_like, F_line_of, F_are_kept, F_fitting, F_is_outcome, F_need_variant, F_keeps_rule, F_every_record, F_Variant_rules, F_Variant_required, F_Variant_forbidden], [c0, c1], nms0 ++ nms1, [(11, (.int (6))), (14, (.int (5))), (15, (.int (256))), (16, (.int (4))), (20, (.str "any")), (21, (.str "never")), (22, (.str "one of ")), (23, (.int (-1)))], []⟩
end IR
namespace HS
open PySem PySem.W PySem.Calls PyProof.Rows
abbrev R : OpenRow := OpenLaw.row PySem.Challenge.rw_whichvariant_k08_equal_variants
abbrev qv : Program := view R.prog [60]
def names0 : List PySem.Str := ["_wall", "__name__", "VariantError", "NoShape", "NoRecord", "NoRules", "NoVariant", "NoNumber", "NoText", "Unlike", "TooMany", "Clash", "MOST_FIELDS", "MOST_VALUES", "MOST_RECORDS", "LACKING"]
def names1 : List PySem.Str := ["is_integer", "is_between", "how_many", "are_sizes", "is_outcome", "is_record", "is_rule", "are_rules", "keeps_rule", "outcomes_of", "are_kept", "every_record", "ANY", "NEVER", "ONE_OF", "need_shape"]
def names2 : List PySem.Str := ["line_of", "rule_in", "clashing", "rules_clash", "both_rules", "Variant", "fitting", "are_within", "need_variant", "need_like", "MOST_VARIANTS", "Schema", "fits_of", "_law_cell", "_law_pen", "_law_draw"]
def names3 : List PySem.Str := ["_law_pick", "_law_same", "_law_draw_shape", "_law_draw_rule", "_law_draw_rules", "_law_odds", "_law_near", "_law_is_right"]
def names : List PySem.Str := names0 ++ names1 ++ names2 ++ names3
theorem run (w : World) : HandSHeadRun.RunEq R qv (Wv.hookW 5 IR.pg) (Wv.obsW 5 IR.pg) 20000 names w := by
  intro os
  kernel_rfl
end HS
namespace Wv
open PySem L2

mutual
/-- a tree as a dict's key -/
def keyD : D → Option NestedKey
  | .non => some .none
  | .int i => some (.num i)
  | .tup xs => (keyDs xs).map .tup
  | _ => none
def keyDs : List D → Option (List NestedKey)
  | [] => some []
  | x :: r => match keyD x with
    | some p => (keyDs r).map (p :: ·)
    | none => none
end
mutual
/-- the hash of a key without texts -/
def hashK : NestedKey → Int
  | .none => reduceHash 0xFCA86420
  | .num i => hashInt i
  | .text _ => 0
  | .tup ks => reduceHash (Builtin.Tuple.tupleHashOf (hashKs ks))
def hashKs : List NestedKey → List Int
  | [] => []
  | k :: ks => hashK k :: hashKs ks
end
def entK (x : NestedKey × Addr × Value) : DictEntry := ⟨hashK x.1, .ref x.2.1, x.2.2⟩
/-- the dict at a, by its table -/
def dctO (a : Addr) (xs : List (NestedKey × Addr × Value)) : HO := .ext fun h => ∃ o es ep, h.get? a = some o ∧ o.ExactDict ∧ o.data = .dict es ep ∧ es.toList = xs.map entK
/-- these attributes, by their numbers -/
def Cfg.Nm (G : Cfg) (ws : List (Str × V)) (fs : List Nat) : Prop := ws.map (·.1) = fs.map G.nm ∧ ∀ i ∈ fs, i < G.nms.length
/-- ghost: the objects that never change any more, the cells' addresses, the own lists' addresses -/
structure Wd where
  F : Addr → Prop
  mu : List Addr
  ml : List Addr

section
variable (G : Cfg) (F : Addr → Prop) (mu : List Addr) (H : Hp)
def TupAt (a : Addr) (vs : List V) : Prop := F a ∧ H a = some (.tup vs)
def ScrAt (a : Addr) (vs : List V) : Prop := (F a ∧ Rd H a (.lst vs)) ∨
  ∃ (o : Obj) (its : Array Value) (n : Nat), G.K.lookup a = some o ∧ o.cls = .type "list" ∧ o.dict = none ∧ o.data = .seq its n ∧ its.size ≤ sizeLine ∧ Vals vs its.toList
mutual
inductive Rep : V → D → Prop
  | non : Rep .non .non
  | bl (b : Bool) : Rep (.bl b) (.bl b)
  | int (i : Int) : Rep (.int i) (.int i)
  | str (s : Str) : Rep (.str s) (.str s)
  | tup {a : Addr} {vs : List V} {xs : List D} (h : TupAt F H a vs) (r : Reps vs xs) : Rep (.ref a) (.tup xs)
  | lst {a : Addr} {vs : List V} {xs : List D} (h : F a) (e : H a = some (.lst vs)) (r : Reps vs xs) : Rep (.ref a) (.lst xs)
  | scr {a : Addr} {ns : List Int} (h : ScrAt G F H a (ns.map V.int)) : Rep (.ref a) (.scr ns)
  | dic {a : Addr} {kvs : List (Key × V)} {vs : List V} {ks : List Key} {xs : List D} (h : F a) (e : H a = some (.dK kvs)) (hk : kvs.map (·.1) = ks) (hv : kvs.map (·.2) = vs) (r : Reps vs xs) : Rep (.ref a) (.dic ks xs)
  | ins {a dx : Addr} {c : Nat} {ws : List (Str × V)} {fs : List Nat} {vs : List V} {xs : List D} (h : F a) (e : H a = some (.ins (G.ca c) dx ws)) (hk : G.Nm ws fs) (hv : ws.map (·.2) = vs) (r : Reps vs xs) : Rep (.ref a) (.ins c fs xs)
  | cel {a : Addr} {n : Nat} (h : mu[n]? = some a) : Rep (.ref a) (.cel n)
  | cls (c : Nat) : Rep (.ref (G.ca c)) (.cls c)
  | opq {a : Addr} : Rep (.ref a) .opq
inductive Reps : List V → List D → Prop
  | nil : Reps [] []
  | cons {v : V} {d : D} {vs : List V} {ds : List D} (h : Rep v d) (t : Reps vs ds) : Reps (v :: vs) (d :: ds)
end
/-- a dict's table -/
inductive DK : List (NestedKey × D) → List (NestedKey × Addr × Value) → Prop
  | nil : DK [] []
  | cons {k : NestedKey} {a : Addr} {u : Value} {v : V} {d e : D} {kvs : List (NestedKey × D)} {xs : List (NestedKey × Addr × Value)} (h1 : k.depth ≤ 8) (h2 : keyD d = some k) (h3 : Rep G F mu H (.ref a) d) (h4 : RelV v u) (h5 : Rep G F mu H v e) (t : DK kvs xs) :
      DK ((k, e) :: kvs) ((k, a, u) :: xs)
/-- a cell's content at its address -/
def ClAt (a : Addr) : Cl → Prop
  | .lst xs => ∃ vs, H a = some (.lst vs) ∧ Reps G F mu H vs xs
  | .ins c fs xs => ∃ dx ws, H a = some (.ins (G.ca c) dx ws) ∧ G.Nm ws fs ∧ Reps G F mu H (ws.map (·.2)) xs
  | .dic kvs => ∃ xs, H a = some (dctO a xs) ∧ DK G F mu H kvs xs ∧ (xs.map (·.1)).Nodup ∧ kvs.length ≤ sizeLine ∧ (a == sysModules) = false
end
/-- the content, once it never changes any more -/
theorem ClAt.rep {G : Cfg} {F : Addr → Prop} {mu : List Addr} {H : Hp} {a : Addr} {c : Cl} (h : ClAt G F mu H a c) (f : F a) : Rep G F mu H (.ref a) c.d := by
  cases c with
  | lst xs =>
    obtain ⟨vs, e, r⟩ := h
    exact .lst f e r
  | ins c fs xs =>
    obtain ⟨dx, ws, e, k, r⟩ := h
    exact .ins f e k rfl r
  | dic kvs => exact .opq
/-- what a name holds, as a value -/
def RepR (G : Cfg) (W : Wd) (H : Hp) (v : V) : R → Prop
  | .fz d => Rep G W.F W.mu H v d
  | .own k => ∃ a, W.ml[k]? = some a ∧ v = .ref a

section
variable {G : Cfg} {F F' : Addr → Prop} {mu mu' : List Addr} {H H' : Hp}
theorem rd_same {a : Addr} {u : HO} (h : Rd H a u) (e : H' a = H a) : Rd H' a u := by
  rcases h with h | ⟨o, h⟩
  · exact .inl (e.trans h)
  · exact .inr ⟨o, e.trans h⟩
theorem TupAt.mono {a : Addr} {vs : List V} (h : TupAt F H a vs) (f : ∀ a, F a → F' a ∧ H' a = H a) : TupAt F' H' a vs := ⟨(f a h.1).1, (f a h.1).2.trans h.2⟩
theorem ScrAt.mono {a : Addr} {vs : List V} (h : ScrAt G F H a vs) (f : ∀ a, F a → F' a ∧ H' a = H a) : ScrAt G F' H' a vs := by
  rcases h with h | h
  · exact .inl ⟨(f a h.1).1, rd_same h.2 (f a h.1).2⟩
  · exact .inr h
theorem TupAt.seq {a : Addr} {vs : List V} {K : PySem.W.Frag} (h : TupAt F H a vs) : SqT K H a vs := .of h.2
theorem ScrAt.seq {a : Addr} {vs : List V} (h : ScrAt G F H a vs) : SqL G.K H a vs := by
  rcases h with h | h
  · exact .inl h.2
  · exact .inr h
mutual
theorem Rep.mono (f : ∀ a, F a → F' a ∧ H' a = H a) (m : ∀ (n : Nat) a, mu[n]? = some a → mu'[n]? = some a) : ∀ {v : V} {d : D}, Rep G F mu H v d → Rep G F' mu' H' v d
  | _, _, .non => .non
  | _, _, .bl b => .bl b
  | _, _, .int i => .int i
  | _, _, .str s => .str s
  | _, _, .tup h r => .tup (h.mono f) (r.mono f m)
  | _, _, .lst h e r => .lst (f _ h).1 ((f _ h).2.trans e) (r.mono f m)
  | _, _, .scr h => .scr (h.mono f)
  | _, _, .dic h e hk hv r => .dic (f _ h).1 ((f _ h).2.trans e) hk hv (r.mono f m)
  | _, _, .ins h e hk hv r => .ins (f _ h).1 ((f _ h).2.trans e) hk hv (r.mono f m)
  | _, _, .cel h => .cel (m _ _ h)
  | _, _, .cls c => .cls c
  | _, _, .opq => .opq
theorem Reps.mono (f : ∀ a, F a → F' a ∧ H' a = H a) (m : ∀ (n : Nat) a, mu[n]? = some a → mu'[n]? = some a) : ∀ {vs : List V} {ds : List D}, Reps G F mu H vs ds → Reps G F' mu' H' vs ds
  | _, _, .nil => .nil
  | _, _, .cons h t => .cons (h.mono f m) (t.mono f m)
end
theorem Reps.imp (m : ∀ v d, Rep G F mu H v d → Rep G F' mu' H' v d) : ∀ {vs : List V} {ds : List D}, Reps G F mu H vs ds → Reps G F' mu' H' vs ds
  | _, _, .nil => .nil
  | _, _, .cons h t => .cons (m _ _ h) (Reps.imp m t)
theorem DK.imp (m : ∀ v d, Rep G F mu H v d → Rep G F' mu' H' v d) : ∀ {kvs : List (NestedKey × D)} {xs : List (NestedKey × Addr × Value)}, DK G F mu H kvs xs → DK G F' mu' H' kvs xs
  | _, _, .nil => .nil
  | _, _, .cons h1 h2 h3 h4 h5 t => .cons h1 h2 (m _ _ h3) h4 (m _ _ h5) (DK.imp m t)
theorem Reps.length : ∀ {vs : List V} {ds : List D}, Reps G F mu H vs ds → vs.length = ds.length
  | _, _, .nil => rfl
  | _, _, .cons _ t => congrArg (· + 1) (Reps.length t)
theorem Reps.app : ∀ {vs ws : List V} {ds es : List D}, Reps G F mu H vs ds → Reps G F mu H ws es → Reps G F mu H (vs ++ ws) (ds ++ es)
  | _, _, _, _, .nil, r => r
  | _, _, _, _, .cons h t, r => .cons h (Reps.app t r)
theorem Reps.get : ∀ {vs : List V} {ds : List D} {i : Nat} {v : V}, Reps G F mu H vs ds → vs[i]? = some v → ∃ d, ds[i]? = some d ∧ Rep G F mu H v d
  | _, _, i, _, .nil, e => by simp at e
  | _, _, 0, _, .cons h _, e => by
    simp at e
    exact ⟨_, rfl, e ▸ h⟩
  | _, _, i + 1, _, .cons _ t, e => by
    obtain ⟨d, h1, h2⟩ := Reps.get (i := i) t (by simpa using e)
    exact ⟨d, by simpa using h1, h2⟩
theorem Reps.get' : ∀ {vs : List V} {ds : List D} {i : Nat} {d : D}, Reps G F mu H vs ds → ds[i]? = some d → ∃ v, vs[i]? = some v ∧ Rep G F mu H v d
  | _, _, i, _, .nil, e => by simp at e
  | _, _, 0, _, .cons h _, e => by
    simp at e
    exact ⟨_, rfl, e ▸ h⟩
  | _, _, i + 1, _, .cons _ t, e => by
    obtain ⟨d, h1, h2⟩ := Reps.get' (i := i) t (by simpa using e)
    exact ⟨d, by simpa using h1, h2⟩
theorem Reps.drop : ∀ {vs : List V} {ds : List D} (n : Nat), Reps G F mu H vs ds → Reps G F mu H (vs.drop n) (ds.drop n)
  | _, _, 0, r => r
  | _, _, _ + 1, .nil => .nil
  | _, _, n + 1, .cons _ t => Reps.drop n t
theorem Reps.take : ∀ {vs : List V} {ds : List D} (n : Nat), Reps G F mu H vs ds → Reps G F mu H (vs.take n) (ds.take n)
  | _, _, 0, _ => .nil
  | _, _, _ + 1, .nil => .nil
  | _, _, n + 1, .cons h t => .cons h (Reps.take n t)
theorem Reps.set {v : V} {d : D} (h : Rep G F mu H v d) : ∀ {vs : List V} {ds : List D} (i : Nat), Reps G F mu H vs ds → Reps G F mu H (vs.set i v) (ds.set i d)
  | _, _, _, .nil => .nil
  | _, _, 0, .cons _ t => .cons h t
  | _, _, i + 1, .cons g t => .cons g (Reps.set h i t)
theorem Reps.rev : ∀ {vs : List V} {ds : List D}, Reps G F mu H vs ds → Reps G F mu H vs.reverse ds.reverse
  | _, _, .nil => .nil
  | _, _, .cons h t => by
    rw [List.reverse_cons, List.reverse_cons]
    exact (Reps.rev t).app (.cons h .nil)
theorem Reps.dropLast {vs : List V} {ds : List D} (h : Reps G F mu H vs ds) : Reps G F mu H vs.dropLast ds.dropLast := by
  rw [List.dropLast_eq_take, List.dropLast_eq_take, h.length]
  exact h.take _
theorem Reps.erase : ∀ {vs : List V} {ds : List D} (i : Nat), Reps G F mu H vs ds → Reps G F mu H (vs.eraseIdx i) (ds.eraseIdx i)
  | _, _, _, .nil => .nil
  | _, _, 0, .cons _ t => t
  | _, _, i + 1, .cons h t => .cons h (Reps.erase i t)
theorem Reps.rep {v : V} {d : D} (h : Rep G F mu H v d) : ∀ n, Reps G F mu H (List.replicate n v) (List.replicate n d)
  | 0 => .nil
  | n + 1 => .cons h (Reps.rep h n)
theorem Reps.reps {vs : List V} {ds : List D} (h : Reps G F mu H vs ds) : ∀ n, Reps G F mu H (List.replicate n vs).flatten (List.replicate n ds).flatten
  | 0 => .nil
  | n + 1 => h.app (Reps.reps h n)
theorem Reps.ints : ∀ ns : List Int, Reps G F mu H (ns.map V.int) (ns.map D.int)
  | [] => .nil
  | n :: r => .cons (.int n) (Reps.ints r)
theorem Reps.ints' : ∀ {ns : List Int} {vs : List V}, Reps G F mu H vs (ns.map D.int) → vs = ns.map V.int
  | [], _, .nil => rfl
  | n :: r, _, .cons (.int _) t => by rw [Reps.ints' t] <;> rfl
theorem Reps.bls' : ∀ {ns : List Bool} {vs : List V}, Reps G F mu H vs (ns.map D.bl) → vs = ns.map V.bl
  | [], _, .nil => rfl
  | n :: r, _, .cons (.bl _) t => by rw [Reps.bls' t] <;> rfl
theorem Reps.strs' : ∀ {ns : List Str} {vs : List V}, Reps G F mu H vs (ns.map D.str) → vs = ns.map V.str
  | [], _, .nil => rfl
  | n :: r, _, .cons (.str _) t => by rw [Reps.strs' t] <;> rfl
end
end Wv
namespace Wv
open PySem L2

/-- ghost: how things stood when the frame was entered -/
structure Bs where
  H : Hp
  F : Addr → Prop
  mu : List Addr
structure Rel (G : Cfg) (B : Bs) (W : Wd) (env : Ev) (fs : FS) (hs : List (V × R)) (σ : St) (H : Hp) : Prop where
  keep : ∀ a o, B.H a = some o → a ∉ B.mu → H a = some o
  fsub : ∀ a, B.F a → W.F a
  fnew : ∀ a, W.F a → B.F a ∨ B.H a = none
  mpre : ∀ (n : Nat) a, B.mu[n]? = some a → W.mu[n]? = some a
  mnew : ∀ a ∈ W.mu, a ∈ B.mu ∨ B.H a = none
  lnew : ∀ a ∈ W.ml, B.H a = none
  nd : (W.mu ++ W.ml).Nodup
  muF : ∀ a ∈ W.mu, ¬ W.F a
  fdom : ∀ a, W.F a → H a ≠ none
  stl : fs.st.length = W.mu.length
  cell : ∀ (n : Nat) a c, W.mu[n]? = some a → fs.st[n]? = some c → ClAt G W.F W.mu H a c
  oll : fs.ol.length = W.ml.length
  own : ∀ (k : Nat) a b c, W.ml[k]? = some a → fs.ol[k]? = some (b, c) → ClAt G W.F W.mu H a c ∧ (b = true → ¬ W.F a) ∧ (b = false → W.F a)
  elen : env.length = σ.length
  env : ∀ (i : Nat) r, env[i]? = some (some r) → ∃ v, σ[i]? = some (some v) ∧ RepR G W H v r
  held : ∀ p ∈ hs, RepR G W H p.1 p.2

section
variable {G : Cfg} {B : Bs} {W W' : Wd} {env env' : Ev} {fs fs' : FS} {hs hs' : List (V × R)} {σ σ' : St} {H H' : Hp}
theorem RepR.mono {v : V} {r : R} (h : RepR G W H v r) (f : ∀ a, W.F a → W'.F a ∧ H' a = H a) (m : ∀ (n : Nat) a, W.mu[n]? = some a → W'.mu[n]? = some a) (l : ∀ (n : Nat) a, W.ml[n]? = some a → W'.ml[n]? = some a) : RepR G W' H' v r := by
  cases r with
  | fz d => exact Rep.mono f m h
  | own k =>
    obtain ⟨a, e, q⟩ := h
    exact ⟨a, l _ _ e, q⟩
theorem ClAt.mono {a : Addr} {c : Cl} (h : ClAt G W.F W.mu H a c) (f : ∀ a, W.F a → W'.F a ∧ H' a = H a) (m : ∀ (n : Nat) a, W.mu[n]? = some a → W'.mu[n]? = some a) (e : H' a = H a) : ClAt G W'.F W'.mu H' a c := by
  cases c with
  | lst xs =>
    obtain ⟨vs, q, r⟩ := h
    exact ⟨vs, e.trans q, r.mono f m⟩
  | ins c fs xs =>
    obtain ⟨dx, ws, q, k, r⟩ := h
    exact ⟨dx, ws, e.trans q, k, r.mono f m⟩
  | dic kvs =>
    obtain ⟨xs, q, r, n, l, y⟩ := h
    exact ⟨xs, e.trans q, r.imp fun v d z => z.mono f m, n, l, y⟩
theorem mem_get {α : Type} {xs : List α} {a : α} (h : a ∈ xs) : ∃ n : Nat, xs[n]? = some a := List.mem_iff_getElem?.mp h
theorem get_mem {α : Type} {xs : List α} {a : α} {n : Nat} (h : xs[n]? = some a) : a ∈ xs := List.mem_iff_getElem?.mpr ⟨n, h⟩
theorem nd_ix {α : Type} {xs : List α} (nd : xs.Nodup) {i j : Nat} {a : α} (h : xs[i]? = some a) (g : xs[j]? = some a) : i = j := by
  obtain ⟨h1, h2⟩ := List.getElem?_eq_some_iff.mp h
  obtain ⟨g1, g2⟩ := List.getElem?_eq_some_iff.mp g
  exact (List.getElem_inj nd).mp (h2.trans g2.symm)
theorem Rel.cellAt (h : Rel G B W env fs hs σ H) {n : Nat} {a : Addr} (e : W.mu[n]? = some a) : ∃ c, fs.st[n]? = some c ∧ ClAt G W.F W.mu H a c := by
  have l := (List.getElem?_eq_some_iff.mp e).1
  rw [← h.stl] at l
  exact ⟨fs.st[n], List.getElem?_eq_getElem l, h.cell n a _ e (List.getElem?_eq_getElem l)⟩
theorem ClAt.dom {a : Addr} {c : Cl} {F : Addr → Prop} {mu : List Addr} (h : ClAt G F mu H a c) : H a ≠ none := by
  cases c with
  | lst xs =>
    obtain ⟨vs, q, r⟩ := h
    rw [q]
    exact Option.some_ne_none _
  | ins c fs xs =>
    obtain ⟨dx, ws, q, k, r⟩ := h
    rw [q]
    exact Option.some_ne_none _
  | dic kvs =>
    obtain ⟨xs, q, _⟩ := h
    rw [q]
    exact Option.some_ne_none _
theorem Rel.mdom (h : Rel G B W env fs hs σ H) {a : Addr} (e : a ∈ W.mu) : H a ≠ none := by
  obtain ⟨n, e⟩ := mem_get e
  obtain ⟨c, _, q⟩ := h.cellAt e
  exact q.dom
theorem Rel.ownAt (h : Rel G B W env fs hs σ H) {k : Nat} {a : Addr} (e : W.ml[k]? = some a) : ∃ b c, fs.ol[k]? = some (b, c) ∧ ClAt G W.F W.mu H a c ∧ (b = true → ¬ W.F a) ∧ (b = false → W.F a) := by
  have l := (List.getElem?_eq_some_iff.mp e).1
  rw [← h.oll] at l
  have g : fs.ol[k]? = some (fs.ol[k].1, fs.ol[k].2) := List.getElem?_eq_getElem l
  exact ⟨_, _, g, h.own k a _ _ e g⟩
theorem Rel.ldom (h : Rel G B W env fs hs σ H) {a : Addr} (e : a ∈ W.ml) : H a ≠ none := by
  obtain ⟨n, e⟩ := mem_get e
  obtain ⟨b, c, _, q, _⟩ := h.ownAt e
  exact q.dom
theorem Rel.disj (h : Rel G B W env fs hs σ H) {a : Addr} (e : a ∈ W.mu) : a ∉ W.ml := fun z => (List.nodup_append.mp h.nd).2.2 a e a z rfl
theorem Rel.ndM (h : Rel G B W env fs hs σ H) : W.mu.Nodup := (List.nodup_append.mp h.nd).1
theorem Rel.ndL (h : Rel G B W env fs hs σ H) : W.ml.Nodup := (List.nodup_append.mp h.nd).2.1
/-- an object that is new stood nowhere -/
theorem Rel.old (h : Rel G B W env fs hs σ H) {p : Addr} (hp : H p = none) : B.H p = none ∨ p ∈ B.mu := by
  cases e : B.H p with
  | none => exact .inl rfl
  | some o =>
    by_cases q : p ∈ B.mu
    · exact .inr q
    · rw [h.keep p o e q] at hp
      cases hp
theorem Rel.new (h : Rel G B W env fs hs σ H) {p : Addr} (hp : H p = none) : B.H p = none ∧ p ∉ W.mu ∧ p ∉ W.ml ∧ ¬ W.F p ∧ p ∉ B.mu := by
  have nm : p ∉ W.mu := fun e => h.mdom e hp
  have nb : p ∉ B.mu := fun e => by
    obtain ⟨n, e⟩ := mem_get e
    exact nm (get_mem (h.mpre n p e))
  exact ⟨(h.old hp).resolve_right nb, nm, fun e => h.ldom e hp, fun e => h.fdom p e hp, nb⟩
/-- other things held, the same state -/
theorem Rel.hold (h : Rel G B W env fs hs σ H) (q : ∀ p ∈ hs', RepR G W H p.1 p.2) : Rel G B W env fs hs' σ H :=
  ⟨h.keep, h.fsub, h.fnew, h.mpre, h.mnew, h.lnew, h.nd, h.muF, h.fdom, h.stl, h.cell, h.oll, h.own, h.elen, h.env, q⟩
theorem Rel.drop {p : V × R} (h : Rel G B W env fs (p :: hs) σ H) : Rel G B W env fs hs σ H := h.hold fun q hq => h.held q (List.mem_cons_of_mem _ hq)
theorem Rel.dropN (h : Rel G B W env fs (hs' ++ hs) σ H) : Rel G B W env fs hs σ H := h.hold fun q hq => h.held q (List.mem_append_right _ hq)
theorem Rel.top {p : V × R} (h : Rel G B W env fs (p :: hs) σ H) : RepR G W H p.1 p.2 := h.held p List.mem_cons_self
theorem Rel.push {v : V} {r : R} (h : Rel G B W env fs hs σ H) (q : RepR G W H v r) : Rel G B W env fs ((v, r) :: hs) σ H := h.hold fun p hp => by
  rcases List.mem_cons.mp hp with e | e
  · subst e
    exact q
  · exact h.held p e
/-- other names -/
theorem Rel.names (h : Rel G B W env fs hs σ H) (l : env'.length = σ'.length) (q : ∀ (i : Nat) r, env'[i]? = some (some r) → ∃ v, σ'[i]? = some (some v) ∧ RepR G W H v r) : Rel G B W env' fs hs σ' H :=
  ⟨h.keep, h.fsub, h.fnew, h.mpre, h.mnew, h.lnew, h.nd, h.muF, h.fdom, h.stl, h.cell, h.oll, h.own, l, q, h.held⟩
theorem Rel.store {v : V} {r : R} {i : Nat} (h : Rel G B W env fs hs σ H) (q : RepR G W H v r) : Rel G B W (env.set i (some r)) fs hs (σ.set i (some v)) H := by
  refine h.names (by rw [List.length_set, List.length_set, h.elen]) fun j r' e => ?_
  by_cases hj : i = j
  · subst hj
    by_cases hl : i < env.length
    · rw [List.getElem?_set_self hl] at e
      cases e
      exact ⟨v, List.getElem?_set_self (by rw [← h.elen]; exact hl), q⟩
    · rw [List.getElem?_eq_none (by rw [List.length_set]; omega)] at e
      cases e
  · rw [List.getElem?_set_ne hj] at e
    rw [List.getElem?_set_ne hj]
    exact h.env j r' e
/-- the heap grows at p; nothing that is told changes -/
theorem Rel.grow {p : Addr} (h : Rel G B W env fs hs σ H) (hp : H p = none) (e : ∀ a, a ≠ p → H' a = H a) : Rel G B W env fs hs σ H' := by
  obtain ⟨n0, n1, n2, n3, n4⟩ := h.new hp
  have f : ∀ a, W.F a → W.F a ∧ H' a = H a := fun a q => ⟨q, e a fun z => n3 (z ▸ q)⟩
  refine ⟨fun a o q hq => ?_, h.fsub, h.fnew, h.mpre, h.mnew, h.lnew, h.nd, h.muF, fun a q => ?_, h.stl, fun n a c e1 e2 => ?_, h.oll, fun k a b c e1 e2 => ?_, h.elen, fun i r q => ?_, fun q hq => ?_⟩
  · have z := h.keep a o q hq
    rw [e a fun y => by rw [y, hp] at z; cases z]
    exact z
  · rw [(f a q).2]
    exact h.fdom a q
  · exact (h.cell n a c e1 e2).mono f (fun _ _ q => q) (e a fun z => n1 (z ▸ get_mem e1))
  · obtain ⟨q, m⟩ := h.own k a b c e1 e2
    exact ⟨q.mono f (fun _ _ q => q) (e a fun z => n2 (z ▸ get_mem e1)), m⟩
  · obtain ⟨v, e1, e2⟩ := h.env i r q
    exact ⟨v, e1, e2.mono f (fun _ _ q => q) fun _ _ q => q⟩
  · exact (h.held q hq).mono f (fun _ _ q => q) fun _ _ q => q
/-- an object of ours that nobody writes is told to be still from now on -/
theorem Rel.still {a : Addr} (h : Rel G B W env fs hs σ H) (ha : H a ≠ none) (h0 : B.H a = none) (hm : a ∉ W.mu) (hl : a ∉ W.ml) : Rel G B { W with F := fun b => W.F b ∨ b = a } env fs hs σ H := by
  have f : ∀ b, W.F b → (W.F b ∨ b = a) ∧ H b = H b := fun b q => ⟨.inl q, rfl⟩
  refine ⟨h.keep, fun b q => .inl (h.fsub b q), fun b q => ?_, h.mpre, h.mnew, h.lnew, h.nd, fun b e q => ?_, fun b q => ?_, h.stl, fun n b c e1 e2 => (h.cell n b c e1 e2).mono f (fun _ _ q => q) rfl, h.oll, fun k b t c e1 e2 => ?_, h.elen, fun i r q => ?_, fun q hq => ?_⟩
  · rcases q with q | q
    · exact h.fnew b q
    · exact .inr (q ▸ h0)
  · rcases q with q | q
    · exact h.muF b e q
    · exact hm (q ▸ e)
  · rcases q with q | q
    · exact h.fdom b q
    · exact q ▸ ha
  · obtain ⟨q, m1, m2⟩ := h.own k b t c e1 e2
    refine ⟨q.mono f (fun _ _ q => q) rfl, fun z y => ?_, fun z => .inl (m2 z)⟩
    rcases y with y | y
    · exact m1 z y
    · exact hl (y ▸ get_mem e1)
  · obtain ⟨v, e1, e2⟩ := h.env i r q
    exact ⟨v, e1, e2.mono f (fun _ _ q => q) fun _ _ q => q⟩
  · exact (h.held q hq).mono f (fun _ _ q => q) fun _ _ q => q
/-- a new tree's object -/
theorem Rel.made {p : Addr} {o : HO} {d : D} (h : Rel G B W env fs hs σ H) (hp : H p = none)
    (q : ∀ F' : Addr → Prop, (∀ a, W.F a → F' a) → F' p → (∀ {v d}, Rep G W.F W.mu H v d → Rep G F' W.mu (upd H p o) v d) → Rep G F' W.mu (upd H p o) (.ref p) d) :
    ∃ W', Rel G B W' env fs ((.ref p, .fz d) :: hs) σ (upd H p o) := by
  obtain ⟨n0, n1, n2, n3, n4⟩ := h.new hp
  have h1 : Rel G B W env fs hs σ (upd H p o) := h.grow hp fun a e => upd_ne e
  have h2 := h1.still (a := p) (by rw [upd_same]; exact Option.some_ne_none _) n0 n1 n2
  refine ⟨_, h2.push (r := .fz d) (q (fun b => W.F b ∨ b = p) (fun a z => .inl z) (.inr rfl) fun {v d} z => ?_)⟩
  exact Rep.mono (fun a y => ⟨.inl y, show (upd H p o) a = H a from upd_ne fun e => n3 (e ▸ y)⟩) (fun _ _ y => y) z
/-- an object that nobody else holds becomes the frame's own -/
theorem Rel.adopt {p : Addr} {c0 : Cl} (h1 : Rel G B W env fs hs σ H) (n0 : B.H p = none) (n1 : p ∉ W.mu) (n2 : p ∉ W.ml) (n3 : ¬ W.F p) (q1 : ClAt G W.F W.mu H p c0) :
    Rel G B { W with ml := W.ml ++ [p] } env ⟨fs.ol ++ [(true, c0)], fs.st⟩ ((.ref p, .own fs.ol.length) :: hs) σ H := by
  have lm : ∀ (n : Nat) a, W.ml[n]? = some a → (W.ml ++ [p])[n]? = some a := fun n a e => by
    rw [List.getElem?_append_left (List.getElem?_eq_some_iff.mp e).1]
    exact e
  have g : ∀ b, W.F b → W.F b ∧ H b = H b := fun b y => ⟨y, rfl⟩
  refine ⟨h1.keep, h1.fsub, h1.fnew, h1.mpre, h1.mnew, fun a e => ?_, ?_, h1.muF, h1.fdom, h1.stl, h1.cell, ?_, fun k a b ys e1 e2 => ?_, h1.elen, fun i r e => ?_, fun y hy => ?_⟩
  · rcases List.mem_append.mp e with e | e
    · exact h1.lnew a e
    · rw [List.mem_singleton.mp e]
      exact n0
  · rw [← List.append_assoc]
    refine List.nodup_append.mpr ⟨h1.nd, List.nodup_cons.mpr ⟨by simp, List.nodup_nil⟩, fun a e b e2 => ?_⟩
    rw [List.mem_singleton.mp e2]
    rintro rfl
    rcases List.mem_append.mp e with e | e
    · exact n1 e
    · exact n2 e
  · show (fs.ol ++ [(true, c0)]).length = (W.ml ++ [p]).length
    rw [List.length_append, List.length_append, h1.oll] <;> rfl
  · by_cases hk : k < W.ml.length
    · have e1' : W.ml[k]? = some a := by rwa [List.getElem?_append_left hk] at e1
      have e2' : fs.ol[k]? = some (b, ys) := by rwa [List.getElem?_append_left (by rw [h1.oll]; exact hk)] at e2
      exact h1.own k a b ys e1' e2'
    · have hk2 : k = W.ml.length := by
        have z := (List.getElem?_eq_some_iff.mp e1).1
        rw [List.length_append] at z
        have : ([p] : List Addr).length = 1 := rfl
        omega
      subst hk2
      have e1' : p = a := by simpa using e1
      have e2' : (true, c0) = (b, ys) := by
        have z := e2
        rw [← h1.oll] at z
        simpa using z
      cases e2'
      subst e1'
      exact ⟨q1, fun _ => n3, fun z => by cases z⟩
  · obtain ⟨v, e1, e2⟩ := h1.env i r e
    exact ⟨v, e1, e2.mono g (fun _ _ y => y) lm⟩
  · rcases List.mem_cons.mp hy with e | e
    · subst e
      exact ⟨p, by show (W.ml ++ [p])[fs.ol.length]? = some p; rw [h1.oll]; simp, rfl⟩
    · exact (h1.held y e).mono g (fun _ _ y => y) lm
/-- a new list (or instance) of the frame's own -/
theorem Rel.begun {p : Addr} {o : HO} {c0 : Cl} (h : Rel G B W env fs hs σ H) (hp : H p = none) (q : ∀ H', H' p = some o → (∀ v d, Rep G W.F W.mu H v d → Rep G W.F W.mu H' v d) → ClAt G W.F W.mu H' p c0) :
    ∃ W', Rel G B W' env ⟨fs.ol ++ [(true, c0)], fs.st⟩ ((.ref p, .own fs.ol.length) :: hs) σ (upd H p o) := by
  obtain ⟨n0, n1, n2, n3, n4⟩ := h.new hp
  have h1 : Rel G B W env fs hs σ (upd H p o) := h.grow hp fun a e => upd_ne e
  have f : ∀ b, W.F b → W.F b ∧ (upd H p o) b = H b := fun b y => ⟨y, upd_ne fun e => n3 (e ▸ y)⟩
  exact ⟨_, h1.adopt n0 n1 n2 n3 (q _ upd_same fun v d y => Rep.mono f (fun _ _ y => y) y)⟩
/-- an own list that is still open gets another content -/
theorem Rel.ownSet {k : Nat} {a : Addr} {c0 c1 : Cl} {o : HO} (h : Rel G B W env fs hs σ H) (e1 : W.ml[k]? = some a) (e2 : fs.ol[k]? = some (true, c0)) (q : ∀ H', H' a = some o → (∀ v d, Rep G W.F W.mu H v d → Rep G W.F W.mu H' v d) → ClAt G W.F W.mu H' a c1) :
    Rel G B W env ⟨fs.ol.set k (true, c1), fs.st⟩ hs σ (upd H a o) := by
  obtain ⟨_, nF, _⟩ := h.own k a true c0 e1 e2
  have nF : ¬ W.F a := nF rfl
  have nm : a ∉ W.mu := fun z => h.disj z (get_mem e1)
  have f : ∀ b, W.F b → W.F b ∧ (upd H a o) b = H b := fun b y => ⟨y, upd_ne fun e => nF (e ▸ y)⟩
  refine ⟨fun b u z hz => ?_, h.fsub, h.fnew, h.mpre, h.mnew, h.lnew, h.nd, h.muF, fun b z => ?_, h.stl, fun n b c z1 z2 => ?_, by rw [List.length_set]; exact h.oll, fun j b t zs z1 z2 => ?_, h.elen, fun i r z => ?_, fun y hy => ?_⟩
  · have hb : b ≠ a := fun e => by
      rw [e, h.lnew a (get_mem e1)] at z
      cases z
    rw [upd_ne hb]
    exact h.keep b u z hz
  · rw [(f b z).2]
    exact h.fdom b z
  · exact (h.cell n b c z1 z2).mono f (fun _ _ y => y) (upd_ne fun e => nm (e ▸ get_mem z1))
  · by_cases hj : k = j
    · subst hj
      rw [z1] at e1
      cases e1
      have hl := (List.getElem?_eq_some_iff.mp e2).1
      have z2' : (fs.ol.set k (true, c1))[k]? = some (t, zs) := z2
      rw [List.getElem?_set_self hl] at z2'
      cases z2'
      exact ⟨q _ upd_same fun v d y => Rep.mono f (fun _ _ y => y) y, fun _ => nF, fun z => by cases z⟩
    · have z2' : (fs.ol.set k (true, c1))[j]? = some (t, zs) := z2
      rw [List.getElem?_set_ne hj] at z2'
      obtain ⟨y1, y3⟩ := h.own j b t zs z1 z2'
      have hb : b ≠ a := fun e => hj (nd_ix h.ndL e1 (e ▸ z1))
      exact ⟨y1.mono f (fun _ _ y => y) (upd_ne hb), y3⟩
  · obtain ⟨v, y1, y2⟩ := h.env i r z
    exact ⟨v, y1, y2.mono f (fun _ _ y => y) fun _ _ y => y⟩
  · exact (h.held y hy).mono f (fun _ _ y => y) fun _ _ y => y
/-- an own list is closed: from now on it never changes -/
theorem Rel.close {k : Nat} {a : Addr} {b : Bool} {c0 : Cl} (h : Rel G B W env fs hs σ H) (e1 : W.ml[k]? = some a) (e2 : fs.ol[k]? = some (b, c0)) :
    ∃ W', (∀ v r, RepR G W H v r → RepR G W' H v r) ∧ Rep G W'.F W'.mu H (.ref a) c0.d ∧ Rel G B W' env ⟨fs.ol.set k (false, c0), fs.st⟩ hs σ H := by
  obtain ⟨ha, nF, _⟩ := h.own k a b c0 e1 e2
  have nm : a ∉ W.mu := fun z => h.disj z (get_mem e1)
  have f : ∀ b, W.F b → (W.F b ∨ b = a) ∧ H b = H b := fun b y => ⟨.inl y, rfl⟩
  have hd : ∀ v r, RepR G W H v r → RepR G { W with F := fun b => W.F b ∨ b = a } H v r := fun v r z => z.mono f (fun _ _ y => y) fun _ _ y => y
  have ha1 : ClAt G (fun b => W.F b ∨ b = a) W.mu H a c0 := ha.mono (W' := { W with F := fun b => W.F b ∨ b = a }) f (fun _ _ y => y) rfl
  refine ⟨{ W with F := fun b => W.F b ∨ b = a }, hd, ha1.rep (.inr rfl), h.keep, fun b z => .inl (h.fsub b z), fun b z => ?_, h.mpre, h.mnew, h.lnew, h.nd, fun b z y => ?_, fun b z => ?_, h.stl,
    fun n b c z1 z2 => (h.cell n b c z1 z2).mono f (fun _ _ y => y) rfl, by rw [List.length_set]; exact h.oll, fun j c t zs z1 z2 => ?_, h.elen, fun i r z => ?_, fun y hy => hd _ _ (h.held y hy)⟩
  · rcases z with z | z
    · exact h.fnew b z
    · exact .inr (z ▸ h.lnew a (get_mem e1))
  · rcases y with y | y
    · exact h.muF b z y
    · exact nm (y ▸ z)
  · rcases z with z | z
    · exact h.fdom b z
    · rw [z]
      exact ha.dom
  · by_cases hj : k = j
    · subst hj
      rw [z1] at e1
      cases e1
      have hl := (List.getElem?_eq_some_iff.mp e2).1
      have z2' : (fs.ol.set k (false, c0))[k]? = some (t, zs) := z2
      rw [List.getElem?_set_self hl] at z2'
      cases z2'
      exact ⟨ha1, (fun z => nomatch z), fun _ => .inr rfl⟩
    · have z2' : (fs.ol.set k (false, c0))[j]? = some (t, zs) := z2
      rw [List.getElem?_set_ne hj] at z2'
      obtain ⟨y1, y3, y4⟩ := h.own j c t zs z1 z2'
      have hc : c ≠ a := fun e => hj (nd_ix h.ndL e1 (e ▸ z1))
      refine ⟨y1.mono (W' := { W with F := fun b => W.F b ∨ b = a }) f (fun _ _ y => y) rfl, fun z y => ?_, fun z => .inl (y4 z)⟩
      rcases y with y | y
      · exact y3 z y
      · exact hc y
  · obtain ⟨v, y1, y2⟩ := h.env i r z
    exact ⟨v, y1, hd _ _ y2⟩
/-- a cell gets another content -/
theorem Rel.cellSet {n : Nat} {a : Addr} {c : Cl} {o : HO} (h : Rel G B W env fs hs σ H) (e1 : W.mu[n]? = some a) (q : ∀ H', H' a = some o → (∀ v d, Rep G W.F W.mu H v d → Rep G W.F W.mu H' v d) → ClAt G W.F W.mu H' a c) :
    Rel G B W env ⟨fs.ol, fs.st.set n c⟩ hs σ (upd H a o) := by
  have nF : ¬ W.F a := h.muF a (get_mem e1)
  have nl : a ∉ W.ml := h.disj (get_mem e1)
  have f : ∀ b, W.F b → W.F b ∧ (upd H a o) b = H b := fun b y => ⟨y, upd_ne fun e => nF (e ▸ y)⟩
  refine ⟨fun b u z hz => ?_, h.fsub, h.fnew, h.mpre, h.mnew, h.lnew, h.nd, h.muF, fun b z => ?_, by rw [List.length_set]; exact h.stl, fun m b c' z1 z2 => ?_, h.oll, fun j b t zs z1 z2 => ?_, h.elen, fun i r z => ?_, fun y hy => ?_⟩
  · have hb : b ≠ a := fun e => by
      subst e
      rcases h.mnew b (get_mem e1) with y | y
      · exact hz y
      · rw [z] at y
        cases y
    rw [upd_ne hb]
    exact h.keep b u z hz
  · rw [(f b z).2]
    exact h.fdom b z
  · by_cases hm : n = m
    · subst hm
      rw [z1] at e1
      cases e1
      have hl : n < fs.st.length := by
        rw [h.stl]
        exact (List.getElem?_eq_some_iff.mp z1).1
      have z2' : (fs.st.set n c)[n]? = some c' := z2
      rw [List.getElem?_set_self hl] at z2'
      cases z2'
      exact q _ upd_same fun v d y => Rep.mono f (fun _ _ y => y) y
    · have z2' : (fs.st.set n c)[m]? = some c' := z2
      rw [List.getElem?_set_ne hm] at z2'
      exact (h.cell m b c' z1 z2').mono f (fun _ _ y => y) (upd_ne fun e => hm (nd_ix h.ndM e1 (e ▸ z1)))
  · obtain ⟨y1, y3⟩ := h.own j b t zs z1 z2
    exact ⟨y1.mono f (fun _ _ y => y) (upd_ne fun e => nl (e ▸ get_mem z1)), y3⟩
  · obtain ⟨v, y1, y2⟩ := h.env i r z
    exact ⟨v, y1, y2.mono f (fun _ _ y => y) fun _ _ y => y⟩
  · exact (h.held y hy).mono f (fun _ _ y => y) fun _ _ y => y
/-- a new cell -/
theorem Rel.cellNew {p : Addr} {c : Cl} {o : HO} (h : Rel G B W env fs hs σ H) (hp : H p = none) (q : ∀ H', H' p = some o → (∀ v d, Rep G W.F W.mu H v d → Rep G W.F (W.mu ++ [p]) H' v d) → ClAt G W.F (W.mu ++ [p]) H' p c) :
    ∃ W', Rel G B W' env ⟨fs.ol, fs.st ++ [c]⟩ ((.ref p, .fz (.cel fs.st.length)) :: hs) σ (upd H p o) := by
  obtain ⟨n0, n1, n2, n3, n4⟩ := h.new hp
  have f : ∀ b, W.F b → W.F b ∧ (upd H p o) b = H b := fun b y => ⟨y, upd_ne fun e => n3 (e ▸ y)⟩
  have m : ∀ (n : Nat) a, W.mu[n]? = some a → (W.mu ++ [p])[n]? = some a := fun n a e => by
    rw [List.getElem?_append_left (List.getElem?_eq_some_iff.mp e).1]
    exact e
  have rm : ∀ v r, RepR G W H v r → RepR G { W with mu := W.mu ++ [p] } (upd H p o) v r := fun v r y => y.mono f m fun _ _ y => y
  refine ⟨{ W with mu := W.mu ++ [p] }, fun b u z hz => ?_, h.fsub, h.fnew, fun n a z => m n a (h.mpre n a z), fun a z => ?_, h.lnew, ?_, fun a z y => ?_, fun b z => ?_, ?_, fun j b c' z1 z2 => ?_, h.oll, fun j b t zs z1 z2 => ?_, h.elen, fun i r z => ?_, fun y hy => ?_⟩
  · have y := h.keep b u z hz
    rw [upd_ne fun e => by rw [e, hp] at y; cases y]
    exact y
  · rcases List.mem_append.mp z with z | z
    · exact h.mnew a z
    · rw [List.mem_singleton.mp z]
      exact .inr n0
  · show (W.mu ++ [p] ++ W.ml).Nodup
    have z := List.nodup_append.mp h.nd
    refine List.nodup_append.mpr ⟨List.nodup_append.mpr ⟨z.1, List.nodup_cons.mpr ⟨by simp, List.nodup_nil⟩, fun a y b y2 => ?_⟩, z.2.1, fun a y b y2 => ?_⟩
    · rw [List.mem_singleton.mp y2]
      rintro rfl
      exact n1 y
    · rcases List.mem_append.mp y with y | y
      · exact z.2.2 a y b y2
      · rw [List.mem_singleton.mp y]
        rintro rfl
        exact n2 y2
  · rcases List.mem_append.mp z with z | z
    · exact h.muF a z y
    · rw [List.mem_singleton.mp z] at y
      exact n3 y
  · rw [(f b z).2]
    exact h.fdom b z
  · show (fs.st ++ [c]).length = (W.mu ++ [p]).length
    rw [List.length_append, List.length_append, h.stl] <;> rfl
  · by_cases hj : j < W.mu.length
    · have z1' : W.mu[j]? = some b := by rwa [List.getElem?_append_left hj] at z1
      have z2' : fs.st[j]? = some c' := by rwa [List.getElem?_append_left (by rw [h.stl]; exact hj)] at z2
      exact (h.cell j b c' z1' z2').mono (W' := { W with mu := W.mu ++ [p] }) f m (upd_ne fun e => n1 (e ▸ get_mem z1'))
    · have hj2 : j = W.mu.length := by
        have z := (List.getElem?_eq_some_iff.mp z1).1
        rw [List.length_append] at z
        have : ([p] : List Addr).length = 1 := rfl
        omega
      subst hj2
      have z1' : p = b := by simpa using z1
      have z2' : c = c' := by
        have z := z2
        rw [← h.stl] at z
        simpa using z
      subst z1' z2'
      exact q _ upd_same fun v d y => Rep.mono f m y
  · obtain ⟨y1, y3⟩ := h.own j b t zs z1 z2
    exact ⟨y1.mono (W' := { W with mu := W.mu ++ [p] }) f m (upd_ne fun e => n2 (e ▸ get_mem z1)), y3⟩
  · obtain ⟨v, y1, y2⟩ := h.env i r z
    exact ⟨v, y1, rm _ _ y2⟩
  · rcases List.mem_cons.mp hy with e | e
    · subst e
      show Rep G W.F (W.mu ++ [p]) (upd H p o) (.ref p) (.cel fs.st.length)
      exact .cel (by rw [h.stl]; simp)
    · exact rm _ _ (h.held y e)
end
end Wv
namespace Wv
open PySem L2

def mulOk (i j : Int) : Bool := decide (-(2 ^ 64) < i ∧ i < 2 ^ 64) || decide (-(2 ^ 64) < j ∧ j < 2 ^ 64)
def powOk (i j : Int) : Bool := decide (0 ≤ j ∧ j ≤ 1000000) && decide (i.natAbs < 2 ^ 64)
def binD : Bin → D → D → Option Rs
  | .add, .int a, .int b => some (.t (.int (a + b)))
  | .add, .str a, .str b => if a.length + b.length ≤ sizeLine then some (.t (.str (a ++ b))) else none
  | .add, .tup a, .tup b => if a.length + b.length ≤ sizeLine then some (.t (.tup (a ++ b))) else none
  | .add, .lst a, .lst b => if a.length + b.length ≤ sizeLine then some (.l (a ++ b)) else none
  | .sub, .int a, .int b => some (.t (.int (a - b)))
  | .mul, .int a, .int b => if mulOk a b = true then some (.t (.int (a * b))) else none
  | .mul, .tup a, .int b => if a ≠ [] ∧ a.length ≤ 1000 ∧ 2 ≤ b ∧ b ≤ 1000 then some (.t (.tup (List.replicate b.toNat a).flatten)) else none
  | .mul, .lst a, .int b => if 0 ≤ b ∧ b < 2 ^ 63 ∧ a.length * b.toNat ≤ sizeLine then some (.l (List.replicate b.toNat a).flatten) else none
  | .mod, .int a, .int b => if 0 < b then some (.t (.int (a % b))) else none
  | .fdiv, .int a, .int b => if 0 < b ∧ b < 1073741824 then some (.t (.int (a / b))) else none
  | .pow, .int a, .int b => if powOk a b = true then some (.t (.int (a ^ b.toNat))) else none
  | _, _, _ => none
mutual
/-- data without objects -/
def toP : D → Option PyData
  | .non => some .none
  | .bl b => some (.bool b)
  | .int i => some (.int i)
  | .str s => some (.str s)
  | .tup xs => (toPs xs).map .tuple
  | .lst xs => (toPs xs).map .list
  | _ => none
def toPs : List D → Option (List PyData)
  | [] => some []
  | x :: r => match toP x with
    | some p => (toPs r).map (p :: ·)
    | none => none
end
/-- a dict's key as data -/
def keyP : Key → PyData
  | .inl i => .int i
  | .inr x => .str x
/-- a dict of data -/
def dicP : D → Option PyData
  | .dic ks xs => (toPs xs).bind fun ps => if ks.length = xs.length then some (.dict ((ks.map keyP).zip ps)) else none
  | _ => none
def shP (p : PyData) : Option Str := if p.showable = true ∧ p.depth ≤ 40 ∧ p.shown.length ≤ 1000000 then some p.shown else none
/-- data, as it is shown -/
def showR (d : D) : Option Str := match toP d with
  | some p => shP p
  | none => (dicP d).bind shP
/-- a part that is no container -/
def atomS : D → Option Str
  | .non => showR .non
  | .bl b => showR (.bl b)
  | .int i => showR (.int i)
  | .str x => showR (.str x)
  | _ => none
/-- == -/
def eqD (a b : D) : Option Bool := match toP a, toP b with
  | some p, some q => if min p.depth q.depth ≤ 40 then some (PyData.eqv p q) else none
  | _, _ => match a, b with
    | .tup [], .tup ys => some ys.isEmpty
    | .tup xs, .tup [] => some xs.isEmpty
    | _, _ => none
/-- x in ys -/
def inD (x : D) (ys : List D) : Option Bool := match toP x, toPs ys with
  | some p, some qs => if p.depth ≤ 40 then some (qs.any fun q => PyData.eqv q p) else none
  | _, _ => none
def isNonD : D → Bool
  | .non => true
  | _ => false
def cmpD : Cmp → D → D → Option Bool
  | .eq, a, b => eqD a b
  | .ne, a, b => (eqD a b).map (!·)
  | .lt, .int a, .int b => some (decide (a < b))
  | .le, .int a, .int b => some (decide (a ≤ b))
  | .gt, .int a, .int b => some (decide (b < a))
  | .ge, .int a, .int b => some (decide (b ≤ a))
  | .isin, a, .tup ys => inD a ys
  | .isin, a, .lst ys => inD a ys
  | .notin, a, .tup ys => (inD a ys).map (!·)
  | .notin, a, .lst ys => (inD a ys).map (!·)
  | .isN, a, .non => some (isNonD a)
  | .notN, a, .non => some (!isNonD a)
  | _, _, _ => none
def idxD : D → D → Option D
  | .tup xs, .int i => atI xs i
  | .lst xs, .int i => atI xs i
  | .scr ns, .int i => (atI ns i).map D.int
  | _, _ => none
def cutD (xs : List D) (lo hi : Option Int) : List D := (xs.drop (HT.sIx xs.length 0 lo)).take (HT.sIx xs.length xs.length hi - HT.sIx xs.length 0 lo)
def slcD : D → Option Int → Option Int → Option Rs
  | .tup xs, lo, hi => some (.t (.tup (cutD xs lo hi)))
  | .lst xs, lo, hi => some (.l (cutD xs lo hi))
  | .scr ns, lo, hi => some (.l (cutD (ns.map D.int) lo hi))
  | .str x, lo, hi => if x.length ≤ sizeLine then some (.t (.str (cutS x lo hi))) else none
  | _, _, _ => none
def revD : D → Option Rs
  | .tup xs => some (.t (.tup xs.reverse))
  | .lst xs => some (.l xs.reverse)
  | _ => none
def ints? : List D → Option (List Int)
  | [] => some []
  | .int i :: r => (ints? r).map (i :: ·)
  | _ :: _ => none
def bls? : List D → Option (List Bool)
  | [] => some []
  | .bl i :: r => (bls? r).map (i :: ·)
  | _ :: _ => none
def strs? : List D → Option (List Str)
  | [] => some []
  | .str i :: r => (strs? r).map (i :: ·)
  | _ :: _ => none
def maxL : List Int → Option Int
  | [] => none
  | x :: r => some (r.foldl max x)
def minL : List Int → Option Int
  | [] => none
  | x :: r => some (r.foldl min x)
def showD (d : D) : Option Str := match toP d with
  | some p => if p.showable = true ∧ p.depth ≤ 40 ∧ p.shown.length ≤ 1000000 then some p.shown else none
  | none => none
/-- (n, ints), as they are sorted -/
def pairSD : D → Option (Int × List Int)
  | .tup [.int n, .tup xs] => (ints? xs).map fun ns => (n, ns)
  | _ => none
def pairsSD : List D → Option (List (Int × List Int))
  | [] => some []
  | x :: r => match pairSD x with
    | some p => (pairsSD r).map (p :: ·)
    | none => none
def backSD (p : Int × List Int) : D := .tup [.int p.1, .tup (p.2.map .int)]
def ltSD (a b : Int × List Int) : Bool := decide (a.1 < b.1) || (decide (a.1 = b.1) && decide (a.2 < b.2))
def insS {α : Type} (le : α → α → Bool) (x : α) : List α → List α
  | [] => [x]
  | y :: ys => if le x y = true then x :: y :: ys else y :: insS le x ys
def sortS {α : Type} (le : α → α → Bool) : List α → List α
  | [] => []
  | x :: xs => insS le x (sortS le xs)
def sortSD (ps : List (Int × List Int)) : List (Int × List Int) := sortS (fun a b => !ltSD b a) ps
def biD : Bi → List D → Option Rs
  | .len, [.tup xs] => some (.t (.int xs.length))
  | .len, [.lst xs] => some (.t (.int xs.length))
  | .len, [.scr xs] => some (.t (.int xs.length))
  | .len, [.str x] => if x.length ≤ sizeLine then some (.t (.int x.length)) else none
  | .tup, [.tup xs] => some (.t (.tup xs))
  | .tup, [.lst xs] => some (.t (.tup xs))
  | .lst, [.tup xs] => some (.l xs)
  | .lst, [.lst xs] => some (.l xs)
  | .all, [.lst xs] => (bls? xs).map fun bs => .t (.bl (bs.all id))
  | .any, [.lst xs] => (bls? xs).map fun bs => .t (.bl (bs.any id))
  | .max1, [.lst xs] => (ints? xs).bind fun ns => (maxL ns).map fun m => .t (.int m)
  | .min1, [.lst xs] => (ints? xs).bind fun ns => (minL ns).map fun m => .t (.int m)
  | .sum, [.lst xs] => (ints? xs).map fun ns => .t (.int ns.sum)
  | .max2, [.int i, .int j] => some (.t (.int (if j > i then j else i)))
  | .min2, [.int i, .int j] => some (.t (.int (if j < i then j else i)))
  | .str, [.int i] => if i.natAbs.log2 < 1920 then some (.t (.str (toString i))) else none
  | .int, [.int i] => some (.t (.int i))
  | .int, [.bl b] => some (.t (.int (if b then 1 else 0)))
  | .srt, [.lst xs] => (pairsSD xs).bind fun ps => if ps.length ≤ 4000 then some (.l ((sortSD ps).map backSD)) else none
  | .lens, [.lst xs] => (ints? xs).bind fun ns => if ns.Nodup ∧ ns.length ≤ 4000 then some (.t (.int ns.length)) else none
  | _, _ => none

/-- what a name holds, looked at -/
def dv (s : FS) : R → Option D
  | .fz d => some d
  | .own k => (s.get k).map Cl.d
def dvs (s : FS) : List R → Option (List D)
  | [] => some []
  | r :: rs => match dv s r with
    | some d => (dvs s rs).map (d :: ·)
    | none => none
def fzs (s : FS) : List R → Option (List D × FS)
  | [] => some ([], s)
  | r :: rs => match fz s r with
    | some (d, s1) => (fzs s1 rs).map fun p => (d :: p.1, p.2)
    | none => none
def Out.bnd {α β : Type} (o : Out α) (k : α → FS → Out β) : Out β := match o with
  | .ok a s => k a s
  | .exc x s => .exc x s
  | .bad => .bad
def need {α β : Type} (o : Option α) (k : α → Out β) : Out β := match o with
  | some a => k a
  | none => .bad
/-- the numbers of the special names -/
abbrev mLen := 0
abbrev mLe := 3
abbrev mEq := 4
abbrev mIn := 5
abbrev mIx := 6
abbrev mCall := 7
abbrev mRepr := 8
def Prm.staOf (P : Prm) (c m : Nat) : Option Nat := (P.cs[c]?).bind fun k => k.stat.lookup m
def Prm.gmOf (P : Prm) (c m : Nat) : Option Nat := (P.cs[c]?).bind fun k => k.gmeth.lookup m
def Prm.propOf (P : Prm) (c m : Nat) : Option Nat := (P.cs[c]?).bind fun k => k.prop.lookup m
def Prm.fldOk (P : Prm) (c x : Nat) : Bool := (P.cs[c]?).any fun k => k.flds.contains x
def Prm.isSub (P : Prm) (c d : Nat) : Bool := (P.cs[c]?).any fun k => k.mro.contains d
def Ty.has (k : Cla) : Ty → Bool
  | .own d => k.mro.contains d
  | _ => false
/-- isinstance(x, C) -/
def Prm.isi (P : Prm) (st : List Cl) (x : D) (t : Ty) : Option Bool := match x with
  | .non => some false
  | .bl _ => some (match t with | .int => true | .bool => true | _ => false)
  | .int _ => some (match t with | .int => true | _ => false)
  | .str _ => some (match t with | .str => true | _ => false)
  | .tup _ => some (match t with | .tup => true | _ => false)
  | .lst _ => some (match t with | .lst => true | _ => false)
  | .dic _ _ => some false
  | x => (clsOf x st).bind fun q => (P.cs[q.1]?).map fun k => t.has k
def isObj : D → Bool
  | .ins _ _ _ => true
  | .cel _ => true
  | _ => false
/-- the other operand of an own class's operator -/
def Prm.othOk (P : Prm) (c m : Nat) (e : D) (st : List Cl) : Bool := match clsOf e st with
  | some (c', _) => decide (c' = c) || (P.cs[c']?).any fun k => k.nn.contains m
  | none => false
/-- o + e, by the class's own method -/
def Prm.binO (P : Prm) (d : D) (m : Nat) (e : D) (s : FS) : Out R := match clsOf d s.st with
  | some (c, _) => if P.othOk c m e s.st = true then P.meth d m [e] s else .bad
  | none => .bad
/-- a bool, or what it is not -/
def blO (neg : Bool) : R → FS → Out R
  | .fz (.bl b), s => .ok (.fz (.bl (neg ^^ b))) s
  | _, _ => .bad
/-- d <= e, both of one class, by its own method -/
def Prm.leO (P : Prm) (d e : D) (s : FS) : Out R := match clsOf d s.st with
  | some (c, _) => (match clsOf e s.st with
    | some (c', _) => if c = c' then P.meth d mLe [e] s else .bad
    | none => .bad)
  | none => .bad
/-- data that no object is -/
def plainD : D → Bool
  | .non => true
  | .bl _ => true
  | .int _ => true
  | .str _ => true
  | .tup _ => true
  | .lst _ => true
  | .dic _ _ => true
  | _ => false
/-- e's class is c, or none below it -/
def Prm.besD (P : Prm) (c : Nat) (e : D) (st : List Cl) : Bool := (clsOf e st).any (fun q => decide (q.1 = c)) || decide (P.isi st e (.own c) = some false)
/-- d == e, d != e, one of the two an own class's object: by its own == -/
def Prm.eqO (P : Prm) (neg : Bool) (d e : D) (s : FS) : Out R := match clsOf d s.st with
  | some (c, _) => if P.besD c e s.st = true then (P.meth d mEq [e] s).bnd (blO neg) else .bad
  | none => if neg = false ∧ plainD d = true then (P.meth e mEq [d] s).bnd (blO false) else .bad
def Prm.own2 (P : Prm) (q : Ob) (d e : D) (s : FS) : Out R := match q with
  | .eq => P.eqO false d e s
  | .ne => P.eqO true d e s
  | .le => P.leO d e s
  | .isin => (P.meth e mIn [d] s).bnd (blO false)
  | .notin => (P.meth e mIn [d] s).bnd (blO true)
def binM : Bin → Option Nat
  | .add => some mAdd
  | .band => some mAnd
  | _ => none
/-- len(o) by the class's own method -/
def lenO : R → FS → Out R
  | .fz (.int n), s => if 0 ≤ n ∧ n < 2 ^ 63 then .ok (.fz (.int n)) s else .bad
  | _, _ => .bad
/-- repr(o) by the class's own method -/
def strO : R → FS → Out R
  | .fz (.str r), s => .ok (.fz (.str r)) s
  | _, _ => .bad
/-- o.m(ds) while something is being shown -/
def Prm.methF (P : Prm) (d : D) (m : Nat) (ds : List D) (s : FS) : Out R := match clsOf d s.st with
  | some (c, _) => (match P.methOf c m with
    | some f => (P.callF f (d :: ds) s.st).out s.ol
    | none => .bad)
  | none => .bad
/-- a part of a list or tuple, shown -/
def Prm.shwI (P : Prm) (d : D) (s : FS) : Out R := match atomS d with
  | some r => .ok (.fz (.str r)) s
  | none => (P.methF d mRepr [] s).bnd strO
def stepO (acc : List Str) (k : List Str → FS → Out (List Str)) : R → FS → Out (List Str)
  | .fz (.str t), s => if t.length ≤ 10000 then k (acc ++ [t]) s else .bad
  | _, _ => .bad
def Prm.shwL (P : Prm) : List D → List Str → FS → Out (List Str)
  | [], acc, s => .ok acc s
  | x :: xs, acc, s => (P.shwI x s).bnd (stepO acc fun acc s => P.shwL xs acc s)
def shwT (f : List Str → Str) : List Str → FS → Out R := fun ts s => if (f ts).length ≤ 1000000 then .ok (.fz (.str (f ts))) s else .bad
/-- repr(d) -/
def Prm.shw (P : Prm) (d : D) (s : FS) : Out R := match showR d with
  | some r => if P.g = true then .ok (.fz (.str r)) s else .bad
  | none => match d with
    | .tup xs => if P.g = true ∧ xs.length ≤ 50 then (P.shwL xs [] s).bnd (shwT tupleText) else .bad
    | .lst xs => if P.g = true ∧ xs ≠ [] ∧ xs.length ≤ 50 then (P.shwL xs [] s).bnd (shwT listText) else .bad
    | _ => (P.meth d mRepr [] s).bnd strO
/-- a field of an f-string -/
def fmtO : R → FS → Out R
  | .fz (.str r), s => if r.length ≤ sizeLine then .ok (.fz (.str r)) s else .bad
  | .fz (.int i), s => if i.natAbs.log2 < 1920 then .ok (.fz (.str (toString i))) s else .bad
  | _, _ => .bad
/-- a list's items -/
def lst? : D → Option (List D)
  | .lst xs => some xs
  | _ => none
/-- .. behind the text so far -/
def catO (acc : Str) : R → Option Str
  | .fz (.str y) => if (acc ++ y).length ≤ sizeLine then some (acc ++ y) else none
  | _ => none
/-- the method's def, no attribute of that name ahead of it -/
def Prm.fnOf (P : Prm) (q : Nat × List Nat × List D) (m : Nat) : Option Nat := if q.2.1.contains m = true then none else P.methOf q.1 m
def Oc.nox : Oc → Oc
  | .exc _ _ => .bad
  | o => o
/-- a built-in function, a class's own one ahead of it -/
def Prm.bi (P : Prm) (b : Bi) (ds : List D) (s : FS) : Out R := match b, ds with
  | .repr, [d] => if P.g = true then need (showD d) fun r => .ok (.fz (.str r)) s else .bad
  | b, ds => need (biD b ds) fun r => r.out s
/-- len of an own class's object -/
def lenS : Bi → List R → Option D
  | .len, [.fz d] => if isObj d = true then some d else none
  | _, _ => none
def asgT : Tg → D → Ev → Option Ev
  | .n i, d, env => some (env.set i (some (.fz d)))
  | .t is, .tup ds, env => if is.length = ds.length then some ((is.zip ds).foldl (fun e p => e.set p.1 (some (.fz p.2))) env) else none
  | .q i is, .tup [d, .tup ds], env => if is.length = ds.length then some ((is.zip ds).foldl (fun e p => e.set p.1 (some (.fz p.2))) (env.set i (some (.fz d)))) else none
  | _, _, _ => none
/-- the names that a comprehension's block sees: no own lists, its own names not yet set -/
def hideE (env : Ev) : Ev := env.map fun o => match o with
  | some (.fz d) => some (.fz d)
  | _ => none
def wipeE (env : Ev) : List Nat → Ev
  | [] => env
  | v :: vs => (wipeE env vs).set v none
/-- the turns of a comprehension: body has the items so far and the cells -/
def turns (body : D → List D → List Cl → Option (List D × List Cl)) : List D → List D → List Cl → Option (List D × List Cl)
  | [], acc, st => some (acc, st)
  | x :: xs, acc, st => match body x acc st with
    | some (acc, st) => turns body xs acc st
    | none => none
def itvD : D → Option (List D)
  | .tup xs => some xs
  | .lst xs => some xs
  | _ => none
def zipD : List D → Option (List D)
  | [x, y] => match itvD x, itvD y with
    | some xs, some ys => some ((xs.zip ys).map fun p => .tup [p.1, p.2])
    | _, _ => none
  | [x, y, z] => match itvD x, itvD y, itvD z with
    | some xs, some ys, some zs => some ((xs.zip (ys.zip zs)).map fun p => .tup [p.1, p.2.1, p.2.2])
    | _, _, _ => none
  | _ => none
def rngD : List D → Option (List D)
  | [.int n] => if -(2 ^ 62) ≤ n ∧ n ≤ 1000000 then some ((List.range n.toNat).map fun (i : Nat) => .int (i : Int)) else none
  | [.int a, .int b] => if -(2 ^ 62) ≤ a ∧ a < 2 ^ 62 ∧ -(2 ^ 62) ≤ b ∧ b < 2 ^ 62 ∧ b - a ≤ 1000000 then some ((List.range (b - a).toNat).map fun (i : Nat) => .int (a + (i : Int))) else none
  | _ => none
def enuD (d : D) : Option (List D) := (itvD d).map fun xs => xs.zipIdx.map fun p => .tup [.int p.2, p.1]
/-- the items that are walked, of what the iterable is made of -/
def itD : E → List D → Option (List D)
  | .rng _, ds => rngD ds
  | .zip _, ds => zipD ds
  | .enu _, [d] => enuD d
  | .cons _ .nil, [d] => itvD d
  | _, _ => none
def bl? : R → Option Bool
  | .fz (.bl b) => some b
  | _ => none
/-- it is a list -/
def isLst (s : FS) : R → Bool
  | .own k => (match s.ol[k]? with
    | some (_, .lst _) => true
    | _ => false)
  | .fz (.cel n) => (match s.st[n]? with
    | some (.lst _) => true
    | _ => false)
  | _ => false
/-- xs.pop(i), an own list -/
def popD (k : Nat) (r : R) (s : FS) : Out R := match r, s.ol[k]? with
  | .fz (.int j), some (true, .lst xs) => need (if xs.length ≤ 1000000 then ixN xs.length j else none) fun m => need xs[m]? fun d => .ok (.fz d) ⟨s.ol.set k (true, .lst (xs.eraseIdx m)), s.st⟩
  | _, _ => .bad
/-- a comprehension's item, handed on -/
def itemO (acc : List D) : Out R → Option (List D × List Cl)
  | .ok r s => (fz s r).bind fun p => if acc.length < sizeLine then some (acc ++ [p.1], p.2.st) else none
  | _ => none
/-- a built-in type's method of one argument: what it is asked of -/
def bmTy : Bm → D → Bool
  | .idx, .lst _ => true
  | .join, .str _ => true
  | .stw, .str _ => true
  | .enw, .str _ => true
  | .find, .str _ => true
  | .split, .str _ => true
  | _, _ => false
def bmD : Bm → D → D → Option Rs
  | .idx, .lst xs, .int i => (ints? xs).bind fun ns => if i ∈ ns then some (.t (.int (ns.idxOf i))) else none
  | .join, .str a, .lst xs => (strs? xs).bind fun ss => if (ss.map (·.length)).sum + ss.length * a.length ≤ 16777216 then some (.t (.str (Txt.join a ss))) else none
  | .stw, .str a, .str b => some (.t (.bl (Txt.startswith a b)))
  | .enw, .str a, .str b => some (.t (.bl (Txt.endswith a b)))
  | .find, .str a, .str b => some (.t (.int (Txt.find a b)))
  | .split, .str a, .str b => if (b.length == 0) = false ∧ a.length + 2 ≤ sizeLine then some (.l ((Txt.split a b).map D.str)) else none
  | _, _, _ => none
/-- a dict's table -/
def dicAt (s : FS) : D → Option (List (NestedKey × D))
  | .cel n => (match s.st[n]? with
    | some (.dic kvs) => some kvs
    | _ => none)
  | _ => none
/-- a tuple as a key, not too deep -/
def keyT : D → Option NestedKey
  | .tup xs => (keyD (.tup xs)).bind fun k => if k.depth ≤ 8 then some k else none
  | _ => none
def dgt (kvs : List (NestedKey × D)) (k : NestedKey) : Option D := (kvs.find? fun x => decide (x.1 = k)).map (·.2)
def dpt (kvs : List (NestedKey × D)) (k : NestedKey) (d : D) : List (NestedKey × D) :=
  if (dgt kvs k).isSome = true then kvs.map (fun x => if x.1 = k then (x.1, d) else x) else kvs ++ [(k, d)]
mutual
def ev (P : Prm) : E → Ev → FS → Out R
  | .var i, env, s => match env[i]? with
    | some (some r) => .ok r s
    | _ => .bad
  | .con k, _, s => .ok (.fz k.d) s
  | .glo _ k, _, s => .ok (.fz k.d) s
  | .bin o a b, env, s => (ev P a env s).bnd fun x s => (ev P b env s).bnd fun y s => need (dv s x) fun d => need (dv s y) fun e =>
      if isObj d = true then need (binM o) fun m => need (fz s x) fun q0 => need (fz q0.2 y) fun q => P.binO q0.1 m q.1 q.2 else need (binD o d e) fun r => r.out s
  | .cmp o a b, env, s => (ev P a env s).bnd fun x s => (ev P b env s).bnd fun y s => need (dv s x) fun d => need (dv s y) fun e => need (cmpD o d e) fun c => .ok (.fz (.bl c)) s
  | .chn o p a b c, env, s => (ev P a env s).bnd fun x s => (ev P b env s).bnd fun y s => need (dv s x) fun d => need (dv s y) fun e => need (cmpD o d e) fun k =>
      if k = true then (ev P c env s).bnd fun z s => need (dv s y) fun e => need (dv s z) fun g => need (cmpD p e g) fun k => .ok (.fz (.bl k)) s else .ok (.fz (.bl false)) s
  | .and a b, env, s => (ev P a env s).bnd fun x s => need (bl? x) fun c => if c = true then ev P b env s else .ok (.fz (.bl false)) s
  | .or a b, env, s => (ev P a env s).bnd fun x s => need (bl? x) fun c => if c = true then .ok (.fz (.bl true)) s else ev P b env s
  | .not a, env, s => (ev P a env s).bnd fun x s => need (bl? x) fun c => .ok (.fz (.bl !c)) s
  | .neg a, env, s => (ev P a env s).bnd fun x s => match x with
    | .fz (.int i) => .ok (.fz (.int (-i))) s
    | _ => .bad
  | .ife t a b, env, s => (ev P t env s).bnd fun x s => need (bl? x) fun c => if c = true then ev P a env s else ev P b env s
  | .tup es, env, s => (evs P es env s).bnd fun rs s => need (fzs s rs) fun p => if p.1.length ≤ sizeLine then .ok (.fz (.tup p.1)) p.2 else .bad
  | .lst es, env, s => (evs P es env s).bnd fun rs s => need (fzs s rs) fun p => if p.1.length ≤ sizeLine then (Rs.l p.1).out p.2 else .bad
  | .lsc es, env, s => (evs P es env s).bnd fun rs s => need (fzs s rs) fun p => if p.1.length ≤ sizeLine then .ok (.fz (.cel p.2.st.length)) ⟨p.2.ol, p.2.st ++ [.lst p.1]⟩ else .bad
  | .idx a b, env, s => (ev P a env s).bnd fun x s => (ev P b env s).bnd fun y s => need (dv s x) fun d => need (dv s y) fun e => match d with
    | .cel n => (match s.st[n]?, e with
      | some (.lst xs), .int i => need (atI xs i) fun r => .ok (.fz r) s
      | _, _ => .bad)
    | _ => need (idxD d e) fun r => .ok (.fz r) s
  | .slc a lo hi, env, s => (ev P a env s).bnd fun x s => (evP P lo env s).bnd fun l s => (evP P hi env s).bnd fun h s => need (dv s x) fun d => need (slcD d l h) fun r => r.out s
  | .pop x i, env, s => match env[x]? with
    | some (some (.own k)) => if isLst s (.own k) = true then (ev P i env s).bnd fun r s => popD k r s else .bad
    | _ => .bad
  | .frz a, env, s => (ev P a env s).bnd fun r s => need (fz s r) fun p => .ok (.fz p.1) p.2
  | .lsg c o m, env, s => (ev P o env s).bnd fun x s => need (fz s x) fun q => need (clsOf q.1 q.2.st) fun k => if k.1 = c ∧ k.2.1.contains m = false then need (P.gmOf c m) fun i => need (P.gens i [q.1] q.2.st) fun r => (Rs.l r.1).out ⟨q.2.ol, r.2⟩ else .bad
  | .rpo a, env, s => (ev P a env s).bnd fun x s => need (fz s x) fun q => (P.meth q.1 mRepr [] q.2).bnd strO
  | .fmt a, env, s => (ev P a env s).bnd fmtO
  | .fst es, env, s => evJ P es Str.empty env s
  | .orl a b, env, s => (ev P a env s).bnd fun x s => need (dv s x) fun d => need (lst? d) fun xs => if xs.isEmpty = true then ev P b env s else .ok x s
  | .gix a b, env, s => (ev P a env s).bnd fun x s => (ev P b env s).bnd fun y s => need (fz s x) fun q0 => need (fz q0.2 y) fun q1 => P.meth q0.1 mIx [q1.1] q1.2
  | .rpd a, env, s => (ev P a env s).bnd fun x s => need (fz s x) fun q => P.shw q.1 q.2
  | .cst c m es, env, s => (evs P es env s).bnd fun rs s => need (fzs s rs) fun p => need (P.staOf c m) fun f => (P.call f p.1 p.2.st).out p.2.ol
  | .dic [] .nil, _, s => .ok (.fz (.dic [] [])) s
  | .dic [k] (.cons e .nil), env, s => match ev P e (hideE env) ⟨[], s.st⟩ with
    | .ok r s1 => need (fz s1 r) fun q => .ok (.fz (.dic [k] [q.1])) ⟨s.ol, q.2.st⟩
    | _ => .bad
  | .dnew, _, s => .ok (.fz (.cel s.st.length)) ⟨s.ol, s.st ++ [.dic []]⟩
  | .din neg a d, env, s => (ev P a env s).bnd fun x s => (ev P d env s).bnd fun y s => need (dv s x) fun k => need (dv s y) fun e => need (dicAt s e) fun kvs => need (keyT k) fun q => .ok (.fz (.bl (neg ^^ (dgt kvs q).isSome))) s
  | .dget d a, env, s => (ev P d env s).bnd fun y s => (ev P a env s).bnd fun x s => need (dv s y) fun e => need (dv s x) fun k => need (dicAt s e) fun kvs => need (keyT k) fun q => need (dgt kvs q) fun r => .ok (.fz r) s
  | .rev a, env, s => (ev P a env s).bnd fun x s => need (dv s x) fun d => need (revD d) fun r => r.out s
  | .cal f es, env, s => (evs P es env s).bnd fun rs s => need (fzs s rs) fun p => (P.call f p.1 p.2.st).out p.2.ol
  | .new c es, env, s => (evs P es env s).bnd fun rs s => need (fzs s rs) fun p => (P.make c p.1 p.2.st).out p.2.ol
  | .met o m es, env, s => (ev P o env s).bnd fun x s => need (fz s x) fun q => need (clsOf q.1 q.2.st) fun c => need (P.fnOf c m) fun f => (evs P es env q.2).bnd fun rs s => need (fzs s rs) fun p => (P.call f (q.1 :: p.1) p.2.st).out p.2.ol
  | .cin o es, env, s => (ev P o env s).bnd fun x s => need (fz s x) fun q => need (clsOf q.1 q.2.st) fun _ => (evs P es env q.2).bnd fun rs s => need (fzs s rs) fun p => P.meth q.1 mCall p.1 p.2
  | .oop q a b, env, s => (ev P a env s).bnd fun x s => (ev P b env s).bnd fun y s => need (fz s x) fun q0 => need (fz q0.2 y) fun q1 => P.own2 q q0.1 q1.1 q1.2
  | .fld o x, env, s => (ev P o env s).bnd fun r s => need (dv s r) fun d => need (clsOf d s.st) fun q => match P.propOf q.1 x with
    | some f => need (fz s r) fun z => (P.call f [z.1] z.2.st).nox.out z.2.ol
    | none => if P.fldOk q.1 x = true then need ((q.2.1.zip q.2.2).lookup x) fun d => .ok (.fz d) s else .bad
  | .isi a c, env, s => (ev P a env s).bnd fun x s => need (dv s x) fun d => need (P.isi s.st d c) fun k => .ok (.fz (.bl k)) s
  | .lens a, env, s => (ev P a env s).bnd fun x s => need (dv s x) fun d => need (biD .lens [d]) fun r => r.out s
  | .bi b es, env, s => (evs P es env s).bnd fun rs s => match lenS b rs with
    | some d => (P.meth d mLen [] s).bnd lenO
    | none => need (dvs s rs) fun ds => P.bi b ds s
  | .bm m o e, env, s => (ev P o env s).bnd fun x s => need (dv s x) fun d0 => if bmTy m d0 = true then ((ev P e env s).bnd fun y s => need (dv s x) fun d => need (dv s y) fun z => need (bmD m d z) fun r => r.out s) else .bad
  | .tupr es, env, s => (evs P es env s).bnd fun rs s => need (dvs s rs) fun ds => need (rngD ds) fun xs => .ok (.fz (.tup xs)) s
  | .lstr es, env, s => (evs P es env s).bnd fun rs s => need (dvs s rs) fun ds => need (rngD ds) fun xs => (Rs.l xs).out s
  | .com own tg it tt el, env, s => (evI P it env s).bnd fun rs s => need (dvs s rs) fun ds => need (itD it ds) fun xs =>
      need (turns (fun x acc st => match asgT tg x (wipeE (hideE env) own) with
        | some env1 => (match evt P tt env1 ⟨[], st⟩ with
          | .ok true s1 => itemO acc (ev P el env1 s1)
          | .ok false s1 => some (acc, s1.st)
          | _ => none)
        | none => none) xs [] s.st) fun r => (Rs.l r.1).out ⟨s.ol, r.2⟩
  | .co2 own tg it own1 tg1 it1 tt el, env, s => (evI P it env s).bnd fun rs s => need (dvs s rs) fun ds => need (itD it ds) fun xs =>
      need (turns (fun x acc st => match asgT tg x (wipeE (hideE env) own) with
        | some env1 => (match evI P it1 env1 ⟨[], st⟩ with
          | .ok rs s1 => (fzs s1 rs).bind fun p => (itD it1 p.1).bind fun ys => turns (fun y acc st => match asgT tg1 y (wipeE (hideE env1) own1) with
            | some env2 => (match evt P tt env2 ⟨[], st⟩ with
              | .ok true s2 => itemO acc (ev P el env2 s2)
              | .ok false s2 => some (acc, s2.st)
              | _ => none)
            | none => none) ys acc p.2.st
          | _ => none)
        | none => none) xs [] s.st) fun r => (Rs.l r.1).out ⟨s.ol, r.2⟩
  | _, _, _ => .bad
/-- arguments, from the left -/
def evs (P : Prm) : E → Ev → FS → Out (List R)
  | .nil, _, s => .ok [] s
  | .cons a r, env, s => (ev P a env s).bnd fun x s => (evs P r env s).bnd fun xs s => .ok (x :: xs) s
  | .sta a r, env, s => (ev P a env s).bnd fun x s => need (dv s x) fun d => need (itvD d) fun ds => (evs P r env s).bnd fun xs s => .ok (ds.map R.fz ++ xs) s
  | _, _, _ => .bad
/-- the parts of an f-string, behind the text so far -/
def evJ (P : Prm) : E → Str → Ev → FS → Out R
  | .nil, acc, _, s => .ok (.fz (.str acc)) s
  | .cons a r, acc, env, s => (ev P a env s).bnd fun x s => need (catO acc x) fun t => evJ P r t env s
  | _, _, _, _ => .bad
/-- tests, all -/
def evt (P : Prm) : E → Ev → FS → Out Bool
  | .nil, _, s => .ok true s
  | .cons a .nil, env, s => (ev P a env s).bnd fun x s => need (bl? x) fun c => .ok c s
  | _, _, _ => .bad
/-- a slice's part -/
def evP (P : Prm) : E → Ev → FS → Out (Option Int)
  | .nil, _, s => .ok none s
  | .cons a .nil, env, s => (ev P a env s).bnd fun x s => match x with
    | .fz (.int i) => .ok (some i) s
    | _ => .bad
  | _, _, _ => .bad
/-- what an iterable is made of -/
def evI (P : Prm) : E → Ev → FS → Out (List R)
  | .rng es, env, s => evs P es env s
  | .zip es, env, s => evs P es env s
  | .enu a, env, s => (ev P a env s).bnd fun r s => .ok [r] s
  | .cons a .nil, env, s => (ev P a env s).bnd fun r s => .ok [r] s
  | _, _, _ => .bad
end
end Wv
namespace Wv
open PySem L2

section
variable {G : Cfg} {B B' : Bs} {W W' : Wd} {env env' : Ev} {fs fs' : FS} {hs hs' : List (V × R)} {σ σ' : St} {H H' : Hp}
/-- a frame is entered: what stands now is its ground -/
theorem Rel.enter (h : Rel G B W env fs hs σ H) : Rel G ⟨H, W.F, W.mu⟩ ⟨W.F, W.mu, []⟩ [] ⟨[], fs.st⟩ [] [] H :=
  ⟨fun _ _ e _ => e, fun _ e => e, fun _ e => .inl e, fun _ _ e => e, fun _ e => .inl e, (fun _ e => nomatch e), (by rw [List.append_nil]; exact h.ndM), h.muF, h.fdom, h.stl, h.cell, rfl, (fun k a b c e _ => by simp at e), rfl,
    (fun i r e => by simp at e), (fun _ e => nomatch e)⟩
/-- .. with names and things held -/
theorem Rel.enterW (h : Rel G B W env fs hs σ H) (l : env'.length = σ'.length) (q : ∀ (i : Nat) r, env'[i]? = some (some r) → ∃ d v, r = .fz d ∧ σ'[i]? = some (some v) ∧ Rep G W.F W.mu H v d)
    (q2 : ∀ p ∈ hs', ∃ d, p.2 = .fz d ∧ Rep G W.F W.mu H p.1 d) : Rel G ⟨H, W.F, W.mu⟩ ⟨W.F, W.mu, []⟩ env' ⟨[], fs.st⟩ hs' σ' H := by
  refine (h.enter.names l fun i r e => ?_).hold fun p hp => ?_
  · obtain ⟨d, v, e1, e2, e3⟩ := q i r e
    subst e1
    exact ⟨v, e2, e3⟩
  · obtain ⟨d, e1, e2⟩ := q2 p hp
    rw [e1]
    exact e2
/-- the inner frame is left -/
theorem Rel.back (h : Rel G B W env fs hs σ H) (g : Rel G ⟨H, W.F, W.mu⟩ W' env' fs' hs' σ' H') : Rel G B ⟨W'.F, W'.mu, W.ml⟩ env ⟨fs.ol, fs'.st⟩ hs σ H' := by
  have same : ∀ a, W.F a → W'.F a ∧ H' a = H a := fun a e => by
    refine ⟨g.fsub a e, ?_⟩
    cases q : H a with
    | none => exact absurd q (h.fdom a e)
    | some o => exact g.keep a o q fun z => h.muF a z e
  have ml : ∀ a ∈ W.ml, H' a = H a := fun a e => by
    cases q : H a with
    | none => exact absurd q (h.ldom e)
    | some o => exact g.keep a o q fun z => h.disj z e
  have rm : ∀ v r, RepR G W H v r → RepR G ⟨W'.F, W'.mu, W.ml⟩ H' v r := fun v r q => q.mono same g.mpre fun _ _ e => e
  refine ⟨fun a o e hn => ?_, fun a e => g.fsub a (h.fsub a e), fun a e => ?_, fun n a e => g.mpre n a (h.mpre n a e), fun a e => ?_, h.lnew, ?_, g.muF, g.fdom, g.stl, g.cell, h.oll, fun k a b c e1 e2 => ?_, h.elen, fun i r e => ?_, fun p hp => rm _ _ (h.held p hp)⟩
  · refine g.keep a o (h.keep a o e hn) fun z => ?_
    rcases h.mnew a z with y | y
    · exact hn y
    · rw [e] at y
      cases y
  · rcases g.fnew a e with z | z
    · exact h.fnew a z
    · rcases h.old z with y | y
      · exact .inr y
      · obtain ⟨n, y⟩ := mem_get y
        exact absurd z (h.mdom (get_mem (h.mpre n a y)))
  · rcases g.mnew a e with z | z
    · exact h.mnew a z
    · rcases h.old z with y | y
      · exact .inr y
      · exact .inl y
  · refine List.nodup_append.mpr ⟨g.ndM, h.ndL, fun a e b e2 => ?_⟩
    rintro rfl
    rcases g.mnew a e with z | z
    · exact h.disj z e2
    · exact h.ldom e2 z
  · obtain ⟨q, m1, m2⟩ := h.own k a b c e1 e2
    refine ⟨q.mono (W' := ⟨W'.F, W'.mu, W.ml⟩) same g.mpre (ml a (get_mem e1)), fun z y => ?_, fun z => g.fsub a (m2 z)⟩
    rcases g.fnew a y with y | y
    · exact m1 z y
    · exact h.ldom (get_mem e1) y
  · obtain ⟨v, e1, e2⟩ := h.env i r e
    exact ⟨v, e1, rm _ _ e2⟩
/-- .. an inner tree is still one -/
theorem Rel.backRep {v : V} {d : D} (q : Rep G W'.F W'.mu H' v d) : RepR G ⟨W'.F, W'.mu, W.ml⟩ H' v (.fz d) := q
/-- handing on -/
theorem Rel.fz {v : V} {r : R} {d : D} (h : Rel G B W env fs hs σ H) (q : RepR G W H v r) (e : fz fs r = some (d, fs')) :
    ∃ W', Rel G B W' env fs' hs σ H ∧ Rep G W'.F W'.mu H v d ∧ ∀ v r, RepR G W H v r → RepR G W' H v r := by
  cases r with
  | fz d' =>
    have z : some (d', fs) = some (d, fs') := e
    cases z
    exact ⟨W, h, q, fun _ _ y => y⟩
  | own k =>
    have z : (fs.get k).map (fun c => (c.d, (⟨fs.ol.set k (false, c), fs.st⟩ : FS))) = some (d, fs') := e
    obtain ⟨a, e1, e2⟩ := q
    subst e2
    obtain ⟨b, c, e3, _⟩ := h.ownAt e1
    have y : fs.get k = some c := by
      unfold FS.get
      rw [e3] <;> rfl
    rw [y] at z
    cases z
    obtain ⟨W', m, r, g⟩ := h.close e1 e3
    exact ⟨W', g, r, m⟩
theorem Rel.dv {v : V} {r : R} {d : D} (h : Rel G B W env fs hs σ H) (q : RepR G W H v r) (e : dv fs r = some d) :
    (∃ a, v = .ref a ∧ ∃ c, d = c.d ∧ ClAt G W.F W.mu H a c) ∨ Rep G W.F W.mu H v d := by
  cases r with
  | fz d' =>
    have z : some d' = some d := e
    cases z
    exact .inr q
  | own k =>
    have z : (fs.get k).map Cl.d = some d := e
    obtain ⟨a, e1, e2⟩ := q
    obtain ⟨b, c, e3, e4, _⟩ := h.ownAt e1
    have y : fs.get k = some c := by
      unfold FS.get
      rw [e3] <;> rfl
    rw [y] at z
    cases z
    exact .inl ⟨a, e2, c, rfl, e4⟩
/-- handing one thing on changes no content -/
theorem dv_fz {s s2 : FS} {t r : R} {e d : D} (h : Wv.fz s t = some (e, s2)) (q : Wv.dv s r = some d) : Wv.dv s2 r = some d := by
  cases t with
  | fz d' =>
    have z : some (d', s) = some (e, s2) := h
    cases z
    exact q
  | own k =>
    have z : (s.get k).map (fun c => (c.d, (⟨s.ol.set k (false, c), s.st⟩ : FS))) = some (e, s2) := h
    cases y : s.get k with
    | none =>
      rw [y] at z
      cases z
    | some c =>
      rw [y] at z
      cases z
      cases r with
      | fz d' => exact q
      | own j =>
        have x : (s.get j).map Cl.d = some d := q
        show ((FS.mk (s.ol.set k (false, c)) s.st).get j).map Cl.d = some d
        unfold FS.get at x y ⊢
        by_cases hj : k = j
        · subst hj
          cases w : s.ol[k]? with
          | none =>
            rw [w] at y
            cases y
          | some p =>
            have hl := (List.getElem?_eq_some_iff.mp w).1
            rw [w] at y x
            have y : some p.2 = some c := y
            cases y
            rw [show (s.ol.set k (false, p.2))[k]? = some (false, p.2) from List.getElem?_set_self hl]
            exact x
        · rw [show (s.ol.set k (false, c))[j]? = s.ol[j]? from List.getElem?_set_ne hj]
          exact x
/-- several -/
inductive RepRs (G : Cfg) (W : Wd) (H : Hp) : List V → List R → Prop
  | nil : RepRs G W H [] []
  | cons {v : V} {r : R} {vs : List V} {rs : List R} (h : RepR G W H v r) (t : RepRs G W H vs rs) : RepRs G W H (v :: vs) (r :: rs)
theorem RepRs.length : ∀ {vs : List V} {rs : List R}, RepRs G W H vs rs → vs.length = rs.length
  | _, _, .nil => rfl
  | _, _, .cons _ t => congrArg (· + 1) (RepRs.length t)
theorem RepRs.imp (m : ∀ v r, RepR G W H v r → RepR G W' H' v r) : ∀ {vs : List V} {rs : List R}, RepRs G W H vs rs → RepRs G W' H' vs rs
  | _, _, .nil => .nil
  | _, _, .cons h t => .cons (m _ _ h) (RepRs.imp m t)
theorem RepRs.app : ∀ {vs ws : List V} {rs ts : List R}, RepRs G W H vs rs → RepRs G W H ws ts → RepRs G W H (vs ++ ws) (rs ++ ts)
  | _, _, _, _, .nil, t => t
  | _, _, _, _, .cons h r, t => .cons h (RepRs.app r t)
theorem RepRs.of : ∀ {vs : List V} {ds : List D}, Reps G W.F W.mu H vs ds → RepRs G W H vs (ds.map R.fz)
  | _, _, .nil => .nil
  | _, _, .cons h t => .cons h (RepRs.of t)
theorem Rel.holdAll : ∀ {vs : List V} {rs : List R}, Rel G B W env fs hs σ H → RepRs G W H vs rs → Rel G B W env fs (vs.zip rs ++ hs) σ H
  | _, _, h, .nil => h
  | _, _, h, .cons q t => (Rel.holdAll h t).push q
theorem Rel.heldAll : ∀ {vs : List V} {rs : List R}, Rel G B W env fs (vs.zip rs ++ hs) σ H → vs.length = rs.length → RepRs G W H vs rs
  | [], [], _, _ => .nil
  | [], _ :: _, _, e => nomatch e
  | _ :: _, [], _, e => nomatch e
  | v :: vs, r :: rs, h, e => .cons (Rel.top h) (Rel.heldAll (Rel.drop h) (Nat.succ.inj e))
theorem Rel.fzAll {rs : List R} : ∀ {vs : List V} {ds : List D} {W : Wd} {fs : FS}, Rel G B W env fs hs σ H → RepRs G W H vs rs → fzs fs rs = some (ds, fs') →
    ∃ W', Rel G B W' env fs' hs σ H ∧ Reps G W'.F W'.mu H vs ds ∧ ∀ v r, RepR G W H v r → RepR G W' H v r := by
  induction rs with
  | nil =>
    intro vs ds W fs h t e
    cases t
    have z : some (([] : List D), fs) = some (ds, fs') := e
    cases z
    exact ⟨W, h, .nil, fun _ _ y => y⟩
  | cons r rs ih =>
    intro vs ds W fs h t e
    cases t with
    | @cons v _ vs _ q t =>
      have z : (match Wv.fz fs r with
        | some (d, s1) => (Wv.fzs s1 rs).map fun p => (d :: p.1, p.2)
        | none => none) = some (ds, fs') := e
      cases y : Wv.fz fs r with
      | none =>
        rw [y] at z
        cases z
      | some p =>
        obtain ⟨d, s1⟩ := p
        rw [y] at z
        obtain ⟨W1, h1, q1, m1⟩ := h.fz q y
        have z : (Wv.fzs s1 rs).map (fun p => (d :: p.1, p.2)) = some (ds, fs') := z
        cases x : Wv.fzs s1 rs with
        | none =>
          rw [x] at z
          cases z
        | some p2 =>
          obtain ⟨ds2, s2⟩ := p2
          rw [x] at z
          cases z
          obtain ⟨W2, h2, q2, m2⟩ := ih h1 (t.imp m1) x
          exact ⟨W2, h2, .cons (m2 v (.fz d) q1) q2, fun v r y => m2 _ _ (m1 _ _ y)⟩
end

/-- an exception as the heap has it -/
def XRep (G : Cfg) (W : Wd) (H : Hp) (cls : Value) (d : Option Addr) (x : Xc) : Prop :=
  cls = .ref (G.ca x.c) ∧ ((x.fs = [] ∧ x.vs = [] ∧ d = none) ∨ ∃ a ws, d = some a ∧ H a = some (.xd ws) ∧ G.Nm ws x.fs ∧ Reps G W.F W.mu H (ws.map (·.2)) x.vs)
section
variable (G : Cfg) (X : WX)
/-- what is to hold of an outcome: K of the value and the state behind it, X of an exception -/
def Post {α : Type} (B : Bs) (env : Ev) (hs : List (V × R)) (σ : St) (K : α → FS → Prop) : Out α → Prop
  | .ok a fs => K a fs
  | .exc x fs => ∀ cls d W H, Rel G B W env fs hs σ H → XRep G W H cls d x → X cls d σ H
  | .bad => False
def tE (m : Ev → FS → Out R) : TE := fun σ H Q => ∃ B W env fs hs, Rel G B W env fs hs σ H ∧ Post G X B env hs σ (fun r fs' => ∀ v W' H', Rel G B W' env fs' ((v, r) :: hs) σ H' → Q v H') (m env fs)
def tT (m : Ev → FS → Out Bool) : TT := fun σ H Q => ∃ B W env fs hs, Rel G B W env fs hs σ H ∧ Post G X B env hs σ (fun r fs' => ∀ W' H', Rel G B W' env fs' hs σ H' → Q r H') (m env fs)
def tA (m : Ev → FS → Out (List R)) : TA := fun σ H Q => ∃ B W env fs hs, Rel G B W env fs hs σ H ∧ Post G X B env hs σ (fun rs fs' => ∀ vs W' H', Rel G B W' env fs' (vs.zip rs ++ hs) σ H' → vs.length = rs.length → Q vs H') (m env fs)
def tP (m : Ev → FS → Out (Option Int)) : TO := fun σ H Q => ∃ B W env fs hs, Rel G B W env fs hs σ H ∧ Post G X B env hs σ (fun r fs' => ∀ W' H', Rel G B W' env fs' hs σ H' → Q r H') (m env fs)
end
section
variable {G : Cfg} {X : WX} {B : Bs} {env : Ev} {hs hs' : List (V × R)} {σ : St}
theorem Post.imp {α : Type} {K K' : α → FS → Prop} {o : Out α} (h : Post G X B env hs σ K o) (q : ∀ a s, K a s → K' a s) : Post G X B env hs σ K' o := by
  cases o with
  | ok a s => exact q a s h
  | exc x s => exact h
  | bad => exact h
/-- fewer things held -/
theorem Post.less {α : Type} {K : α → FS → Prop} {o : Out α} (h : Post G X B env hs σ K o) (q : ∀ p ∈ hs, p ∈ hs') : Post G X B env hs' σ K o := by
  cases o with
  | ok a s => exact h
  | exc x s => exact fun cls d W H r y => h cls d W H (r.hold fun p hp => r.held p (q p hp)) y
  | bad => exact h
theorem Post.bnd {α β : Type} {K : β → FS → Prop} {o : Out α} {k : α → FS → Out β} (h : Post G X B env hs σ K (o.bnd k)) : Post G X B env hs σ (fun a s => Post G X B env hs σ K (k a s)) o := by
  cases o with
  | ok a s => exact h
  | exc x s => exact h
  | bad => exact h
theorem Post.need {α β : Type} {K : β → FS → Prop} {o : Option α} {k : α → Out β} (h : Post G X B env hs σ K (need o k)) : ∃ a, o = some a ∧ Post G X B env hs σ K (k a) := by
  cases o with
  | none => exact False.elim h
  | some a => exact ⟨a, rfl, h⟩
theorem _root_.L2.PE.imp {C : Cx} {e : Expr} {t t' : TE} (h : PE C e t) (q : ∀ σ H Q, t' σ H Q → t σ H Q) : PE C e t' := ⟨fun pins s σ H Q I y => h.run pins s σ H Q I (q σ H Q y)⟩
theorem _root_.L2.PT.imp {C : Cx} {e : Expr} {t t' : TT} (h : PT C e t) (q : ∀ σ H Q, t' σ H Q → t σ H Q) : PT C e t' := ⟨fun pins s σ H Q I y => h.run pins s σ H Q I (q σ H Q y)⟩
theorem _root_.L2.PA.imp {C : Cx} {e : List Expr} {t t' : TA} (h : PA C e t) (q : ∀ σ H Q, t' σ H Q → t σ H Q) : PA C e t' := ⟨fun pos pins s σ H Q I y => h.run pos pins s σ H Q I (q σ H Q y)⟩
theorem _root_.L2.PS.imp {C : Cx} {e : Stmt} {t t' : TS} (h : PS C e t) (q : ∀ D σ H, t' D σ H → t D σ H) : PS C e t' := ⟨fun pins s σ H D I y => h.run pins s σ H D I (q D σ H y)⟩
end
end Wv
namespace Wv
open PySem L2

/-- v is looked at as d -/
def RepB (G : Cfg) (W : Wd) (H : Hp) (v : V) (d : D) : Prop := Rep G W.F W.mu H v d ∨ ∃ a c, v = .ref a ∧ d = Cl.d c ∧ ClAt G W.F W.mu H a c
section
variable {G : Cfg} {B : Bs} {W W' : Wd} {env : Ev} {fs fs' : FS} {hs : List (V × R)} {σ : St} {H H' : Hp} {v : V} {r : R} {d : D}
theorem Rel.look (h : Rel G B W env fs hs σ H) (q : RepR G W H v r) (e : Wv.dv fs r = some d) : RepB G W H v d := by
  rcases h.dv q e with ⟨a, e1, c, e2, e3⟩ | q
  · exact .inr ⟨a, c, e1, e2, e3⟩
  · exact .inl q
theorem RepB.non (h : RepB G W H v .non) : v = .non := by
  rcases h with h | ⟨a, c, _, e, _⟩
  · cases h
    rfl
  · cases c <;> cases e
theorem RepB.bl {b : Bool} (h : RepB G W H v (.bl b)) : v = .bl b := by
  rcases h with h | ⟨a, c, _, e, _⟩
  · cases h
    rfl
  · cases c <;> cases e
theorem RepB.int {i : Int} (h : RepB G W H v (.int i)) : v = .int i := by
  rcases h with h | ⟨a, c, _, e, _⟩
  · cases h
    rfl
  · cases c <;> cases e
theorem RepB.str {i : Str} (h : RepB G W H v (.str i)) : v = .str i := by
  rcases h with h | ⟨a, c, _, e, _⟩
  · cases h
    rfl
  · cases c <;> cases e
theorem RepB.tup {xs : List D} (h : RepB G W H v (.tup xs)) : ∃ a vs, v = .ref a ∧ W.F a ∧ H a = some (.tup vs) ∧ Reps G W.F W.mu H vs xs := by
  rcases h with h | ⟨a, c, _, e, _⟩
  · cases h with
    | tup h r => exact ⟨_, _, rfl, h.1, h.2, r⟩
  · cases c <;> cases e
theorem RepB.lst {xs : List D} (h : RepB G W H v (.lst xs)) : ∃ a vs, v = .ref a ∧ H a = some (.lst vs) ∧ Reps G W.F W.mu H vs xs := by
  rcases h with h | ⟨a, c, e1, e, q⟩
  · cases h with
    | lst h e r => exact ⟨_, _, rfl, e, r⟩
  · cases c with
    | lst ys =>
      cases e
      obtain ⟨vs, e2, r⟩ := q
      exact ⟨a, vs, e1, e2, r⟩
    | ins c fs vs => cases e
    | dic kvs => cases e
theorem RepB.ins {c : Nat} {fs : List Nat} {xs : List D} (h : RepB G W H v (.ins c fs xs)) : ∃ a dx ws, v = .ref a ∧ H a = some (.ins (G.ca c) dx ws) ∧ G.Nm ws fs ∧ Reps G W.F W.mu H (ws.map (·.2)) xs := by
  rcases h with h | ⟨a, c, e1, e, q⟩
  · cases h with
    | ins h e k kv r => exact ⟨_, _, _, rfl, e, k, kv ▸ r⟩
  · cases c with
    | lst ys => cases e
    | dic kvs => cases e
    | ins c fs vs =>
      cases e
      obtain ⟨dx, ws, e2, k, r⟩ := q
      exact ⟨a, dx, ws, e1, e2, k, r⟩
theorem RepB.scr {ns : List Int} (h : RepB G W H v (.scr ns)) : ∃ a, v = .ref a ∧ SqL G.K H a (ns.map V.int) ∧ Rep G W.F W.mu H v (.scr ns) := by
  rcases h with h | ⟨a, c, _, e, _⟩
  · cases h with
    | scr h => exact ⟨_, rfl, h.seq, .scr h⟩
  · cases c <;> cases e
theorem RepB.cel {n : Nat} (h : RepB G W H v (.cel n)) : ∃ a, v = .ref a ∧ W.mu[n]? = some a := by
  rcases h with h | ⟨a, c, _, e, _⟩
  · cases h with
    | cel h => exact ⟨_, rfl, h⟩
  · cases c <;> cases e
theorem RepB.dic {ks : List Key} {xs : List D} (h : RepB G W H v (.dic ks xs)) : ∃ a kvs, v = .ref a ∧ H a = some (.dK kvs) ∧ kvs.map (·.1) = ks ∧ Reps G W.F W.mu H (kvs.map (·.2)) xs := by
  rcases h with h | ⟨a, c, _, e, _⟩
  · cases h with
    | dic h e k kv r => exact ⟨_, _, rfl, e, k, kv ▸ r⟩
  · cases c <;> cases e
/-- what is wanted of a result -/
def RsP (G : Cfg) (B : Bs) (env : Ev) (hs : List (V × R)) (σ : St) (fs : FS) (r : Rs) (Q : VK) : Prop :=
  match r.out fs with
  | .ok r' fs' => ∀ v W' H', Rel G B W' env fs' ((v, r') :: hs) σ H' → Q v H'
  | _ => False
theorem RsP.val {Q : VK} (q : RsP G B env hs σ fs (.t d) Q) (h : Rel G B W env fs hs σ H) (r : Rep G W.F W.mu H v d) : Q v H := q v W H (h.push (r := .fz d) r)
theorem RsP.tup {Q : VK} {vs : List V} {xs : List D} (q : RsP G B env hs σ fs (.t (.tup xs)) Q) (h : Rel G B W env fs hs σ H) (r : Reps G W.F W.mu H vs xs) {p : Addr} (hp : H p = none) : Q (.ref p) (upd H p (.tup vs)) := by
  obtain ⟨W', g⟩ := h.made (o := .tup vs) (d := .tup xs) hp fun F' f fp m => .tup ⟨fp, upd_same⟩ (r.imp fun v d y => m y)
  exact q _ W' _ g
theorem RsP.lst {Q : VK} {vs : List V} {xs : List D} (q : RsP G B env hs σ fs (.l xs) Q) (h : Rel G B W env fs hs σ H) (r : Reps G W.F W.mu H vs xs) {p : Addr} (hp : H p = none) : Q (.ref p) (upd H p (.lst vs)) := by
  obtain ⟨W', g⟩ := h.begun (o := .lst vs) (c0 := .lst xs) hp fun H' e m => ⟨vs, e, r.imp m⟩
  exact q _ W' _ g
end
end Wv
namespace Wv
open PySem L2

def Bin.op : Bin → Operator
  | .add => .Add
  | .sub => .Sub
  | .mul => .Mult
  | .mod => .Mod
  | .fdiv => .FloorDiv
  | .pow => .Pow
  | .band => .BitAnd
def Cmp.op : Cmp → CmpOp
  | .eq => .Eq
  | .ne => .NotEq
  | .lt => .Lt
  | .le => .LtE
  | .gt => .Gt
  | .ge => .GtE
  | .isin => .In
  | .notin => .NotIn
  | .isN => .Is
  | .notN => .IsNot
section
variable (G : Cfg)
/-- two values that are looked at, the mirror's result, and what is wanted of it -/
def r2D (f : D → D → Option Rs) : R2 := fun x y H Q => ∃ B W env fs hs σ d e r, Rel G B W env fs hs σ H ∧ RepB G W H x d ∧ RepB G W H y e ∧ f d e = some r ∧ RsP G B env hs σ fs r Q
def r2B (f : D → D → Option Bool) : R2 := fun x y H Q => ∃ B W env fs hs σ d e r, Rel G B W env fs hs σ H ∧ RepB G W H x d ∧ RepB G W H y e ∧ f d e = some r ∧ Q (.bl r) H
end
section
variable {G : Cfg} {X : Cx}
theorem reps_len {F : Addr → Prop} {mu : List Addr} {H : Hp} {vs : List V} {xs : List D} {n : Nat} (r : Reps G F mu H vs xs) (h : xs.length = n) : vs.length = n := r.length.trans h
theorem op_bin (hK : X.K = G.K) (o : Bin) : OpR X (binaryOp o.op) (r2D G (binD o)) := by
  intro pins s σ H x y v u Q I rx ry h
  obtain ⟨B, W, env, fs, hs, σ', d, e, r, g, bx, bY, hr, q⟩ := h
  unfold binD at hr
  split at hr
  · rw [bx.int] at rx
    rw [bY.int] at ry
    cases hr
    exact op_add pins s σ H _ _ v u Q I rx ry ⟨_, _, rfl, rfl, q.val g (.int _)⟩
  · rw [bx.str] at rx
    rw [bY.str] at ry
    split at hr
    · rename_i z
      cases hr
      exact op_add_str pins s σ H _ _ v u Q I rx ry ⟨_, _, rfl, rfl, z, q.val g (.str _)⟩
    · cases hr
  · split at hr
    · rename_i a b z
      cases hr
      obtain ⟨a1, vs, e1, f1, h1, r1⟩ := bx.tup
      obtain ⟨a2, ws, e2, f2, h2, r2⟩ := bY.tup
      subst e1 e2
      refine op_catA pins s σ H _ _ v u Q I rx ry ⟨a1, a2, vs, ws, rfl, rfl, .of h1, .of h2, by rw [r1.length, r2.length]; exact z, fun y => ?_, fun _ y => ?_, fun _ _ p hp => q.tup g (r1.app r2) hp⟩
      · subst y
        cases r1
        exact q.val g (.tup ⟨f2, h2⟩ r2)
      · subst y
        cases r2
        rw [List.append_nil] at q
        exact q.val g (.tup ⟨f1, h1⟩ r1)
    · cases hr
  · split at hr
    · rename_i a b z
      cases hr
      obtain ⟨a1, vs, e1, h1, r1⟩ := bx.lst
      obtain ⟨a2, ws, e2, h2, r2⟩ := bY.lst
      subst e1 e2
      exact op_cat pins s σ H _ _ v u Q I rx ry ⟨a1, a2, vs, ws, rfl, rfl, h1, h2, by rw [r1.length, r2.length]; exact z, fun p hp => q.lst g (r1.app r2) hp⟩
    · cases hr
  · rw [bx.int] at rx
    rw [bY.int] at ry
    cases hr
    exact op_sub pins s σ H _ _ v u Q I rx ry ⟨_, _, rfl, rfl, q.val g (.int _)⟩
  · rw [bx.int] at rx
    rw [bY.int] at ry
    split at hr
    · rename_i z
      cases hr
      unfold mulOk at z
      rw [Bool.or_eq_true, decide_eq_true_eq, decide_eq_true_eq] at z
      exact op_mul pins s σ H _ _ v u Q I rx ry ⟨_, _, rfl, rfl, z, q.val g (.int _)⟩
    · cases hr
  · split at hr
    · rename_i a b z
      cases hr
      obtain ⟨a1, vs, e1, f1, h1, r1⟩ := bx.tup
      have e2 := bY.int
      subst e1 e2
      obtain ⟨z1, z2, z3, z4⟩ := z
      refine op_repT pins s σ H _ _ v u Q I rx ry ⟨a1, b, vs, rfl, rfl, .of h1, fun y => ?_, z3, z4, by rw [r1.length]; exact z2, fun p hp => q.tup g (r1.reps _) hp⟩
      subst y
      cases r1
      exact z1 rfl
    · cases hr
  · split at hr
    · rename_i a b z
      cases hr
      obtain ⟨a1, vs, e1, h1, r1⟩ := bx.lst
      have e2 := bY.int
      subst e1 e2
      obtain ⟨z1, z2, z3⟩ := z
      exact op_rep pins s σ H _ _ v u Q I rx ry ⟨a1, b, vs, rfl, rfl, h1, by omega, z2, by rw [r1.length]; exact z3, fun p hp => q.lst g (r1.reps _) hp⟩
    · cases hr
  · rw [bx.int] at rx
    rw [bY.int] at ry
    split at hr
    · rename_i z
      cases hr
      exact op_mod pins s σ H _ _ v u Q I rx ry ⟨_, _, rfl, rfl, z, q.val g (.int _)⟩
    · cases hr
  · rw [bx.int] at rx
    rw [bY.int] at ry
    split at hr
    · rename_i z
      cases hr
      exact op_fdiv pins s σ H _ _ v u Q I rx ry ⟨_, _, rfl, rfl, z, q.val g (.int _)⟩
    · cases hr
  · rw [bx.int] at rx
    rw [bY.int] at ry
    split at hr
    · rename_i z
      cases hr
      unfold powOk at z
      rw [Bool.and_eq_true, decide_eq_true_eq, decide_eq_true_eq] at z
      exact op_pow pins s σ H _ _ v u Q I rx ry ⟨_, _, rfl, rfl, ⟨z.1.1, z.1.2, z.2⟩, q.val g (.int _)⟩
    · cases hr
  · cases hr

theorem repB_rep {W : Wd} {H : Hp} {v : V} {d : D} {p : PyData} (h : RepB G W H v d) (e : toP d = some p) : (Rep G W.F W.mu H v d) ∨ ∃ a vs xs, v = .ref a ∧ d = .lst xs ∧ H a = some (.lst vs) ∧ Reps G W.F W.mu H vs xs := by
  rcases h with h | ⟨a, c, e1, e2, q⟩
  · exact .inl h
  · cases c with
    | lst ys =>
      obtain ⟨vs, q1, q2⟩ := q
      exact .inr ⟨a, vs, ys, e1, e2, q1, q2⟩
    | ins c fs vs =>
      subst e2
      cases e
    | dic kvs =>
      subst e2
      cases e
mutual
theorem dp_rep {F : Addr → Prop} {mu : List Addr} {H : Hp} : ∀ {v : V} {d : D} {p : PyData}, Rep G F mu H v d → toP d = some p → Dp G.K H v p
  | _, _, p, .non, e => by
    cases e
    exact .non
  | _, _, p, .bl b, e => by
    cases e
    exact .bl b
  | _, _, p, .int i, e => by
    cases e
    exact .int i
  | _, _, p, .str s, e => by
    cases e
    exact .str s
  | _, _, p, .tup (xs := xs) h r, e => by
    have z : (toPs xs).map PyData.tuple = some p := e
    cases y : toPs xs with
    | none =>
      rw [y] at z
      cases z
    | some ps =>
      rw [y] at z
      cases z
      exact .tup (.of h.2) (dp_reps r y)
  | _, _, p, .lst (xs := xs) h e1 r, e => by
    have z : (toPs xs).map PyData.list = some p := e
    cases y : toPs xs with
    | none =>
      rw [y] at z
      cases z
    | some ps =>
      rw [y] at z
      cases z
      exact .lst (.of e1) (dp_reps r y)
  | _, _, _, .dic .., e => by cases e
  | _, _, _, .ins .., e => by cases e
  | _, _, _, .cel .., e => by cases e
  | _, _, _, .cls .., e => by cases e
  | _, _, _, .scr .., e => by cases e
theorem dp_reps {F : Addr → Prop} {mu : List Addr} {H : Hp} : ∀ {vs : List V} {ds : List D} {ps : List PyData}, Reps G F mu H vs ds → toPs ds = some ps → DpAll G.K H vs ps
  | _, _, ps, .nil, e => by
    cases e
    exact .nil
  | _, _, ps, .cons (d := d) (ds := ds) h t, e => by
    have z : (match toP d with
      | some p => (toPs ds).map (p :: ·)
      | none => none) = some ps := e
    cases x : toP d with
    | none =>
      rw [x] at z
      cases z
    | some p =>
      rw [x] at z
      cases y : toPs ds with
      | none =>
        rw [y] at z
        cases z
      | some qs =>
        rw [y] at z
        cases z
        exact .cons (dp_rep h x) (dp_reps t y)
end
theorem dp_B {W : Wd} {H : Hp} {v : V} {d : D} {p : PyData} (h : RepB G W H v d) (e : toP d = some p) : Dp G.K H v p := by
  rcases repB_rep h e with h | ⟨a, vs, xs, e1, e2, e3, r⟩
  · exact dp_rep h e
  · subst e1 e2
    have z : (toPs xs).map PyData.list = some p := e
    cases y : toPs xs with
    | none =>
      rw [y] at z
      cases z
    | some ps =>
      rw [y] at z
      cases z
      exact .lst (.of e3) (dp_reps r y)
mutual
theorem toP_plain : ∀ {d : D} {p : PyData}, toP d = some p → p.plain = true
  | .non, _, e => by
    cases e
    rfl
  | .bl _, _, e => by
    cases e
    rfl
  | .int _, _, e => by
    cases e
    rfl
  | .str _, _, e => by
    cases e
    rfl
  | .tup xs, p, e => by
    have z : (toPs xs).map PyData.tuple = some p := e
    cases y : toPs xs with
    | none =>
      rw [y] at z
      cases z
    | some ps =>
      rw [y] at z
      cases z
      have q := toPs_plain y
      simpa only [PyData.plain] using q
  | .lst xs, p, e => by
    have z : (toPs xs).map PyData.list = some p := e
    cases y : toPs xs with
    | none =>
      rw [y] at z
      cases z
    | some ps =>
      rw [y] at z
      cases z
      have q := toPs_plain y
      simpa only [PyData.plain] using q
  | .dic _ _, _, e => by cases e
  | .ins _ _ _, _, e => by cases e
  | .cel _, _, e => by cases e
  | .cls _, _, e => by cases e
  | .scr _, _, e => by cases e
theorem toPs_plain : ∀ {d : List D} {p : List PyData}, toPs d = some p → PyData.plainAll p = true
  | [], _, e => by
    cases e
    rfl
  | d :: ds, ps, e => by
    have z : (match toP d with
      | some p => (toPs ds).map (p :: ·)
      | none => none) = some ps := e
    cases x : toP d with
    | none =>
      rw [x] at z
      cases z
    | some p =>
      rw [x] at z
      cases y : toPs ds with
      | none =>
        rw [y] at z
        cases z
      | some qs =>
        rw [y] at z
        cases z
        simp only [PyData.plainAll, toP_plain x, toPs_plain y, Bool.and_self]
end
end
end Wv
namespace Wv
open PySem L2
section
variable {G : Cfg} {X : Cx}
theorem units_min {A : Around} {m n : Nat} (h : A.units + 64 < cLine) (q : min m n ≤ 40) : A.units + min m n < cLine := by omega
theorem eq_pair (hK : X.K = G.K) (hu : X.A.units + 64 < cLine) {pins : List (Addr × Obj)} {s : Shared} {σ : St} {H : Hp} {x y : V} {v u : Value} {W : Wd} {d e : D} {c : Bool} (I : Inv X pins σ H s) (rx : RelV x v) (ry : RelV y u)
    (bx : RepB G W H x d) (bY : RepB G W H y e) (h : eqD d e = some c) (E : Value → Shared → Prop) :
    (∀ Q : Value → Shared → Prop, Q (.bool c) s → wpAny (model X.prog X.w) X.A (compareOp .Eq v u) Q E s) ∧ ∀ Q : Value → Shared → Prop, Q (.bool !c) s → wpAny (model X.prog X.w) X.A (compareOp .NotEq v u) Q E s := by
  unfold eqD at h
  split at h
  · rename_i p q ep eq
    split at h
    · rename_i z
      cases h
      obtain ⟨as, ra⟩ := Dp.reads I p x v (by rw [hK]; exact dp_B bx ep) rx
      obtain ⟨bs, rb⟩ := Dp.reads I q y u (by rw [hK]; exact dp_B bY eq) ry
      exact ⟨fun Q h => SeqAt.eq_plain ra rb (toP_plain ep) (toP_plain eq) (units_min hu z) h, fun Q h => SeqAt.ne_plain ra rb (toP_plain ep) (toP_plain eq) (units_min hu z) h⟩
    · cases h
  · have key : ∀ (xs ys : List D), d = .tup xs → e = .tup ys → (xs = [] ∨ ys = []) → c = (xs.length == ys.length) →
        (∀ Q : Value → Shared → Prop, Q (.bool c) s → wpAny (model X.prog X.w) X.A (compareOp .Eq v u) Q E s) ∧ ∀ Q : Value → Shared → Prop, Q (.bool !c) s → wpAny (model X.prog X.w) X.A (compareOp .NotEq v u) Q E s := by
      intro xs ys ed ee hne hc
      subst ed ee
      obtain ⟨a1, vs, e1, f1, h1, r1⟩ := bx.tup
      obtain ⟨a2, ws, e2, f2, h2, r2⟩ := bY.tup
      subst e1 e2
      obtain rfl : v = Value.ref a1 := rx
      obtain rfl : u = Value.ref a2 := ry
      obtain ⟨i1, q1, t1, _⟩ := I.tuple (xs := vs) (.of h1)
      obtain ⟨i2, q2, t2, _⟩ := I.tuple (xs := ws) (.of h2)
      have l1 : i1.toArray.size = xs.length := by rw [List.size_toArray, ← q1.length, r1.length]
      have l2 : i2.toArray.size = ys.length := by rw [List.size_toArray, ← q2.length, r2.length]
      have m0 : min i1.toArray.size i2.toArray.size = 0 := by
        rw [l1, l2]
        rcases hne with z | z <;> subst z <;> simp
      have hu1 : X.A.units < cLine := by omega
      have none : ∀ j (j1 : j < i1.toArray.size) (j2 : j < i2.toArray.size), SeqAt.EqAt X.A.in1 s i1.toArray[j] i2.toArray[j] ((fun _ => true) j) := fun j j1 j2 => by omega
      have val : ((List.range (min i1.toArray.size i2.toArray.size)).all (fun _ => true) && i1.toArray.size == i2.toArray.size) = c := by
        rw [m0, l1, l2, hc] <;> simp
      refine ⟨fun Q h => SeqAt.eq_tupleAt (e := fun _ => true) t1 t2 hu1 none (by rw [val]; exact h), fun Q h => ?_⟩
      have z := SeqAt.RcNeAt.tuples (A := X.A) (s := s) (e := fun _ => true) t1 t2 hu1 none
      rw [val] at z
      exact z X.prog X.w E Q h
    split at h
    · rename_i ys _
      cases h
      exact key [] ys rfl rfl (.inl rfl) (by cases ys <;> rfl)
    · rename_i xs _ _
      cases h
      exact key xs [] rfl rfl (.inr rfl) (by cases xs <;> rfl)
    · cases h
theorem toPs_depth {ds : List D} {ps : List PyData} (e : toPs ds = some ps) : True := trivial
theorem in_pair (hK : X.K = G.K) (hu : X.A.units + 64 < cLine) {pins : List (Addr × Obj)} {s : Shared} {σ : St} {H : Hp} {x y : V} {v u : Value} {W : Wd} {d : D} {ds : List D} {c : Bool} (I : Inv X pins σ H s) (rx : RelV x v) (ry : RelV y u)
    (bx : RepB G W H x d) (bY : RepB G W H y (.tup ds) ∨ RepB G W H y (.lst ds)) (h : inD d ds = some c) (E : Value → Shared → Prop) :
    (∀ Q : Value → Shared → Prop, Q (.bool c) s → wpAny (model X.prog X.w) X.A (compareOp .In v u) Q E s) ∧ ∀ Q : Value → Shared → Prop, Q (.bool !c) s → wpAny (model X.prog X.w) X.A (compareOp .NotIn v u) Q E s := by
  unfold inD at h
  split at h
  · rename_i p qs ep eq
    split at h
    · rename_i z
      cases h
      obtain ⟨as, ra⟩ := Dp.reads I p x v (by rw [hK]; exact dp_B bx ep) rx
      have pl := toPs_plain eq
      have um : X.A.units + 1 + min (PyData.depthAll qs) p.depth < cLine := by omega
      rcases bY with bY | bY
      · have e1 : toP (.tup ds) = some (.tuple qs) := by
          show (toPs ds).map PyData.tuple = _
          rw [eq] <;> rfl
        obtain ⟨bs, rb⟩ := Dp.reads I _ y u (by rw [hK]; exact dp_B bY e1) ry
        exact ⟨fun Q h => SeqAt.in_tuple_data rb ra pl (toP_plain ep) um h, fun Q h => SeqAt.notIn_tuple_data rb ra pl (toP_plain ep) um h⟩
      · have e1 : toP (.lst ds) = some (.list qs) := by
          show (toPs ds).map PyData.list = _
          rw [eq] <;> rfl
        obtain ⟨bs, rb⟩ := Dp.reads I _ y u (by rw [hK]; exact dp_B bY e1) ry
        exact ⟨fun Q h => SeqAt.in_list_data rb ra pl (toP_plain ep) um h, fun Q h => SeqAt.notIn_list_data rb ra pl (toP_plain ep) um h⟩
    · cases h
  · cases h
theorem repB_non {W : Wd} {H : Hp} {x : V} {d : D} (b : RepB G W H x d) : isNonD d = decide (x = .non) := by
  rcases b with b | ⟨a, c, e1, e2, q⟩
  · cases b <;> rfl
  · subst e1 e2
    cases c <;> rfl
theorem op_cmp (hK : X.K = G.K) (hu : X.A.units + 64 < cLine) (o : Cmp) : OpR X (compareOp o.op) (r2B G (cmpD o)) := by
  intro pins s σ H x y v u Q I rx ry h
  obtain ⟨B, W, env, fs, hs, σ', d, e, r, g, bx, bY, hr, q⟩ := h
  have fin : ∀ k, k = r → EP X pins σ Q (.bool k) s := fun k e => ⟨.bl k, H, I, rfl, e ▸ q⟩
  unfold cmpD at hr
  split at hr
  · exact (eq_pair hK hu I rx ry bx bY hr _).1 _ (fin _ rfl)
  · cases z : eqD d e with
    | none =>
      rw [z] at hr
      cases hr
    | some c =>
      rw [z] at hr
      exact (eq_pair hK hu I rx ry bx bY z _).2 _ (fin _ (Option.some.inj hr))
  · rw [bx.int] at rx
    rw [bY.int] at ry
    cases hr
    exact op_lt pins s σ H _ _ v u Q I rx ry ⟨_, _, rfl, rfl, q⟩
  · rw [bx.int] at rx
    rw [bY.int] at ry
    cases hr
    exact op_le pins s σ H _ _ v u Q I rx ry ⟨_, _, rfl, rfl, q⟩
  · rw [bx.int] at rx
    rw [bY.int] at ry
    cases hr
    exact op_gt pins s σ H _ _ v u Q I rx ry ⟨_, _, rfl, rfl, q⟩
  · rw [bx.int] at rx
    rw [bY.int] at ry
    cases hr
    exact op_ge pins s σ H _ _ v u Q I rx ry ⟨_, _, rfl, rfl, q⟩
  · exact (in_pair hK hu I rx ry bx (.inl bY) hr _).1 _ (fin _ rfl)
  · exact (in_pair hK hu I rx ry bx (.inr bY) hr _).1 _ (fin _ rfl)
  · rename_i ys
    cases z : inD d ys with
    | none =>
      rw [z] at hr
      cases hr
    | some c =>
      rw [z] at hr
      exact (in_pair hK hu I rx ry bx (.inl bY) z _).2 _ (fin _ (Option.some.inj hr))
  · rename_i ys
    cases z : inD d ys with
    | none =>
      rw [z] at hr
      cases hr
    | some c =>
      rw [z] at hr
      exact (in_pair hK hu I rx ry bx (.inr bY) z _).2 _ (fin _ (Option.some.inj hr))
  · rw [bY.non] at ry
    refine op_isN pins s σ H x .non v u Q I rx ry ⟨rfl, ?_⟩
    rw [← repB_non bx, Option.some.inj hr]
    exact q
  · rw [bY.non] at ry
    refine op_notN pins s σ H x .non v u Q I rx ry ⟨rfl, ?_⟩
    rw [← repB_non bx, Option.some.inj hr]
    exact q
  · cases hr

theorem at_reps {F : Addr → Prop} {mu : List Addr} {H : Hp} {vs : List V} {xs : List D} {i : Int} {d : D} (r : Reps G F mu H vs xs) (h : atI xs i = some d) : ∃ v, atI vs i = some v ∧ Rep G F mu H v d := by
  unfold atI at h ⊢
  rw [r.length]
  cases z : ixN xs.length i with
  | none =>
    rw [z] at h
    cases h
  | some j =>
    rw [z] at h
    exact r.get' h
def r2I (G : Cfg) : R2 := fun x y H Q => ∃ W d e r, RepB G W H x d ∧ RepB G W H y e ∧ idxD d e = some r ∧ ∀ v, Rep G W.F W.mu H v r → Q v H
theorem ix_any (hK : X.K = G.K) : IxR X (r2I G) := by
  intro value slice pins s σ H x y v u Q I rx ry h hs
  obtain ⟨W, d, e, r, bx, bY, hr, q⟩ := h
  unfold idxD at hr
  split at hr
  · obtain ⟨a, vs, e1, f1, h1, r1⟩ := bx.tup
    obtain ⟨w, h2, h3⟩ := at_reps r1 hr
    have e2 := bY.int
    subst e1 e2
    exact ix_tup value slice pins s σ H _ _ v u Q I rx ry ⟨a, vs, _, w, rfl, rfl, .of h1, h2, q w h3⟩ hs
  · obtain ⟨a, vs, e1, h1, r1⟩ := bx.lst
    obtain ⟨w, h2, h3⟩ := at_reps r1 hr
    have e2 := bY.int
    subst e1 e2
    exact ix_list value slice pins s σ H _ _ v u Q I rx ry ⟨a, vs, _, w, rfl, rfl, .of h1, h2, q w h3⟩ hs
  · rename_i ns i
    obtain ⟨a, e1, h1, _⟩ := bx.scr
    have e2 := bY.int
    subst e1 e2
    cases z : atI ns i with
    | none =>
      rw [z] at hr
      cases hr
    | some n =>
      rw [z] at hr
      cases hr
      have z2 : atI (ns.map V.int) i = some (.int n) := by
        unfold atI at z ⊢
        rw [List.length_map]
        cases y : ixN ns.length i with
        | none =>
          rw [y] at z
          cases z
        | some j =>
          rw [y] at z
          show (ns.map V.int)[j]? = _
          have z' : ns[j]? = some n := z
          rw [List.getElem?_map, z'] <;> rfl
      exact ix_list value slice pins s σ H _ _ v u Q I rx ry ⟨a, _, _, _, rfl, rfl, hK ▸ h1, z2, q _ (.int n)⟩ hs
  · cases hr
theorem cut_reps {F : Addr → Prop} {mu : List Addr} {H : Hp} {vs : List V} {xs : List D} (lo hi : Option Int) (r : Reps G F mu H vs xs) : Reps G F mu H (cutV vs lo hi) (cutD xs lo hi) := by
  unfold cutV cutD
  rw [r.length]
  exact (r.drop _).take _
theorem cut_whole {F : Addr → Prop} {mu : List Addr} {H : Hp} {vs : List V} {xs : List D} {lo hi : Option Int} (r : Reps G F mu H vs xs) (h : HT.sIx vs.length 0 lo = 0 ∧ HT.sIx vs.length vs.length hi = vs.length) : cutD xs lo hi = xs := by
  unfold cutD
  rw [← r.length, h.1, h.2, List.drop_zero, Nat.sub_zero, r.length]
  exact List.take_length
def r2S (G : Cfg) : V → Option Int → Option Int → Hp → VK → Prop := fun x lo hi H Q => ∃ B W env fs hs σ d r, Rel G B W env fs hs σ H ∧ RepB G W H x d ∧ slcD d lo hi = some r ∧ RsP G B env hs σ fs r Q
theorem sl_any (hK : X.K = G.K) : SlR X (r2S G) := by
  intro pins s σ H x v vl vu lo hi sl Q I rx hs pl pu h
  obtain ⟨B, W, env, fs, hs', σ', d, r, g, bx, hr, q⟩ := h
  unfold slcD at hr
  split at hr
  · cases hr
    obtain ⟨a, vs, e1, f1, h1, r1⟩ := bx.tup
    subst e1
    refine sl_tupA pins s σ H _ v vl vu lo hi sl Q I rx hs pl pu ⟨a, vs, rfl, .of h1, fun z => ?_, fun _ p hp => q.tup g (cut_reps lo hi r1) hp⟩
    rw [cut_whole r1 z] at q
    exact q.val g (.tup ⟨f1, h1⟩ r1)
  · cases hr
    obtain ⟨a, vs, e1, h1, r1⟩ := bx.lst
    subst e1
    exact sl_list pins s σ H _ v vl vu lo hi sl Q I rx hs pl pu ⟨a, vs, rfl, .of h1, fun p hp => q.lst g (cut_reps lo hi r1) hp⟩
  · cases hr
    rename_i ns
    obtain ⟨a, e1, h1, _⟩ := bx.scr
    subst e1
    exact sl_list pins s σ H _ v vl vu lo hi sl Q I rx hs pl pu ⟨a, _, rfl, hK ▸ h1, fun p hp => q.lst g (cut_reps lo hi (Reps.ints ns)) hp⟩
  · split at hr
    · rename_i z
      cases hr
      have e1 := bx.str
      subst e1
      exact sl_str pins s σ H _ v vl vu lo hi sl Q I rx hs pl pu ⟨_, rfl, z, q.val g (.str _)⟩
    · cases hr
  · cases hr
end
end Wv
namespace Wv
open PySem L2
section
variable {α : Type} {le : α → α → Bool}
theorem insS_mem {x y : α} : ∀ {l : List α}, y ∈ insS le x l → y = x ∨ y ∈ l
  | [], h => .inl (List.mem_singleton.mp h)
  | z :: l, h => by
    unfold insS at h
    split at h
    · rcases List.mem_cons.mp h with e | e
      · exact .inl e
      · exact .inr e
    · rcases List.mem_cons.mp h with e | e
      · exact .inr (e ▸ List.mem_cons_self)
      · rcases insS_mem e with e | e
        · exact .inl e
        · exact .inr (List.mem_cons_of_mem _ e)
theorem insS_pw (t : PySem.W.TotalLe le) {x : α} : ∀ {l : List α}, l.Pairwise (fun a b => le a b = true) → (insS le x l).Pairwise (fun a b => le a b = true)
  | [], _ => List.pairwise_singleton _ _
  | z :: l, h => by
    obtain ⟨h1, h2⟩ := List.pairwise_cons.mp h
    unfold insS
    split
    · rename_i e
      refine List.pairwise_cons.mpr ⟨fun b hb => ?_, h⟩
      rcases List.mem_cons.mp hb with q | q
      · rw [q]
        exact e
      · exact t.trans _ _ _ e (h1 b q)
    · rename_i e
      refine List.pairwise_cons.mpr ⟨fun b hb => ?_, insS_pw t h2⟩
      rcases insS_mem hb with q | q
      · rw [q]
        exact (t.total z x).resolve_right e
      · exact h1 b q
theorem insS_grp (t : PySem.W.TotalLe le) (c x : α) : ∀ l : List α, (insS le x l).filter (PySem.W.sameRank le c) = (x :: l).filter (PySem.W.sameRank le c)
  | [] => rfl
  | z :: l => by
    unfold insS
    split
    · rfl
    · rename_i e
      rw [List.filter_cons, insS_grp t c x l, List.filter_cons (x := x), List.filter_cons (x := x), List.filter_cons (x := z)]
      by_cases hx : PySem.W.sameRank le c x = true
      · by_cases hz : PySem.W.sameRank le c z = true
        · exfalso
          unfold PySem.W.sameRank at hx hz
          rw [Bool.and_eq_true] at hx hz
          exact e (t.trans _ _ _ hx.2 hz.1)
        · rw [if_pos hx, if_pos hx, if_neg hz, if_neg hz]
      · rw [if_neg hx, if_neg hx]
theorem sortS_eq (t : PySem.W.TotalLe le) (l : List α) : sortS le l = l.mergeSort le := by
  refine PySem.W.sort_unique t ?_ fun c => ?_
  · induction l with
    | nil => exact List.Pairwise.nil
    | cons x l ih => exact insS_pw t ih
  · induction l with
    | nil => rfl
    | cons x l ih =>
      show (insS le x (sortS le l)).filter _ = _
      rw [insS_grp t, List.filter_cons, List.filter_cons, ih]
end
def encSD (p : Int × List Int) : PyData := .tuple [.int p.1, .tuple (p.2.map .int)]
theorem eqvS_ints : ∀ xs ys : List Int, PyData.eqvAll (xs.map .int) (ys.map .int) = decide (xs = ys)
  | [], [] => by simp [PyData.eqvAll]
  | [], _ :: _ => by simp [PyData.eqvAll]
  | _ :: _, [] => by simp [PyData.eqvAll]
  | x :: xs, y :: ys => by
    show PyData.eqvAll (PyData.int x :: xs.map .int) (PyData.int y :: ys.map .int) = _
    rw [PySem.W.eqv_all_cons, eqvS_ints xs ys]
    simp [PyData.eqv, Bool.beq_eq_decide_eq, Bool.decide_and]
theorem lt_encSD (a b : Int × List Int) : PySem.W.dataLt (encSD a) (encSD b) = ltSD a b := by
  unfold encSD ltSD
  rw [PySem.W.dataLt_pair (by simp [PySem.W.alike]) (by simp only [PySem.W.alike]; exact PySem.W.alike_ints _ _), PySem.W.dataLt_int, PySem.W.dataLt_tuple]
  have e := PySem.W.dataLt_ints a.2 b.2
  unfold PySem.W.rowLt at e
  rw [e]
  simp only [PyData.eqv, beq_iff_eq, eqvS_ints, decide_eq_true_eq]
  by_cases h1 : a.1 = b.1
  · rw [if_pos h1]
    by_cases h2 : a.2 = b.2
    · rw [if_pos h2, h2]
      simp [h1]
    · rw [if_neg h2]
      simp [h1]
  · rw [if_neg h1]
    simp [h1]
theorem le_encSD : PySem.W.dataLe false encSD = fun a b => !ltSD b a := by
  rw [PySem.W.dataLe_eq]
  funext a b
  show (!PySem.W.dataLt (encSD b) (encSD a)) = _
  rw [lt_encSD]
theorem sortSD_eq (ps : List (Int × List Int)) : sortSD ps = ps.mergeSort (PySem.W.dataLe false encSD) := by
  unfold sortSD
  rw [← le_encSD]
  exact sortS_eq (PySem.W.sortLe_total _ _ _) ps
theorem ints_eq : ∀ {xs : List D} {ns : List Int}, ints? xs = some ns → xs = ns.map D.int
  | [], _, e => by
    cases e
    rfl
  | .int i :: r, ns, e => by
    have z : (ints? r).map (i :: ·) = some ns := e
    cases y : ints? r with
    | none =>
      rw [y] at z
      cases z
    | some ms =>
      rw [y] at z
      cases z
      rw [ints_eq y] <;> rfl
theorem pairSD_eq {d : D} {p : Int × List Int} (h : pairSD d = some p) : d = backSD p := by
  unfold pairSD at h
  split at h
  · rename_i n xs
    cases z : ints? xs with
    | none =>
      rw [z] at h
      cases h
    | some ns =>
      rw [z] at h
      cases h
      unfold backSD
      rw [ints_eq z]
  · cases h
theorem pairsSD_eq : ∀ {ds : List D} {ps : List (Int × List Int)}, pairsSD ds = some ps → ds = ps.map backSD
  | [], _, h => by
    cases h
    rfl
  | d :: ds, ps, h => by
    have h : (match pairSD d with
      | some p => (pairsSD ds).map (p :: ·)
      | none => none) = some ps := h
    cases z : pairSD d with
    | none =>
      rw [z] at h
      cases h
    | some p =>
      rw [z] at h
      cases y : pairsSD ds with
      | none =>
        rw [y] at h
        cases h
      | some qs =>
        rw [y] at h
        cases h
        rw [pairSD_eq z, pairsSD_eq y]
        rfl
theorem toP_intsS : ∀ ns : List Int, toPs (ns.map .int) = some (ns.map PyData.int)
  | [] => rfl
  | n :: ns => by
    show (match toP (.int n) with
      | some p => (toPs (ns.map .int)).map (p :: ·)
      | none => none) = _
    rw [toP_intsS ns]
    rfl
theorem toP_backSD (p : Int × List Int) : toP (backSD p) = some (encSD p) := by
  unfold backSD encSD
  have e : toPs (p.2.map D.int) = some (p.2.map PyData.int) := toP_intsS p.2
  simp only [toP, toPs, e, Option.map_some]
section
variable {G : Cfg} {X : Cx} {F : Addr → Prop} {mu : List Addr} {H : Hp}
/-- a value that a tree stands for -/
def StdD (G : Cfg) (F : Addr → Prop) (mu : List Addr) (H : Hp) (u : Value) (p : Int × List Int) : Prop := ∃ v, RelV v u ∧ Rep G F mu H v (backSD p)
theorem each_std : ∀ {vs : List V} {us : List Value} {ps : List (Int × List Int)}, Vals vs us → Reps G F mu H vs (ps.map backSD) → PySem.W.EachIs (StdD G F mu H) us ps
  | _, _, [], rv, r => by
    cases r
    cases rv
    exact .nil
  | _, _, p :: ps, rv, r => by
    cases r with
    | cons h t =>
      cases rv with
      | cons e rv => exact .cons ⟨_, e, h⟩ (each_std rv t)
theorem std_each : ∀ {us : List Value} {ps : List (Int × List Int)}, PySem.W.EachIs (StdD G F mu H) us ps → ∃ vs, Vals vs us ∧ Reps G F mu H vs (ps.map backSD)
  | _, _, .nil => ⟨[], .nil, .nil⟩
  | _, _, .cons ⟨v, e, h⟩ t => by
    obtain ⟨vs, h1, h2⟩ := std_each t
    exact ⟨v :: vs, .cons e h1, .cons h h2⟩
theorem cr_sortedD (hK : X.K = G.K) (hu : X.A.units + 64 < cLine) : CallR X (.builtin "sorted") (fun xs H Q => ∃ F mu a vs ps, xs = [.ref a] ∧ H a = some (.lst vs) ∧ Reps G F mu H vs (ps.map backSD) ∧ ps.length ≤ 4000 ∧
    ∀ ws l, Reps G F mu H ws ((sortSD ps).map backSD) → H l = none → Q (.ref l) (upd H l (.lst ws))) := by
  intro pins s σ H xs us Q I rx h
  obtain ⟨F, mu, a, vs, ps, e1, ha, r, hl, q⟩ := h
  subst e1
  obtain ⟨u, e2, ru⟩ := vals1 rx
  subst e2
  obtain rfl : u = Value.ref a := ru
  obtain ⟨its, rv, pl, hz⟩ := I.list (SqL.of (K := X.K) ha)
  have e := each_std rv r
  have er : PySem.W.EachIs (fun v b => ∃ as, PySem.Reads s.heap v (encSD b) as) its ps := e.mono fun w p ⟨v, rw1, rp⟩ => by
    have D1 := dp_rep rp (toP_backSD p)
    rw [← hK] at D1
    exact Dp.reads I _ v w D1 rw1
  have hal : PySem.W.AllAlike (ps.map encSD) := PySem.W.AllAlike.of fun b b' => by
    unfold encSD
    simp only [PySem.W.alike, PySem.W.alikeAll, Bool.true_and, Bool.and_true]
    exact PySem.W.alike_ints _ _
  refine PySem.W.sorted_data (R := StdD G F mu H) pl.isList e er hal (PySem.W.Sortable.tuples fun b => ⟨_, _, rfl⟩) (Nat.le_trans hl (by decide)) (fun b _ => ?_) fun out ho hout => ?_
  · have d1 : (encSD b).depth ≤ 2 := by
      unfold encSD
      simp [PyData.depth, PyData.depthAll, PySem.W.depth_ints]
    omega
  · rw [← sortSD_eq] at hout
    obtain ⟨ws, h1, h2⟩ := std_each hout
    obtain ⟨ep, hat⟩ := PyProof.Rows.sortedAll_at s.heap its out.toArray
    have hlen : ws.length ≤ sizeLine := by
      rw [h1.length, ho]
      exact Nat.le_trans hl (by decide)
    refine ⟨.ref (s.heap.objs.size + 1), _, I.laid (t' := s.toks) (fun b o e => PyProof.Rows.sortedAll_old e) (Nat.le_succ _) (show ObjOk X.prog X.w _ _ _ (.lst ws) from ⟨hlen, out, ep, h1, hat⟩), rfl, q ws _ h2 (I.hok.fresh (Nat.le_succ _))⟩
end
end Wv
namespace Wv
open PySem L2
/-- several values looked at -/
inductive RepBs (G : Cfg) (W : Wd) (H : Hp) : List V → List D → Prop
  | nil : RepBs G W H [] []
  | cons {v : V} {d : D} {vs : List V} {ds : List D} (h : RepB G W H v d) (t : RepBs G W H vs ds) : RepBs G W H (v :: vs) (d :: ds)
section
variable {G : Cfg} {X : Cx}
theorem RepBs.one {W : Wd} {H : Hp} {vs : List V} {d : D} (h : RepBs G W H vs [d]) : ∃ v, vs = [v] ∧ RepB G W H v d := by
  cases h with
  | cons h t =>
    cases t
    exact ⟨_, rfl, h⟩
theorem RepBs.two {W : Wd} {H : Hp} {vs : List V} {d e : D} (h : RepBs G W H vs [d, e]) : ∃ v w, vs = [v, w] ∧ RepB G W H v d ∧ RepB G W H w e := by
  cases h with
  | cons h t =>
    cases t with
    | cons h2 t =>
      cases t
      exact ⟨_, _, rfl, h, h2⟩
theorem Rel.looks {B : Bs} {W : Wd} {env : Ev} {fs : FS} {hs : List (V × R)} {σ : St} {H : Hp} (h : Rel G B W env fs hs σ H) : ∀ {vs : List V} {rs : List R} {ds : List D}, RepRs G W H vs rs → dvs fs rs = some ds → RepBs G W H vs ds
  | _, _, ds, .nil, e => by
    have z : some ([] : List D) = some ds := e
    cases z
    exact .nil
  | _, _, ds, .cons (r := r) (rs := rs) q t, e => by
    have z : (match Wv.dv fs r with
      | some d => (dvs fs rs).map (d :: ·)
      | none => none) = some ds := e
    cases x : Wv.dv fs r with
    | none =>
      rw [x] at z
      cases z
    | some d =>
      rw [x] at z
      cases y : dvs fs rs with
      | none =>
        rw [y] at z
        cases z
      | some es =>
        rw [y] at z
        cases z
        exact .cons (h.look q x) (Rel.looks h t y)
theorem bls_eq : ∀ {xs : List D} {ns : List Bool}, bls? xs = some ns → xs = ns.map D.bl
  | [], _, e => by
    cases e
    rfl
  | .bl i :: r, ns, e => by
    have z : (bls? r).map (i :: ·) = some ns := e
    cases y : bls? r with
    | none =>
      rw [y] at z
      cases z
    | some ms =>
      rw [y] at z
      cases z
      rw [bls_eq y] <;> rfl
theorem max_fold : ∀ (r : List Int) (x : Int), (r.foldl max x ∈ x :: r) ∧ x ≤ r.foldl max x ∧ ∀ y ∈ r, y ≤ r.foldl max x
  | [], x => ⟨List.mem_cons_self, Int.le_refl x, fun _ h => nomatch h⟩
  | a :: r, x => by
    obtain ⟨h1, h2, h3⟩ := max_fold r (max x a)
    refine ⟨?_, Int.le_trans (Int.le_max_left x a) h2, fun y hy => ?_⟩
    · rcases List.mem_cons.mp h1 with e | e
      · show r.foldl max (max x a) ∈ _
        rw [e]
        by_cases q : x ≤ a
        · rw [Int.max_eq_right q]
          exact List.mem_cons_of_mem _ List.mem_cons_self
        · rw [Int.max_eq_left (by omega)]
          exact List.mem_cons_self
      · exact List.mem_cons_of_mem _ (List.mem_cons_of_mem _ e)
    · rcases List.mem_cons.mp hy with e | e
      · rw [e]
        exact Int.le_trans (Int.le_max_right x a) h2
      · exact h3 y e
theorem min_fold : ∀ (r : List Int) (x : Int), (r.foldl min x ∈ x :: r) ∧ r.foldl min x ≤ x ∧ ∀ y ∈ r, r.foldl min x ≤ y
  | [], x => ⟨List.mem_cons_self, Int.le_refl x, fun _ h => nomatch h⟩
  | a :: r, x => by
    obtain ⟨h1, h2, h3⟩ := min_fold r (min x a)
    refine ⟨?_, Int.le_trans h2 (Int.min_le_left x a), fun y hy => ?_⟩
    · rcases List.mem_cons.mp h1 with e | e
      · show r.foldl min (min x a) ∈ _
        rw [e]
        by_cases q : x ≤ a
        · rw [Int.min_eq_left q]
          exact List.mem_cons_self
        · rw [Int.min_eq_right (by omega)]
          exact List.mem_cons_of_mem _ List.mem_cons_self
      · exact List.mem_cons_of_mem _ (List.mem_cons_of_mem _ e)
    · rcases List.mem_cons.mp hy with e | e
      · rw [e]
        exact Int.le_trans h2 (Int.min_le_right x a)
      · exact h3 y e
def r1D (G : Cfg) (b : Bi) : List V → Hp → VK → Prop := fun xs H Q => ∃ B W env fs hs σ ds r, Rel G B W env fs hs σ H ∧ RepBs G W H xs ds ∧ biD b ds = some r ∧ RsP G B env hs σ fs r Q
theorem cr_bi (hK : X.K = G.K) (hu : X.A.units + 64 < cLine) (hc : X.calm = true) (b : Bi) (hb : b ≠ .lens) : CallR X b.val (r1D G b) := by
  intro pins s σ H xs us Q I rx h
  obtain ⟨B, W, env, fs, hs, σ', ds, r, g, bs, hr, q⟩ := h
  unfold biD at hr
  split at hr
  · cases hr
    obtain ⟨v, e1, b1⟩ := bs.one
    obtain ⟨a, vs, e2, f, h1, r1⟩ := b1.tup
    subst e1 e2
    exact call_len pins s σ H _ us Q I rx ⟨_, _, rfl, .inr ⟨vs, .of h1, rfl⟩, by rw [r1.length]; exact q.val g (.int _)⟩
  · cases hr
    obtain ⟨v, e1, b1⟩ := bs.one
    obtain ⟨a, vs, e2, h1, r1⟩ := b1.lst
    subst e1 e2
    exact call_len pins s σ H _ us Q I rx ⟨_, _, rfl, .inl ⟨vs, .of h1, rfl⟩, by rw [r1.length]; exact q.val g (.int _)⟩
  · rename_i ns
    cases hr
    obtain ⟨v, e1, b1⟩ := bs.one
    obtain ⟨a, e2, h1, _⟩ := b1.scr
    subst e1 e2
    exact call_len pins s σ H _ us Q I rx ⟨_, _, rfl, .inl ⟨_, hK ▸ h1, rfl⟩, by rw [List.length_map]; exact q.val g (.int _)⟩
  · split at hr
    · rename_i z
      cases hr
      obtain ⟨v, e1, b1⟩ := bs.one
      have e2 := b1.str
      subst e1 e2
      exact call_len pins s σ H _ us Q I rx ⟨_, _, rfl, ⟨z, rfl⟩, q.val g (.int _)⟩
    · cases hr
  · cases hr
    obtain ⟨v, e1, b1⟩ := bs.one
    obtain ⟨a, vs, e2, f, h1, r1⟩ := b1.tup
    subst e1 e2
    exact call_tupleT pins s σ H _ us Q I rx ⟨a, vs, rfl, .of h1, q.val g (.tup ⟨f, h1⟩ r1)⟩
  · cases hr
    obtain ⟨v, e1, b1⟩ := bs.one
    obtain ⟨a, vs, e2, h1, r1⟩ := b1.lst
    subst e1 e2
    obtain ⟨u, e3, ru⟩ := vals1 rx
    subst e3
    exact rl_tuple pins s σ H _ u Q I ru (.inl ⟨a, vs, rfl, .of h1, fun p hp => q.tup g r1 hp⟩)
  · cases hr
    obtain ⟨v, e1, b1⟩ := bs.one
    obtain ⟨a, vs, e2, f, h1, r1⟩ := b1.tup
    subst e1 e2
    exact call_list_of pins s σ H _ us Q I rx ⟨a, vs, rfl, .inr (.of h1), fun p hp => q.lst g r1 hp⟩
  · cases hr
    obtain ⟨v, e1, b1⟩ := bs.one
    obtain ⟨a, vs, e2, h1, r1⟩ := b1.lst
    subst e1 e2
    exact call_list_of pins s σ H _ us Q I rx ⟨a, vs, rfl, .inl (.of h1), fun p hp => q.lst g r1 hp⟩
  · rename_i xs
    cases z : bls? xs with
    | none =>
      rw [z] at hr
      cases hr
    | some bl =>
      rw [z] at hr
      cases hr
      obtain ⟨v, e1, b1⟩ := bs.one
      obtain ⟨a, vs, e2, h1, r1⟩ := b1.lst
      subst e1 e2
      rw [bls_eq z] at r1
      rw [r1.bls'] at h1
      exact cr_all hc pins s σ H _ us Q I rx ⟨a, bl, rfl, .of h1, q.val g (.bl _)⟩
  · rename_i xs
    cases z : bls? xs with
    | none =>
      rw [z] at hr
      cases hr
    | some bl =>
      rw [z] at hr
      cases hr
      obtain ⟨v, e1, b1⟩ := bs.one
      obtain ⟨a, vs, e2, h1, r1⟩ := b1.lst
      subst e1 e2
      rw [bls_eq z] at r1
      rw [r1.bls'] at h1
      exact cr_any hc pins s σ H _ us Q I rx ⟨a, bl, rfl, .of h1, q.val g (.bl _)⟩
  · rename_i xs
    cases z : ints? xs with
    | none =>
      rw [z] at hr
      cases hr
    | some ns =>
      rw [z] at hr
      cases ns with
      | nil => cases hr
      | cons n ns =>
        cases hr
        obtain ⟨v, e1, b1⟩ := bs.one
        obtain ⟨a, vs, e2, h1, r1⟩ := b1.lst
        subst e1 e2
        rw [ints_eq z] at r1
        rw [r1.ints'] at h1
        refine cr_max hc pins s σ H _ us Q I rx ⟨a, n :: ns, rfl, .of h1, Nat.succ_pos _, fun m hm hle => ?_⟩
        obtain ⟨m1, m2, m3⟩ := max_fold ns n
        have e : m = ns.foldl max n := by
          have y1 := hle _ m1
          have y2 : m ≤ ns.foldl max n := by
            rcases List.mem_cons.mp hm with e | e
            · rw [e]
              exact m2
            · exact m3 m e
          omega
        rw [e]
        exact q.val g (.int _)
  · rename_i xs
    cases z : ints? xs with
    | none =>
      rw [z] at hr
      cases hr
    | some ns =>
      rw [z] at hr
      cases ns with
      | nil => cases hr
      | cons n ns =>
        cases hr
        obtain ⟨v, e1, b1⟩ := bs.one
        obtain ⟨a, vs, e2, h1, r1⟩ := b1.lst
        subst e1 e2
        rw [ints_eq z] at r1
        rw [r1.ints'] at h1
        refine cr_min hc pins s σ H _ us Q I rx ⟨a, n :: ns, rfl, .of h1, Nat.succ_pos _, fun m hm hle => ?_⟩
        obtain ⟨m1, m2, m3⟩ := min_fold ns n
        have e : m = ns.foldl min n := by
          have y1 := hle _ m1
          have y2 : ns.foldl min n ≤ m := by
            rcases List.mem_cons.mp hm with e | e
            · rw [e]
              exact m2
            · exact m3 m e
          omega
        rw [e]
        exact q.val g (.int _)
  · rename_i xs
    cases z : ints? xs with
    | none =>
      rw [z] at hr
      cases hr
    | some ns =>
      rw [z] at hr
      cases hr
      obtain ⟨v, e1, b1⟩ := bs.one
      obtain ⟨a, vs, e2, h1, r1⟩ := b1.lst
      subst e1 e2
      rw [ints_eq z] at r1
      rw [r1.ints'] at h1
      exact cr_sum hc pins s σ H _ us Q I rx ⟨a, ns, rfl, .of h1, q.val g (.int _)⟩
  · cases hr
    obtain ⟨v, w, e1, b1, b2⟩ := bs.two
    have e2 := b1.int
    have e3 := b2.int
    subst e1 e2 e3
    exact call_max2 hc pins s σ H _ us Q I rx ⟨_, _, rfl, q.val g (.int _)⟩
  · cases hr
    obtain ⟨v, w, e1, b1, b2⟩ := bs.two
    have e2 := b1.int
    have e3 := b2.int
    subst e1 e2 e3
    exact call_min2 hc pins s σ H _ us Q I rx ⟨_, _, rfl, q.val g (.int _)⟩
  · split at hr
    · rename_i z
      cases hr
      obtain ⟨v, e1, b1⟩ := bs.one
      have e2 := b1.int
      subst e1 e2
      exact call_str_int pins s σ H _ us Q I rx ⟨_, rfl, z, q.val g (.str _)⟩
    · cases hr
  · cases hr
    obtain ⟨v, e1, b1⟩ := bs.one
    have e2 := b1.int
    subst e1 e2
    exact call_int1 pins s σ H _ us Q I rx (.inl ⟨_, rfl, q.val g (.int _)⟩)
  · cases hr
    obtain ⟨v, e1, b1⟩ := bs.one
    have e2 := b1.bl
    subst e1 e2
    exact call_int1 pins s σ H _ us Q I rx (.inr ⟨_, rfl, q.val g (.int _)⟩)
  · rename_i xs
    cases z : pairsSD xs with
    | none =>
      rw [z] at hr
      cases hr
    | some ps =>
      rw [z] at hr
      have hr : (if ps.length ≤ 4000 then some (Rs.l ((sortSD ps).map backSD)) else none) = some r := hr
      split at hr
      · rename_i hl
        cases hr
        obtain ⟨v, e1, b1⟩ := bs.one
        obtain ⟨a, vs, e2, h1, r1⟩ := b1.lst
        subst e1 e2
        rw [pairsSD_eq z] at r1
        exact cr_sortedD hK hu pins s σ H _ us Q I rx ⟨_, _, a, vs, ps, rfl, h1, r1, hl, fun ws l hw hp => q.lst g hw hp⟩
      · cases hr
  · exact absurd rfl hb
  · cases hr
mutual
theorem hasDict_plain : ∀ {d : PyData}, d.plain = true → d.hasDict = false
  | .none, _ => by simp only [PyData.hasDict]
  | .bool _, _ => by simp only [PyData.hasDict]
  | .int _, _ => by simp only [PyData.hasDict]
  | .str _, _ => by simp only [PyData.hasDict]
  | .list xs, h => by
    simp only [PyData.hasDict]
    exact hasDicts_plain (by simpa only [PyData.plain] using h)
  | .tuple xs, h => by
    simp only [PyData.hasDict]
    exact hasDicts_plain (by simpa only [PyData.plain] using h)
  | .dict _, h => by simp [PyData.plain] at h
theorem hasDicts_plain : ∀ {d : List PyData}, PyData.plainAll d = true → PyData.hasDictAll d = false
  | [], _ => by simp only [PyData.hasDictAll]
  | x :: r, h => by
    simp only [PyData.plainAll, Bool.and_eq_true] at h
    simp only [PyData.hasDictAll, hasDict_plain h.1, hasDicts_plain h.2, Bool.or_self]
end
/-- repr of data -/
def r1S (G : Cfg) : List V → Hp → VK → Prop := fun xs H Q => ∃ W d r v, xs = [v] ∧ RepB G W H v d ∧ showD d = some r ∧ Q (.str r) H
theorem cr_repr (hK : X.K = G.K) (hu : X.A.units + 64 < cLine) (hg : X.A.guards = some []) : CallR X (.builtin "repr") (r1S G) := by
  intro pins s σ H xs us Q I rx h
  obtain ⟨W, d, r, v, e1, b, hr, q⟩ := h
  subst e1
  obtain ⟨u, e2, ru⟩ := vals1 rx
  subst e2
  unfold showD at hr
  split at hr
  · rename_i p ep
    split at hr
    · rename_i z
      obtain ⟨z1, z2, z3⟩ := z
      cases hr
      have z4 : p.shown.length ≤ sizeLine := Nat.le_trans z3 (by decide)
      have D1 := dp_B b ep
      rw [← hK] at D1
      obtain ⟨as, ra⟩ := Dp.reads I p v u D1 ru
      have hd : p.hasDict = true → sysModules ∉ as := fun e => by
        have y : p.hasDict = false := hasDict_plain (toP_plain ep)
        rw [e] at y
        cases y
      have fin : ∀ h' w tk, (∀ b o, s.heap.get? b = some o → h'.get? b = some o) → EP X pins σ Q (.str p.shown w) { s with heap := h', toks := tk } := fun h' w tk k => ⟨.str _, H, I.kept k, ⟨_, rfl⟩, q⟩
      cases D1 with
      | non =>
        cases ru
        exact PySem.P.repr_of_none (fin s.heap _ _ fun _ _ e => e)
      | bl b =>
        cases ru
        exact PySem.P.repr_of_bool (fin s.heap _ _ fun _ _ e => e)
      | int i =>
        obtain ⟨t, rfl⟩ := ru
        exact PySem.P.repr_of_int (by simpa [PyData.showable] using z1) (fin s.heap _ _ fun _ _ e => e)
      | str x =>
        obtain ⟨t, rfl⟩ := ru
        exact PySem.P.repr_of_str (fin s.heap _ _ fun _ _ e => e) z4
      | lst h1 h2 =>
        cases ru
        exact repr_of_reads' ra z1 hd hg (by omega) (fun _ _ e => e) fin z4
      | tup h1 h2 =>
        cases ru
        exact repr_of_reads' ra z1 hd hg (by omega) (fun _ _ e => e) fin z4
    · cases hr
  · cases hr
end
end Wv
namespace Wv
open PySem L2
def needS {α : Type} (o : Option α) (k : α → SO) : SO := match o with
  | some a => k a
  | none => .bad
def loopS (body : D → Ev → FS → SO) : List D → Ev → FS → SO
  | [], env, s => .nx env s
  | x :: xs, env, s => match body x env s with
    | .nx e s1 => loopS body xs e s1
    | .ct e s1 => loopS body xs e s1
    | .bk e s1 => .nx e s1
    | o => o
def whlS (c : Ev → FS → Out R) (body : Ev → FS → SO) : Nat → Ev → FS → SO
  | 0, _, _ => .bad
  | n + 1, env, s => (c env s).st env fun r s => needS (bl? r) fun b => if b = true then (match body env s with
      | .nx e s1 => whlS c body n e s1
      | .ct e s1 => whlS c body n e s1
      | .bk e s1 => .nx e s1
      | o => o) else .nx env s
/-- a field of an open instance, of a cell -/
def putFs : List Nat → List D → Nat → D → List Nat × List D
  | [], _, x, d => ([x], [d])
  | y :: fs, v :: vs, x, d => if y = x then (y :: fs, d :: vs) else (y :: (putFs fs vs x d).1, v :: (putFs fs vs x d).2)
  | fs, [], _, _ => (fs, [])
def putFld (P : Prm) (s : FS) (o : R) (x : Nat) (d : D) : Option FS := match o with
  | .own k => (match s.ol[k]? with
    | some (true, .ins c fs vs) => if fs.length < 1000 ∧ P.fldOk c x = true then some ⟨s.ol.set k (true, .ins c (putFs fs vs x d).1 (putFs fs vs x d).2), s.st⟩ else none
    | _ => none)
  | .fz (.cel n) => (match s.st[n]? with
    | some (.ins c fs vs) => if fs.length < 1000 ∧ P.fldOk c x = true then some ⟨s.ol, s.st.set n (.ins c (putFs fs vs x d).1 (putFs fs vs x d).2)⟩ else none
    | _ => none)
  | _ => none
def putAll (P : Prm) (q : R) : List (Nat × D) → FS → Option FS
  | [], s => some s
  | (x, d) :: r, s => (putFld P s q x d).bind fun s => putAll P q r s
/-- a list that one may add to -/
def putLst (s : FS) (o : R) (ds : List D) : Option FS := match o with
  | .own k => (match s.ol[k]? with
    | some (true, .lst xs) => if xs.length + ds.length ≤ sizeLine then some ⟨s.ol.set k (true, .lst (xs ++ ds)), s.st⟩ else none
    | _ => none)
  | .fz (.cel n) => (match s.st[n]? with
    | some (.lst xs) => if xs.length + ds.length ≤ sizeLine then some ⟨s.ol, s.st.set n (.lst (xs ++ ds))⟩ else none
    | _ => none)
  | _ => none
/-- xs[i] = d -/
def putAt (s : FS) (o : R) (j : R) (d : D) : Option FS := match o, j with
  | .fz (.cel n), .fz (.int i) => (match s.st[n]? with
    | some (.lst xs) => (ixN xs.length i).map fun j => ⟨s.ol, s.st.set n (.lst (xs.set j d))⟩
    | _ => none)
  | .own k, .fz (.int i) => (match s.ol[k]? with
    | some (true, .lst xs) => (ixN xs.length i).map fun j => ⟨s.ol.set k (true, .lst (xs.set j d)), s.st⟩
    | _ => none)
  | _, _ => none
def ex (P : Prm) : S → Ev → FS → SO
  | .nil, env, s => .nx env s
  | .cons a r, env, s => match ex P a env s with
    | .nx env s => ex P r env s
    | o => o
  | .pas, env, s => .nx env s
  | .asg (.n i) e, env, s => (ev P e env s).st env fun r s => .nx (env.set i (some r)) s
  | .asg t e, env, s => (ev P e env s).st env fun r s => needS (fz s r) fun p => needS (asgT t p.1 env) fun env => .nx env p.2
  | .alc i own tg it tt el, env, s => (ev P (.com own tg it tt el) env s).st env fun r s => .nx (env.set i (some r)) s
  | .alc2 i own tg it own1 tg1 it1 tt el, env, s => (ev P (.co2 own tg it own1 tg1 it1 tt el) env s).st env fun r s => .nx (env.set i (some r)) s
  | .par is es, env, s => (evs P es env s).st env fun rs s => if is.length = rs.length then .nx ((is.zip rs).foldl (fun e p => e.set p.1 (some p.2)) env) s else .bad
  | .sfl o x e, env, s => (ev P e env s).st env fun r s => (ev P o env s).st env fun q s => needS (fz s r) fun p => needS (putFld P p.2 q x p.1) fun s => .nx env s
  | .sfp xs e, env, s => (ev P e env s).st env fun r s => needS (fz s r) fun p => match p.1 with
    | .tup ds => if xs.length = ds.length then (match env[0]? with
      | some (some q) => needS (putAll P q (xs.zip ds) p.2) fun s => .nx env s
      | _ => .bad) else .bad
    | _ => .bad
  | .sit o i e, env, s => (ev P e env s).st env fun r s => needS (fz s r) fun p => (ev P o env p.2).st env fun q s => (ev P i env s).st env fun j s => needS (putAt s q j p.1) fun s => .nx env s
  | .dput o i e, env, s => (ev P e env s).st env fun r s => needS (fz s r) fun p => (ev P o env p.2).st env fun q s => (ev P i env s).st env fun j s => needS (dv s q) fun d => needS (dv s j) fun k => needS (dicAt s d) fun kvs => needS (keyT k) fun key =>
      (match d with
        | .cel n => if kvs.length < sizeLine then .nx env ⟨s.ol, s.st.set n (.dic (dpt kvs key p.1))⟩ else .bad
        | _ => .bad)
  | .exp e, env, s => (ev P e env s).st env fun _ s => .nx env s
  | .app x e, env, s => match env[x]? with
    | some (some q) => if isLst s q = true then (ev P e env s).st env fun r s => needS (fz s r) fun p => needS (putLst p.2 q [p.1]) fun s => .nx env s else .bad
    | _ => .bad
  | .ext x e, env, s => match env[x]? with
    | some (some q) => if isLst s q = true then (ev P e env s).st env fun r s => needS (fz s r) fun p => (match p.1 with
      | .lst ys => needS (putLst p.2 q ys) fun s => .nx env s
      | .tup ys => needS (putLst p.2 q ys) fun s => .nx env s
      | _ => .bad) else .bad
    | _ => .bad
  | .ret e, env, s => (ev P e env s).st env fun r s => .rt r env s
  | .rtn, env, s => .rt (.fz .non) env s
  | .ife c a b, env, s => (ev P c env s).st env fun r s => needS (bl? r) fun k => if k = true then ex P a env s else ex P b env s
  | .for t it b, env, s => (evI P it env s).st env fun rs s => needS (fzs s rs) fun p => needS (itD it p.1) fun xs => loopS (fun x env s => needS (asgT t x env) fun env => ex P b env s) xs env p.2
  | .whl n c b, env, s => whlS (ev P c) (ex P b) n env s
  | .rai c es, env, s => (evs P es env s).st env fun rs s => .exc ⟨c, [], []⟩ env s
  | .nev, _, _ => .bad
  | .fzv i, env, s => match env[i]? with
    | some (some r) => needS (fz s r) fun p => .nx (env.set i (some (.fz p.1))) p.2
    | _ => .bad

def Fn.env (f : Fn) (ds : List D) : Ev := (ds.map fun d => some (R.fz d)) ++ List.replicate (f.N.length - ds.length) none
def endOf (o : SO) : Oc := match o with
  | .nx _ s => .ok (.fz .non) s.st
  | .rt (.fz d) _ s => .ok (.fz d) s.st
  | .rt (.own k) _ s => (match s.ol[k]? with
    | some (true, c) => .ok (.ow c) s.st
    | some (false, c) => .ok (.fz c.d) s.st
    | none => .bad)
  | .exc x _ s => .exc x s.st
  | _ => .bad
def runF (P : Prm) (f : Fn) (ds : List D) (st : List Cl) : Oc := match f.bind ds with
  | some es => endOf (ex P f.body (f.env es) ⟨[], st⟩)
  | none => .bad
/-- __init__ has run: the instance -/
def endI (still : Bool) (o : SO) : Oc := match o with
  | .nx _ s => (match s.ol[0]? with
    | some (b, Cl.ins c fs vs) => if still = true then .ok (.fz (.ins c fs vs)) s.st else if b = true then .ok (.fz (.cel s.st.length)) (s.st ++ [.ins c fs vs]) else .bad
    | _ => .bad)
  | .exc x _ s => .exc x s.st
  | _ => .bad
def runI (P : Prm) (c : Nat) (k : Cla) (f : Fn) (ds : List D) (st : List Cl) : Oc := if f.star = true ∧ f.np < 2 then .bad else match f.bind (.non :: ds) with
  | some (_ :: es) => endI k.still (ex P f.body (some (.own 0) :: ((es.map fun d => some (R.fz d)) ++ List.replicate (f.N.length - (es.length + 1)) none)) ⟨[(true, .ins c [] [])], st⟩)
  | _ => .bad
/-- a generator's turns -/
def loopG (P : Prm) (tg : Tg) (tt el : E) : List D → Ev → FS → List D → Option (List D × FS)
  | [], _, s, acc => some (acc, s)
  | x :: xs, env, s, acc => (asgT tg x env).bind fun env => match ev P tt env s with
    | .ok r s1 => (match bl? r with
      | some true => (match ev P el env s1 with
        | .ok r2 s2 => (fz s2 r2).bind fun p => if acc.length < 1000000 then loopG P tg tt el xs env p.2 (acc ++ [p.1]) else none
        | _ => none)
      | some false => loopG P tg tt el xs env s1 acc
      | none => none)
    | _ => none
def Gn.env (q : Gn) (ds : List D) : Ev := (ds.map fun d => some (R.fz d)) ++ List.replicate (q.N.length - ds.length) none
def runG (P : Prm) (q : Gn) (ds : List D) (st : List Cl) : Option (List D × List Cl) := if ds.length = q.np then (match evI P q.it (q.env ds) ⟨[], st⟩ with
  | .ok rs s => (fzs s rs).bind fun p => (itD q.it p.1).bind fun xs => (loopG P q.tg q.tt q.el xs (q.env ds) p.2 []).map fun z => (z.1, z.2.st)
  | _ => none) else none
/-- a program, n calls deep -/
def prm (p : Pg) : Bool → Nat → Prm
  | g, 0 => ⟨g, p.cls, fun _ _ _ => .bad, fun _ _ _ => .bad, fun _ _ _ => none, fun _ _ _ => .bad⟩
  | g, n + 1 => ⟨g, p.cls, fun i ds st => match p.fns[i]? with
      | some f => runF (prm p g n) f ds st
      | none => .bad, fun c ds st => match p.cls[c]? with
      | some k => (match p.fns[k.init]? with
        | some f => runI (prm p g n) c k f ds st
        | none => .bad)
      | none => .bad, fun i ds st => match p.gens[i]? with
      | some q => runG (prm p false n) q ds st
      | none => none, fun i ds st => match p.fns[i]? with
      | some f => runF (prm p false n) f ds st
      | none => .bad⟩
end Wv
namespace Wv
open PySem L2

/-- a promise by positional values; g: nothing is being shown around the call -/
def FnG (P : Program) (w : World) (K : PySem.W.Frag) (mg : Str → Option Value) (base : Heap) (n : Nat) (g : Bool) (f : Addr) (sp : Sp) : Prop :=
  ∀ (A : Around) (out : List Env) (s : Shared) (H : Hp) (us : List Value) (vs : List V) (Q : VK) (E : XK), Room n A → (g = true → A.guards = some []) → Env0 P w K mg base A out s H → Vals vs us → sp vs H Q E →
    codeAny (model P w) A (.call (.ref f) ⟨us, []⟩) (CR (L2.CX P w) out P w H s Q E) s
/-- a call's end, told by the mirror -/
def OcP (G : Cfg) (B : Bs) (Q : VK) (E : XK) : Oc → Prop
  | .ok (.fz d) st => ∀ W env fs hs σ H v, Rel G B W env fs ((v, .fz d) :: hs) σ H → fs.st = st → Q v H
  | .ok (.ow c) st => ∀ W env fs hs σ H v k, Rel G B W env fs ((v, .own k) :: hs) σ H → fs.ol[k]? = some (true, c) → fs.st = st → Q v H
  | .exc x st => ∀ W env fs hs σ H cls d, Rel G B W env fs hs σ H → XRep G W H cls d x → fs.st = st → E cls d H
  | .bad => False
/-- what a def that does o promises -/
def SpF (G : Cfg) (o : List D → List Cl → Oc) : Sp := fun vs H Q E => ∃ F mu ds st, Rel G ⟨H, F, mu⟩ ⟨F, mu, []⟩ [] ⟨[], st⟩ [] [] H ∧ Reps G F mu H vs ds ∧ OcP G ⟨H, F, mu⟩ Q E (o ds st)
/-- .. an __init__ -/
def SpI (G : Cfg) (c : Nat) (o : List D → List Cl → Oc) : Sp := fun vs H Q E => ∃ H1 x dx ws F mu ds st, vs = .ref x :: ws ∧ H1 x = none ∧ H1 dx = none ∧ dx ≠ x ∧ H = upd (upd H1 dx (.own x)) x (.ins (G.ca c) dx []) ∧
  Rel G ⟨H1, F, mu⟩ ⟨F, mu, []⟩ [] ⟨[], st⟩ [] [] H1 ∧ Reps G F mu H1 ws ds ∧ OcP G ⟨H1, F, mu⟩ (fun v H' => v = .ref x → Q .non H') E (o ds st)

/-- a generator def's promise -/
def GnG (P : Program) (w : World) (K : PySem.W.Frag) (mg : Str → Option Value) (base : Heap) (k : Nat) (f : Addr) (sp : SpG) : Prop := ∃ fd ps, GFn P w K mg base k f fd ps sp ∧ L2.Binds K fd ps []
def SpGD (G : Cfg) (o : List D → List Cl → Option (List D × List Cl)) : SpG := fun vs H cont _ => ∃ F mu ds st acc st', Rel G ⟨H, F, mu⟩ ⟨F, mu, []⟩ [] ⟨[], st⟩ [] [] H ∧ Reps G F mu H vs ds ∧ o ds st = some (acc, st') ∧
  ∀ U env fs hs σ H' ys, Rel G ⟨H, F, mu⟩ U env fs hs σ H' → Reps G U.F U.mu H' ys acc → fs.st = st' → cont ys H'

section
variable {X : Cx} {W : WX} {pins : List (Addr × Obj)} {σ : St} {H : Hp} {s : Shared} {n : Nat} {g : Bool} {f : Addr} {sp : Sp} {us : List Value} {vs : List V} {Q : VK}
theorem env0_at {A : Around} (I : Inv X pins σ H s) (hf : A.frames = X.A.frames) : Env0 X.prog X.w X.K X.mg X.base A X.stack s H :=
  let e := I.env0
  ⟨hf.trans e.frames, e.mod, e.bs, e.bsz, e.funs, e.frf, e.hok, e.bare⟩
/-- the callee runs, around it A -/
theorem run_gA {A : Around} (F : FnG X.prog X.w X.K X.mg X.base n g f sp) (hr : Room n A) (hg : g = true → A.guards = some []) (hf : A.frames = X.A.frames) (tk : Takes X W) (I : Inv X pins σ H s) (r : Vals vs us)
    (h : sp vs H Q fun cls d H' => W cls d σ H') : codeAny (model X.prog X.w) A (.call (.ref f) ⟨us, []⟩) (fun r s' => match r with
      | .ok (.ret v) => EP X pins σ Q v s'
      | .ok _ => False
      | .error e => X.xe e s') s := by
  refine codeAny_mono (F A X.stack s H us vs Q _ hr hg (env0_at I hf) r h) fun z s' hq => ?_
  cases z with
  | error e => exact tk e s' (XE.of_call I (fun _ _ _ z => z) hq)
  | ok fl =>
    cases fl with
    | ret u => exact I.after hq
    | next => exact hq.elim
    | brk => exact hq.elim
    | cont => exact hq.elim
theorem run_g (F : FnG X.prog X.w X.K X.mg X.base n g f sp) (hr : Room n X.A) (hg : g = true → X.A.guards = some []) (tk : Takes X W) (I : Inv X pins σ H s) (r : Vals vs us) (h : sp vs H Q fun cls d H' => W cls d σ H') :
    wpAny (model X.prog X.w) X.A (call (.ref f) us) (EP X pins σ Q) X.xe s := wpAny_call (run_gA F hr hg rfl tk I r h)
end

/-- its test is its value's truth -/
def byVal : Expr → Bool
  | .Name _ _ => true
  | .Constant _ _ _ => true
  | .Call _ _ _ _ => true
  | .Attribute _ _ _ => true
  | .Subscript _ _ _ => true
  | _ => false
theorem star_no {e : Expr} {es : List Expr} {env : Env} (h : noStar e = true) : starEach (e :: es) env = (false, eval e env) :: starEach es env := by
  cases e <;> first | (cases h; done) | rfl
theorem slice_no {b : Expr} (h : noSlice b = true) : ∀ o i, subscripted b false o i = operate [o, i] (getItem o i) := by
  cases b <;> first | (cases h; done) | (intro o i; rfl)
theorem set_no {e : Expr} {env : Env} (h : noSet e = true) : ∀ x, foldedSetIterable e env x = pure x := by
  cases e <;> first | (cases h; done) | (intro x; rfl)
theorem set_marks {e : Expr} {op : CmpOp} (h : noSet e = true) : behindInMarks op e = false := by
  cases e <;> first | (cases h; done) | rfl
theorem call_no {e : Expr} {f : Str} {env : Env} (h : noCall e = true) : attributeBase e f env (eval e env) = eval e env := by
  cases e with
  | Call g as ks q =>
    cases as with
    | nil => cases h
    | cons a as => cases g <;> rfl
  | _ => rfl
theorem test_val {e : Expr} {env : Env} (h : byVal e = true) : ∀ z, isTrue e env z = (do let v ← z; standAt e.pos; holding [v] (truthy v)) := by
  cases e <;> first | (cases h; done) | (intro z; rfl)
theorem lc_no {e : Expr} {l : Nat} {env : Env} {t : Option Expr} (h : noLc e = true) : swapsWith e t l env = pure false := by
  cases e <;> first | (cases h; done) | rfl
theorem any_back {pos : Pos} {l : List Expr} {env : Env} (h : l.all noStar = true) : (backTo pos (starEach l env)).any (·.1) = false := by
  induction l with
  | nil => rfl
  | cons e es ih =>
    rw [List.all_cons, Bool.and_eq_true] at h
    rw [star_no h.1]
    show (false || (backTo pos (starEach es env)).any (·.1)) = false
    rw [ih h.2] <;> rfl
/-- the last of two comparisons is no 'in' -/
theorem last_two {op op' : CmpOp} {b c : Expr} (h : noSet c = true) : lastMarks [op, op'] [b, c] = false := by
  show lastMarks [op'] [c] = false
  exact set_marks h
end Wv
namespace Wv
open PySem L2

/-- the class has no such operator, nor its reflected one -/
structure NoNum (K : PySem.W.Frag) (a : Addr) (nm : String) : Prop where
  mro : ∃ cd, PySem.W.clsIn K a = some cd ∧ cd.mro = [.ref a, .type "object"]
  no : PySem.W.findIn K (.ref a) (PySem.dunder nm) = some none
  noR : PySem.W.findIn K (.ref a) (dunderR nm) = some none
/-- C.m is a staticmethod: its record at q, its def at f -/
structure StaOf (K : PySem.W.Frag) (C : Addr) (m : Str) (q f : Addr) : Prop where
  rd : PySem.W.readsIn K C (.type "type") = true
  ga : PySem.W.specialIn K (.ref C) "__getattribute__" = some (some (.builtin "type.__getattribute__"))
  at_ : PySem.W.findCls K (.ref C) (.type "type") m = some (.get (.builtin "staticmethod.__get__") (.ref q) .none (.ref C))
  rc : ∃ rest, PySem.W.recIn K q "staticmethod" = some (.ref f :: rest)
/-- an own class, by the written part -/
structure ClsOk (G : Cfg) (p : Pg) (c : Nat) (k : Cla) : Prop where
  glob : G.mg k.nm = some (.ref (G.ca c))
  cls : Cls G.K (G.ca c)
  make : Mk G.K (G.ca c) (G.fa k.init)
  prop : ∀ x f, k.prop.lookup x = some f → ∃ q, PropOf G.K (G.ca c) (G.nm x) q (G.fa f)
  meth : ∀ x f, k.meth.lookup x = some f → Meth G.K (G.ca c) (G.nm x) (G.fa f) ∧ x < G.nms.length
  fld : ∀ x ∈ k.flds, NoAttr G.K (G.ca c) (G.nm x) ∧ x < G.nms.length
  klass : PySem.W.findIn G.K (.ref (G.ca c)) "__class__" = some (some (.builtin "object.__class__")) ∧ PySem.W.mroIn G.K (G.ca c) (.type "object") = some true
  isOwn : ∀ d, d < p.cls.length → PySem.W.kitOne G.K (.ref (G.ca c)) (.ref (G.ca d)) = some (k.mro.contains d)
  isTy : ∀ t ∈ (["NoneType", "int", "bool", "str", "tuple", "list", "dict"] : List String), PySem.W.kitOne G.K (.ref (G.ca c)) (.type t) = some false
  ofTy : ∀ t ∈ (["NoneType", "int", "bool", "str", "tuple", "list", "dict"] : List String), PySem.W.kitOne G.K (.type t) (.ref (G.ca c)) = some false
  num : ∀ x f, k.meth.lookup x = some f → x ∈ [mAdd, mAnd] → PySem.W.selfFirst G.K (G.ca c) = true
  nn : ∀ x ∈ k.nn, x ∈ [mAdd, mAnd] → NoNum G.K (G.ca c) (opN x)
  gmeth : ∀ x f, k.gmeth.lookup x = some f → Meth G.K (G.ca c) (G.nm x) (G.gb f) ∧ x < G.nms.length
  ne : PySem.W.findIn G.K (.ref (G.ca c)) "__ne__" = some (some (.builtin "object.__ne__"))
  stat : ∀ x f, k.stat.lookup x = some f → ∃ q, StaOf G.K (G.ca c) (G.nm x) q (G.fa f)
structure PgOk (G : Cfg) (p : Pg) : Prop where
  nms : G.nms = p.nms
  spc : p.nms.take 9 = spNms
  nnd : p.nms.Nodup
  fn : ∀ i f, p.fns[i]? = some f → f.pl.2 = none → G.mg f.pl.1 = some (.ref (G.fa i))
  kp : ∀ i f, p.fns[i]? = some f → PySem.W.keepIn G.K (.ref (G.fa i)) = true
  isf : ∀ i f, p.fns[i]? = some f → PySem.W.isFn G.K (.ref (G.fa i)) = true
  fin : ∀ i f, p.fns[i]? = some f → PySem.W.fnIn G.K (G.fa i) = true
  cls : ∀ c k, p.cls[c]? = some k → ClsOk G p c k
  free : ∀ x ∈ bltNames, G.mg x = none
  ks : ∀ x k, (x, k) ∈ p.ks → ∃ v u, G.mg (G.nm x) = some u ∧ RelV v u ∧ Rep G (fun _ => False) [] (fun _ => none) v (Kc.d k)
  klass : PySem.W.specialIn G.K (.builtin "object.__class__") "__get__" = some (some (.builtin "getset_descriptor.__get__")) ∧ PySem.W.takesIn G.K (.builtin "object.__class__") = some true
structure Fits (S : Sx) (X : Cx) : Prop where
  N : X.N = S.N
  sc : X.env.scope = S.sc
  st : ∀ x, S.st x = true → Loc X.env.scope x ∧ (X.fn x = true ∨ X.env.scope.names.lookup x = some .local)
structure XOk (G : Cfg) (p : Pg) (n : Nat) (g : Bool) (X : Cx) (W : WX) : Prop where
  pg : PgOk G p
  K : X.K = G.K
  mg : X.mg = G.mg
  calm : X.calm = true
  nd : X.N.Nodup
  tk : Takes X W
  room : Room (4 * n + 3) X.A
  gd : g = true → X.A.guards = some []
  fn : ∀ i f, p.fns[i]? = some f → FnG X.prog X.w X.K X.mg X.base (4 * n) g (G.fa i) (SpF G ((prm p g n).call i))
  make : ∀ c k, p.cls[c]? = some k → FnG X.prog X.w X.K X.mg X.base (4 * n) g (G.fa k.init) (SpI G c ((prm p g n).make c))
  gen : ∀ i q, p.gens[i]? = some q → GnG X.prog X.w X.K X.mg X.base (4 * n) (G.gb i) (SpGD G ((prm p g n).gens i))
  fnF : ∀ i f, p.fns[i]? = some f → FnG X.prog X.w X.K X.mg X.base (4 * n) false (G.fa i) (SpF G ((prm p g n).callF i))

section
variable {G : Cfg} {p : Pg} {n : Nat} {g : Bool} {X : Cx} {W : WX} {B : Bs} {Wd' : Wd} {env : Ev} {fs : FS} {hs : List (V × R)} {σ : St} {H : Hp} {pins : List (Addr × Obj)} {s : Shared}
theorem XOk.units (o : XOk G p n g X W) : X.A.units + 64 < cLine := o.room.units
theorem XOk.room0 (o : XOk G p n g X W) : Room (4 * n) X.A := o.room.mono (Nat.le_add_right _ _)
/-- behind a call: the frame goes on -/
theorem ocp_of {U : Wd} {Q : VK} {o : Oc} (h : Rel G B U env fs hs σ H) (q : Post G W B env hs σ (fun r fs' => ∀ v W' H', Rel G B W' env fs' ((v, r) :: hs) σ H' → Q v H') (o.out fs.ol)) :
    OcP G ⟨H, U.F, U.mu⟩ Q (fun cls d H' => W cls d σ H') o := by
  cases o with
  | bad => exact q
  | exc x st =>
    intro U' env' fs' hs' σ' H' cls d g' xr est
    have b := h.back g'
    rw [est] at b
    exact q cls d _ _ b xr
  | ok r st =>
    cases r with
    | fz d =>
      intro U' env' fs' hs' σ' H' v g' est
      have b := h.back g'
      rw [est] at b
      exact q v _ _ (b.push (r := .fz d) g'.top)
    | ow c =>
      intro U' env' fs' hs' σ' H' v k g' ek est
      obtain ⟨a, e1, e2⟩ : ∃ a, U'.ml[k]? = some a ∧ v = .ref a := g'.top
      subst e2
      have b := h.back g'
      rw [est] at b
      obtain ⟨q1, q2, _⟩ := g'.own k a true c e1 ek
      have hn : H a = none := g'.lnew a (get_mem e1)
      obtain ⟨n0, n1, n2, n3, n4⟩ := h.new hn
      exact q _ _ _ (b.adopt n0 (fun z => g'.disj z (get_mem e1)) n2 (q2 rfl) q1)
/-- a call by values, the arguments handed on -/
theorem call_ds (o : XOk G p n g X W) {i : Nat} {f : Fn} (hf : p.fns[i]? = some f) (I : Inv X pins σ H s) {us : List Value} {vs : List V} {ds : List D} {Q : VK} (rv : Vals vs us) (h : Rel G B Wd' env fs hs σ H) (r : Reps G Wd'.F Wd'.mu H vs ds)
    (q : Post G W B env hs σ (fun r fs' => ∀ v W' H', Rel G B W' env fs' ((v, r) :: hs) σ H' → Q v H') (((prm p g n).call i ds fs.st).out fs.ol)) :
    wpAny (model X.prog X.w) X.A (call (.ref (G.fa i)) us) (EP X pins σ Q) X.xe s :=
  run_g (o.fn i f hf) o.room0 o.gd o.tk I rv ⟨Wd'.F, Wd'.mu, ds, fs.st, h.enter, r, ocp_of h q⟩
/-- making an instance -/
theorem make_ds (o : XOk G p n g X W) {c : Nat} {k : Cla} (hk : p.cls[c]? = some k) (I : Inv X pins σ H s) {us : List Value} {vs : List V} {ds : List D} {Q : VK} (rv : Vals vs us) (h : Rel G B Wd' env fs hs σ H) (r : Reps G Wd'.F Wd'.mu H vs ds)
    (q : Post G W B env hs σ (fun r fs' => ∀ v W' H', Rel G B W' env fs' ((v, r) :: hs) σ H' → Q v H') (((prm p g n).make c ds fs.st).out fs.ol)) :
    wpAny (model X.prog X.w) X.A (call (.ref (G.ca c)) us) (EP X pins σ Q) X.xe s := by
  have M := (o.pg.cls c k hk).make
  rw [← o.K] at M
  have F := o.make c k hk
  have n1 : H (s.heap.objs.size + 1) = none := I.hok.fresh (Nat.le_succ _)
  have n2 : H s.heap.objs.size = none := I.hok.fresh (Nat.le_refl _)
  have I2 := Inv.made (C := G.ca c) I
  have hr : Room (4 * n) (X.A.under (.builtin "type.__call__" ⟨.ref (G.ca c) :: us, []⟩)) := (o.room.mono (show 4 * n + 1 ≤ 4 * n + 3 by omega)).make (G.ca c) us []
  have gd : g = true → (X.A.under (.builtin "type.__call__" ⟨.ref (G.ca c) :: us, []⟩)).guards = some [] := fun e => by
    have z := o.gd e
    have y : (Code.builtin "type.__call__" ⟨.ref (G.ca c) :: us, []⟩).guards = [] := by
      unfold Code.guards
      rw [if_neg]
      show ¬ guardIds.contains "type.__call__" = true
      decide
    show pushGuards (Code.builtin "type.__call__" ⟨.ref (G.ca c) :: us, []⟩).guards X.A.guards = some []
    rw [y, z] <;> rfl
  refine wpAny_call (make_map (f := G.fa k.init) I.kIn M.makes M.init (beq_iff_eq.mp M.fn) (codeAny_mono (run_gA (Q := fun v H2 => v = .non ∧ Q (.ref (s.heap.objs.size + 1)) H2) F hr gd rfl o.tk I2 (us := .ref (s.heap.objs.size + 1) :: us) (vs := .ref (s.heap.objs.size + 1) :: vs) (.cons rfl rv) ?_) fun z s' hq => ?_))
  · refine ⟨H, _, _, vs, Wd'.F, Wd'.mu, ds, fs.st, rfl, n1, n2, Nat.ne_of_lt (Nat.lt_succ_self _), rfl, h.enter, r, ?_⟩
    have y := ocp_of h q
    cases z : (prm p g n).make c ds fs.st with
    | bad =>
      rw [z] at y
      exact y
    | exc x st =>
      rw [z] at y
      exact y
    | ok r' st =>
      rw [z] at y
      cases r' with
      | fz d => exact fun W1 e1 f1 h1 s1 H1 v g1 est ev => ⟨rfl, ev ▸ y W1 e1 f1 h1 s1 H1 v g1 est⟩
      | ow c' => exact fun W1 e1 f1 h1 s1 H1 v k1 g1 ek est ev => ⟨rfl, ev ▸ y W1 e1 f1 h1 s1 H1 v k1 g1 ek est⟩
  · cases z with
    | error e => exact hq
    | ok fl =>
      cases fl with
      | ret u =>
        obtain ⟨v, H', I3, rv3, ev, q3⟩ := hq
        subst ev
        exact ⟨rv3, ⟨V.ref (s.heap.objs.size + 1), H', I3, rfl, q3⟩⟩
      | next => exact hq.elim
      | brk => exact hq.elim
      | cont => exact hq.elim
/-- the arguments, then the call: no star, or the first has none -/
theorem callAny {f : Value} {first : List Value} {l : List Expr} {pos : Pos} {t : TA} {K : List V → Hp → Prop} {Q : Value → Shared → Prop} (I : Inv X pins σ H s) (ha : PA X l t) (hk : PySem.W.keepIn X.K f = true) (h : t σ H K) (h0 : l = [] → K [] H)
    (hl : headNo l = true) (hK : ∀ us s1 vs H1, Inv X pins σ H1 s1 → Vals vs us → K vs H1 → wpAny (model X.prog X.w) X.A (call f (first ++ us)) Q X.xe s1) :
    wpAny (model X.prog X.w) X.A (callWith pos f first (backTo pos (starEach l X.env)) []) Q X.xe s := by
  cases l with
  | nil => exact PySem.W.callWith_K0 I.kIn hk (hK [] s [] H I .nil (h0 rfl))
  | cons e r =>
    have st := star_no (es := r) (env := X.env) (e := e) hl
    have go : wpAny (model X.prog X.w) X.A (spliced (backTo pos (starEach (e :: r) X.env))) (fun us s1 => X.K.In s1.heap ∧ wpAny (model X.prog X.w) X.A (call f (first ++ us)) Q X.xe s1) X.xe s :=
      thn (ha.run pos pins s σ H _ I h) fun us s1 ⟨vs, H1, I1, rv, q⟩ => ⟨I1.kIn, hK us s1 vs H1 I1 rv q⟩
    cases z : (backTo pos (starEach r X.env)).any (·.1) with
    | false => exact PySem.W.callWith_K (h₀ := X.base) I.ok.mod.kin hk go st z
    | true => exact PySem.W.callWith_S2 (h₀ := X.base) I.ok.mod.kin hk go st z
/-- one starred argument alone -/
theorem callStar {f : Value} {first : List Value} {e : Expr} {sp pos : Pos} {t : TE} {K : List V → Hp → Prop} {Q : Value → Shared → Prop} (I : Inv X pins σ H s) (he : PE X e t) (hk : PySem.W.keepIn X.K f = true)
    (h : t σ H fun x H1 => ∃ a xs, x = .ref a ∧ (SqT X.K H1 a xs ∨ SqL X.K H1 a xs) ∧ K xs H1) (hK : ∀ us s1 vs H1, Inv X pins σ H1 s1 → Vals vs us → K vs H1 → wpAny (model X.prog X.w) X.A (call f (first ++ us)) Q X.xe s1) :
    wpAny (model X.prog X.w) X.A (callWith pos f first (backTo pos (starEach [.Starred e sp] X.env)) []) Q X.xe s := by
  refine PySem.W.callWith_S (h₀ := X.base) I.ok.mod.kin hk (thn (he.run pins s σ H _ I h) fun v s1 hh => ?_) rfl
  obtain ⟨y, H1, I1, ry, a, xs, ey, hx, q⟩ := hh
  subst ey
  obtain rfl : v = Value.ref a := ry
  exact StX.star_any I1 hx fun us s2 I2 rv => ⟨I2.kIn, hK us s2 xs H1 I2 rv q⟩
end
end Wv
namespace Wv
open PySem L2
section
variable {G : Cfg} {B : Bs} {U : Wd} {env : Ev} {fs : FS} {hs : List (V × R)} {σ : St} {H : Hp}
theorem nm_inj (nd : G.nms.Nodup) {i j : Nat} (hi : i < G.nms.length) (hj : j < G.nms.length) (e : G.nm i = G.nm j) : i = j := by
  unfold Cfg.nm at e
  rw [List.getD_eq_getElem?_getD, List.getD_eq_getElem?_getD, List.getElem?_eq_getElem hi, List.getElem?_eq_getElem hj] at e
  have e : G.nms[i] = G.nms[j] := e
  exact nd_ix nd (List.getElem?_eq_getElem hi) ((List.getElem?_eq_getElem hj).trans (congrArg some e.symm))
theorem cls_at (h : Rel G B U env fs hs σ H) {v : V} {d : D} {c : Nat} {ks : List Nat} {vs : List D} (b : RepB G U H v d) (e : clsOf d fs.st = some (c, ks, vs)) :
    ∃ a dx ws, v = .ref a ∧ H a = some (.ins (G.ca c) dx ws) ∧ G.Nm ws ks ∧ Reps G U.F U.mu H (ws.map (·.2)) vs := by
  unfold clsOf at e
  split at e
  · cases e
    exact b.ins
  · rename_i n
    obtain ⟨a, e1, e2⟩ := b.cel
    obtain ⟨cl, e3, e4⟩ := h.cellAt e2
    rw [e3] at e
    cases cl with
    | lst xs => cases e
    | dic kvs => cases e
    | ins c' ks' vs' =>
      cases e
      obtain ⟨dx, ws, e5, k, r⟩ := e4
      exact ⟨a, dx, ws, e1, e5, k, r⟩
  · cases e
end
section
variable {M : Model} {A : Around} {E : Value → Shared → Prop} {s : Shared} {K : PySem.W.Frag} {x y C C2 f : Addr} {ox oy : Obj} {od od2 : Option Obj} {nm : String}
theorem fills_no {h : Heap} (X : K.In h) (n : NoNum K C nm) (h3 : PySem.W.findIn K (.type "object") (PySem.dunder nm) = some none) (h4 : PySem.W.findIn K (.type "object") (dunderR nm) = some none) : PySem.W.Looks M h (fillsNumberSlot (.ref C) nm) false := by
  intro A Q E s k q
  obtain ⟨⟨cd, hc, hm⟩, h1, h2⟩ := n
  have Lm : PySem.W.Looks M h (mroOf (.ref C)) cd.mro := (PySem.W.looks_clsIn X hc).andThen (f := fun cd => pure cd.mro) .now
  have Lm' := Lm.keeps k
  obtain ⟨hh, g, d, tt, os⟩ := s
  have X' : K.In hh := X.keeps k
  have L1 : PySem.W.Looks M hh (typeLookup (.ref C) (PySem.dunder nm)) none := PySem.W.looks_findIn X' h1
  have L2 : PySem.W.Looks M hh (typeLookup (.ref C) (dunderR nm)) none := PySem.W.looks_findIn X' h2
  have L3 : PySem.W.Looks M hh (typeLookup (.type "object") (PySem.dunder nm)) none := PySem.W.looks_findIn X' h3
  have L4 : PySem.W.Looks M hh (typeLookup (.type "object") (dunderR nm)) none := PySem.W.looks_findIn X' h4
  unfold fillsNumberSlot
  refine wpAny_bind (Lm'.at ?_)
  rw [hm, List.anyM_cons]
  repeat lk
  exact q
theorem try_own {Q : Value → Shared → Prop} {name : Str} {b : Value} (X : K.In s.heap) (I : PySem.W.InstAt s.heap x ox C od) (hs : PySem.W.findIn K (.ref C) name = some (some (.ref f))) (hf : PySem.W.isFn K (.ref f) = true)
    (h : wpAny M A (call (.ref f) [.ref x, b]) (PySem.W.CmpBack Q) E s) : wpAny M A (tryMethod (.ref x) name b) (fun r s' => ∃ v, r = some v ∧ Q v s') E s := by
  unfold tryMethod
  refine wpAny_bind (PySem.W.special_fn X I hs (beq_iff_eq.mp hf) (wpAny_mono h (fun v s' hv => ?_) fun _ _ e => e))
  cases v <;> first | exact hv.elim | exact wpAny_pure ⟨_, rfl, hv⟩
/-- the operator: by the left one's own method -/
theorem bin_own {prog : Program} {w : World} {A : Around} {op : Operator} {Q : Value → Shared → Prop} (hn : op = .Add ∨ op = .BitAnd) (X : K.In s.heap) (I : PySem.W.InstAt s.heap x ox C od) (J : PySem.W.InstAt s.heap y oy C2 od2) (hc : PySem.W.selfFirst K C = true)
    (hs : PySem.W.findIn K (.ref C) (PySem.dunder op.info.2) = some (some (.ref f))) (hf : PySem.W.isFn K (.ref f) = true) (hor : C2 = C ∨ NoNum K C2 op.info.2)
    (h : wpAny (model prog w) A (call (.ref f) [.ref x, .ref y]) (PySem.W.CmpBack Q) E s) : wpAny (model prog w) A (binaryOp op (.ref x) (.ref y)) Q E s := by
  obtain ⟨cd, hcd, hm⟩ := PySem.W.any_some hc
  obtain ⟨rest, hm⟩ : ∃ rest, cd.mro = .ref C :: rest := by
    cases q : cd.mro with
    | nil => rw [q] at hm; cases hm
    | cons a r => rw [q] at hm; exact ⟨r, by rw [List.head?_cons] at hm; cases (beq_iff_eq.mp hm); rfl⟩
  have one := try_own X I hs hf h
  have L1 : PySem.W.Looks (model prog w) s.heap (typeOf (.ref x)) (.ref C) := I.type
  have L2 : PySem.W.Looks (model prog w) s.heap (typeOf (.ref y)) (.ref C2) := J.type
  have L3 : PySem.W.Looks (model prog w) s.heap (fillsNumberSlot (.ref C) op.info.2) true := PySem.W.fills_K X hcd hm hs
  have L4 : C2 ≠ C → PySem.W.Looks (model prog w) s.heap (fillsNumberSlot (.ref C2) op.info.2) false := fun ne => fills_no X (hor.resolve_left ne) (by rcases hn with e | e <;> (subst e; show PySem.fastLookup "object" _ = _; decide +kernel)) (by rcases hn with e | e <;> (subst e; show PySem.fastLookup "object" _ = _; decide +kernel))
  have fin : wpAny (model prog w) A (tryMethod (.ref x) (PySem.dunder op.info.2) (.ref y)) (fun r s' => ∃ v, r = some v ∧ Q v s') E s := one
  unfold binaryOp
  refine wpAny_holding (wpAny_bind ?_)
  unfold binaryOp1
  refine wpAny_bind (L1.here (wpAny_bind (L2.here (wpAny_bind (L3.here ?_)))))
  by_cases ne : C2 = C
  · subst ne
    simp only [beq_self_eq_true, if_true]
    refine wpAny_bind (wpAny_pure ?_)
    simp only [Bool.and_false, Bool.false_eq_true, if_false, Bool.false_and]
    refine wpAny_bind (wpAny_pure ?_)
    simp only [Bool.false_eq_true, if_false]
    refine wpAny_bind (wpAny_mono fin (fun r s' hr => ?_) fun _ _ e => e)
    obtain ⟨v, e, hq⟩ := hr
    subst e
    exact wpAny_pure (wpAny_pure hq)
  · have hne : (Value.ref C == Value.ref C2) = false := beq_false_of_ne fun q => ne (by cases q; rfl)
    simp only [hne, Bool.false_eq_true, if_false]
    refine wpAny_bind ((L4 ne).here ?_)
    simp only [Bool.and_false, Bool.false_eq_true, if_false, Bool.false_and]
    refine wpAny_bind (wpAny_pure ?_)
    simp only [Bool.false_eq_true, if_false]
    refine wpAny_bind (wpAny_mono fin (fun r s' hr => ?_) fun _ _ e => e)
    obtain ⟨v, e, hq⟩ := hr
    subst e
    exact wpAny_pure (wpAny_pure hq)
end
section
variable {G : Cfg} {p : Pg} {n : Nat} {g : Bool} {X : Cx} {W : WX} {B : Bs} {U : Wd} {env : Ev} {fs : FS} {hs : List (V × R)} {σ : St} {H : Hp} {pins : List (Addr × Obj)} {s : Shared}
/-- what is wanted of a value -/
abbrev KQ (G : Cfg) (B : Bs) (env : Ev) (hs : List (V × R)) (σ : St) (Q : VK) : R → FS → Prop := fun r fs' => ∀ v W' H', Rel G B W' env fs' ((v, r) :: hs) σ H' → Q v H'
theorem cmpBack_ep {Q : VK} {u : Value} {s' : Shared} (h : EP X pins σ Q u s') : PySem.W.CmpBack (EP X pins σ Q) u s' := by
  obtain ⟨v, H', I, rv, q⟩ := h
  cases u <;> first | exact ⟨v, H', I, rv, q⟩ | (exfalso; cases v <;> first | exact rv | (cases rv; done) | (obtain ⟨_, z⟩ := rv; cases z))
theorem nm_sp (o : PgOk G p) {i : Nat} (hi : i < 9) : G.nm i = spNms.getD i "" := by
  show G.nms.getD i "" = _
  rw [o.nms, ← o.spc, List.getD_eq_getElem?_getD, List.getD_eq_getElem?_getD, List.getElem?_take, if_pos hi]
theorem prm_cs : (prm p g n).cs = p.cls := by cases n <;> rfl
/-- a method by its number -/
theorem meth_at (o : XOk G p n g X W) {c m f : Nat} (h : (prm p g n).methOf c m = some f) : ∃ k fn, p.cls[c]? = some k ∧ k.meth.lookup m = some f ∧ Meth G.K (G.ca c) (G.nm m) (G.fa f) ∧ (p.fns[f]? = some fn ∨ p.fns[f]? = none) := by
  unfold Prm.methOf at h
  rw [prm_cs] at h
  cases z : p.cls[c]? with
  | none =>
    rw [z] at h
    cases h
  | some k =>
    rw [z] at h
    have h : k.meth.lookup m = some f := h
    cases y : p.fns[f]? with
    | none => exact ⟨k, ⟨("", none), false, "", [], 0, false, .nil⟩, rfl, h, ((o.pg.cls c k z).meth m f h).1, .inr rfl⟩
    | some fn => exact ⟨k, fn, rfl, h, ((o.pg.cls c k z).meth m f h).1, .inl rfl⟩
theorem inst_of (I : Inv X pins σ H s) {a dx C : Addr} {ws : List (Str × V)} (e : H a = some (.ins C dx ws)) : ∃ od, PySem.W.InstAt s.heap a (PySem.W.instObj C dx) C (some od) := by
  obtain ⟨mA, O, _, _, _, _⟩ := ins_get I.hok e
  obtain ⟨od, J, _⟩ := O.look
  exact ⟨od, J⟩
theorem ite_post0 {α : Type} {K : α → FS → Prop} {c : Prop} [Decidable c] {o : Out α} (h : Post G W B env hs σ K (if c then o else .bad)) : c ∧ Post G W B env hs σ K o := by
  by_cases hc : c
  · rw [if_pos hc] at h
    exact ⟨hc, h⟩
  · rw [if_neg hc] at h
    exact h.elim
theorem RepB.of {v : V} {d : D} (h : Rep G U.F U.mu H v d) : RepB G U H v d := .inl h
theorem obj_bin (o : XOk G p n g X W) {op : Bin} {m : Nat} (em : binM op = some m) (I : Inv X pins σ H s) {x y : V} {v u : Value} {d e : D} {Q : VK} (rx : RelV x v) (ry : RelV y u) (h : Rel G B U env fs hs σ H) (bx : Rep G U.F U.mu H x d) (bY : Rep G U.F U.mu H y e)
    (q : Post G W B env hs σ (KQ G B env hs σ Q) ((prm p g n).binO d m e fs)) : wpAny (model X.prog X.w) X.A (binaryOp op.op v u) (EP X pins σ Q) X.xe s := by
  have hm : (op.op = .Add ∨ op.op = .BitAnd) ∧ (m = mAdd ∨ m = mAnd) ∧ G.nm m = PySem.dunder op.op.info.2 ∧ opN m = op.op.info.2 := by
    cases op <;> first | (cases em; done) | skip
    · cases em
      exact ⟨.inl rfl, .inl rfl, (nm_sp o.pg (by decide)).trans (by decide +kernel), rfl⟩
    · cases em
      exact ⟨.inr rfl, .inr rfl, (nm_sp o.pg (by decide)).trans (by decide +kernel), rfl⟩
  obtain ⟨hop, hmm, hnm, hnn⟩ := hm
  unfold Prm.binO Prm.meth at q
  cases ec : clsOf d fs.st with
  | none =>
    rw [ec] at q
    exact q.elim
  | some w =>
    obtain ⟨c, ks, vs⟩ := w
    rw [ec] at q
    obtain ⟨hoth, q⟩ := ite_post0 q
    dsimp only at q
    cases ef : (prm p g n).methOf c m with
    | none =>
      rw [ef] at q
      exact q.elim
    | some f =>
      rw [ef] at q
      obtain ⟨k, fn, hk, hl, M, hf⟩ := meth_at o ef
      rcases hf with hf | hf
      · obtain ⟨a, dx, ws, e1, e2, k3, r3⟩ := cls_at h (RepB.of bx) ec
        subst e1
        unfold Prm.othOk at hoth
        cases ec2 : clsOf e fs.st with
        | none =>
          rw [ec2] at hoth
          cases hoth
        | some w2 =>
          obtain ⟨c2, ks2, vs2⟩ := w2
          rw [ec2] at hoth
          obtain ⟨a2, dx2, ws2, e4, e5, k6, r6⟩ := cls_at h (RepB.of bY) ec2
          subst e4
          obtain rfl : v = Value.ref a := rx
          obtain rfl : u = Value.ref a2 := ry
          obtain ⟨od, J⟩ := inst_of I e2
          obtain ⟨od2, J2⟩ := inst_of I e5
          have hor : G.ca c2 = G.ca c ∨ NoNum X.K (G.ca c2) op.op.info.2 := by
            rw [Bool.or_eq_true] at hoth
            rcases hoth with z | z
            · exact .inl (by rw [of_decide_eq_true z])
            · right
              rw [prm_cs] at z
              cases y : p.cls[c2]? with
              | none =>
                rw [y] at z
                cases z
              | some k2 =>
                rw [y] at z
                have z : k2.nn.contains m = true := z
                rw [← hnn, o.K]
                exact (o.pg.cls c2 k2 y).nn m (List.contains_iff_mem.mp z) (by rcases hmm with e | e <;> simp [e])
          have M := M
          rw [← o.K] at M
          refine bin_own hop I.kIn J J2 (by rw [o.K]; exact (o.pg.cls c k hk).num m f hl (by rcases hmm with e | e <;> simp [e])) (by rw [← hnm]; exact M.at_) M.fn hor ?_
          exact wpAny_mono (call_ds o hf I (vs := [.ref a, .ref a2]) (us := [.ref a, .ref a2]) (ds := [d, e]) (.cons rfl (.cons rfl .nil)) h (.cons bx (.cons bY .nil)) q) (fun _ _ z => cmpBack_ep z) fun _ _ z => z
      · have z : (prm p g n).call f (d :: [e]) fs.st = .bad := by
          cases n with
          | zero => rfl
          | succ n =>
            show (match p.fns[f]? with
              | some f => runF (prm p g n) f (d :: [e]) fs.st
              | none => .bad) = _
            rw [hf]
        have q : Post G W B env hs σ (KQ G B env hs σ Q) (((prm p g n).call f (d :: [e]) fs.st).out fs.ol) := q
        rw [z] at q
        exact q.elim
theorem obj_len (o : XOk G p n g X W) (I : Inv X pins σ H s) {x : V} {v : Value} {d : D} {Q : VK} (rx : RelV x v) (h : Rel G B U env fs hs σ H) (bx : Rep G U.F U.mu H x d)
    (q : Post G W B env hs σ (KQ G B env hs σ Q) (((prm p g n).meth d mLen [] fs).bnd lenO)) : wpAny (model X.prog X.w) X.A (call (.builtin "len") [v]) (EP X pins σ Q) X.xe s := by
  unfold Prm.meth at q
  cases ec : clsOf d fs.st with
  | none =>
    rw [ec] at q
    exact q.elim
  | some w =>
    obtain ⟨c, ks, vs⟩ := w
    rw [ec] at q
    dsimp only at q
    cases ef : (prm p g n).methOf c mLen with
    | none =>
      rw [ef] at q
      exact q.elim
    | some f =>
      rw [ef] at q
      obtain ⟨k, fn, hk, hl, M, hf⟩ := meth_at o ef
      rcases hf with hf | hf
      · obtain ⟨a, dx, ws, e1, e2, k3, r3⟩ := cls_at h (RepB.of bx) ec
        subst e1
        obtain rfl : v = Value.ref a := rx
        obtain ⟨od, J⟩ := inst_of I e2
        rw [nm_sp o.pg (by decide), ← o.K] at M
        refine Calls.call_function_entry PySem.kind_len PySem.plain_len PySem.entry_len (PySem.args_len1 _) ?_
        unfold Builtin.«len»
        refine wpAny_bind (m := oneArg "len" _) (wpAny_pure ?_)
        refine wpAny_bind (m := callSpecial? (.ref a) (Str.ofString "__len__")) (PySem.W.special_fn I.kIn J M.at_ (beq_iff_eq.mp M.fn) (wpAny_mono (run_gA (A := X.A.in1) (Q := fun v H' => ∃ i : Int, v = .int i ∧ (0 ≤ i ∧ i < 2 ^ 63) ∧ Q v H') (o.fn f fn hf) (o.room.mono (show 4 * n + 1 ≤ 4 * n + 3 by omega)).in1 o.gd rfl o.tk I (vs := [.ref a]) (us := [.ref a]) (.cons rfl .nil) ⟨U.F, U.mu, [d], fs.st, h.enter, .cons bx .nil, ocp_of h (q.bnd.imp fun r s1 y v U1 H1 g1 => ?_)⟩ |> wpAny_call) (fun u s' hr => ?_) fun _ _ y => y))
        · cases r with
          | own k => exact y.elim
          | fz d' =>
            cases d' with
            | int i =>
              obtain ⟨hi, y⟩ := ite_post0 y
              have t : Rep G U1.F U1.mu H1 v (.int i) := g1.top
              cases t
              exact ⟨i, rfl, hi, y _ _ _ g1⟩
            | _ => exact y.elim
        · obtain ⟨v, H1, I1, rv, i, e, hi, qv⟩ := hr
          subst e
          obtain ⟨t, e⟩ := rv
          subst e
          refine wpAny_bind (wpAny_holding (wpAny_pure ?_))
          refine wpAny_bind (wpAny_letGo ?_)
          show wpAny _ _ (if i < 0 then _ else _) _ _ _
          rw [if_neg (by omega)]
          show wpAny _ _ (if i ≥ 2 ^ 63 then _ else _) _ _ _
          rw [if_neg (by omega)]
          exact wpAny_bind (wpAny_mkInt (wpAny_pure ⟨_, rfl, .int i, H1, I1.tok _, ⟨_, rfl⟩, qv⟩))
      · have e : (prm p g n).call f (d :: []) fs.st = .bad := by
          cases n with
          | zero => rfl
          | succ n =>
            show (match p.fns[f]? with
              | some f => runF (prm p g n) f (d :: []) fs.st
              | none => .bad) = _
            rw [hf]
        have q : Post G W B env hs σ (KQ G B env hs σ Q) ((((prm p g n).call f (d :: []) fs.st).out fs.ol).bnd lenO) := q
        rw [e] at q
        exact q.elim
end
end Wv
namespace Wv
open PySem L2
section
variable {G : Cfg} {p : Pg} {n : Nat} {g : Bool} {X : Cx} {W : WX} {B : Bs} {U : Wd} {env : Ev} {fs : FS} {hs : List (V × R)} {σ : St} {H : Hp} {pins : List (Addr × Obj)} {s : Shared}
/-- the state behind one operand -/
def K1 (G : Cfg) (W : WX) (σ : St) (k : R → FS → Out R) (v : V) (H : Hp) (Q : VK) : Prop :=
  ∃ B U env fs hs r, Rel G B U env fs ((v, r) :: hs) σ H ∧ Post G W B env hs σ (KQ G B env hs σ Q) (k r fs)
def K2 (G : Cfg) (W : WX) (σ : St) (k : R → R → FS → Out R) (v w : V) (H : Hp) (Q : VK) : Prop :=
  ∃ B U env fs hs r q, Rel G B U env fs ((w, q) :: (v, r) :: hs) σ H ∧ Post G W B env hs σ (KQ G B env hs σ Q) (k r q fs)
theorem tE_one {m : Ev → FS → Out R} {k : R → FS → Out R} {Q : VK} (h : tE G W (fun env s => (m env s).bnd k) σ H Q) : tE G W m σ H fun v H1 => K1 G W σ k v H1 Q := by
  obtain ⟨B, U, env, fs, hs, g, q⟩ := h
  exact ⟨B, U, env, fs, hs, g, q.bnd.imp fun r s1 q1 v U1 H1 g1 => ⟨B, U1, env, s1, hs, r, g1, q1⟩⟩
theorem tE_two {m m' : Ev → FS → Out R} {k : R → R → FS → Out R} {Q : VK} (h : tE G W (fun env s => (m env s).bnd fun r s => (m' env s).bnd fun q s => k r q s) σ H Q) :
    tE G W m σ H fun v H1 => tE G W m' σ H1 fun w H2 => K2 G W σ k v w H2 Q := by
  obtain ⟨B, U, env, fs, hs, g, q⟩ := h
  refine ⟨B, U, env, fs, hs, g, q.bnd.imp fun r s1 q1 v U1 H1 g1 => ⟨B, U1, env, s1, (v, r) :: hs, g1, ?_⟩⟩
  exact (q1.bnd.imp fun t s2 q2 w U2 H2 g2 => ⟨B, U2, env, s2, hs, r, t, g2, q2⟩).less fun z hz => List.mem_cons_of_mem _ hz
/-- an outcome that is a value at once -/
theorem post_ok {K : R → FS → Prop} {r : R} {s : FS} (h : Post G W B env hs σ K (.ok r s)) : K r s := h
theorem post_rs {r : Rs} {Q : VK} (h : Post G W B env hs σ (KQ G B env hs σ Q) (r.out fs)) : RsP G B env hs σ fs r Q := by
  cases r <;> exact h
theorem post_val {d : D} {v : V} {Q : VK} (h : Post G W B env hs σ (KQ G B env hs σ Q) (.ok (.fz d) fs)) (g : Rel G B U env fs hs σ H) (r : Rep G U.F U.mu H v d) : Q v H := h v U H (g.push (r := .fz d) r)

theorem sd_var {i : Nat} {x : Str} {pos : Pos} (hN : X.N[i]? = some x) (hv : Vis X.env.scope x) (h1 : (x == ("__debug__" : Str)) = false) (h2 : (x == ("__classdict__" : Str)) = false) (P : Prm) : PE X (.Name x pos) (tE G W (ev P (.var i))) := by
  refine (pe_var hN hv h1 h2).imp fun σ H Q h => ?_
  obtain ⟨B, U, env, fs, hs, g, q⟩ := h
  have q : Post G W B env hs σ _ (match env[i]? with
    | some (some r) => .ok r fs
    | _ => .bad) := q
  split at q
  · rename_i r e
    obtain ⟨v, e1, e2⟩ := g.env i r e
    exact ⟨v, e1, q v U H (g.push e2)⟩
  · exact q.elim
theorem tC_val {d : D} {v : V} {m : Ev → FS → Out R} {Q : VK} (hm : ∀ env s, m env s = .ok (.fz d) s) (hv : ∀ (F : Addr → Prop) mu H, Rep G F mu H v d) (h : tE G W m σ H Q) : Q v H := by
  obtain ⟨B, U, env, fs, hs, g, q⟩ := h
  rw [hm] at q
  exact q v U H (g.push (r := .fz d) (hv _ _ _))
theorem Kc.rep (k : Kc) {F : Addr → Prop} {mu : List Addr} {H : Hp} : Rep G F mu H k.v k.d := by
  cases k
  · exact .non
  · exact .bl _
  · exact .int _
  · exact .str _
theorem sd_con {k : Kc} {c : Const} {j : Nat} {pos : Pos} (h : chK k c = true) (P : Prm) : PE X (.Constant c j pos) (tE G W (ev P (.con k))) := by
  have fin : ∀ σ H Q, tE G W (ev P (.con k)) σ H Q → Q k.v H := fun σ H Q z => tC_val (fun _ _ => rfl) (fun _ _ _ => k.rep) z
  unfold chK at h
  split at h
  · exact pe_non.imp fin
  · rename_i b c
    have e : b = c := eq_of_beq h
    subst e
    exact pe_bl.imp fin
  · have e := of_decide_eq_true h
    subst e
    exact pe_int.imp fin
  · have e := of_decide_eq_true h
    subst e
    exact pe_str.imp fin
  · cases h
theorem kc_rel {v : V} {k : Kc} (r : Rep G (fun _ => False) [] (fun _ => none) v k.d) : v = k.v := by
  cases k <;> (cases r; rfl)
theorem sd_glo (o : XOk G p n g X W) {x : Nat} {k : Kc} {y : Str} {pos : Pos} (hg : Gl X y) (he : G.nm x = y) (hk : (x, k) ∈ p.ks) (h1 : (y == ("__debug__" : Str)) = false) (P : Prm) : PE X (.Name y pos) (tE G W (ev P (.glo x k))) := by
  obtain ⟨v, u, e1, e2, e3⟩ := o.pg.ks x k hk
  have ev := kc_rel e3
  subst ev
  rw [he, ← o.mg] at e1
  exact (pe_glob hg e1 e2 h1).imp fun σ H Q z => tC_val (fun _ _ => rfl) (fun _ _ _ => k.rep) z

theorem sd_bin (o : XOk G p n g X W) {op : Bin} {a b : Expr} {ea eb : E} {pos : Pos} (ha : PE X a (tE G W (ev (prm p g n) ea))) (hb : PE X b (tE G W (ev (prm p g n) eb))) : PE X (.BinOp a op.op b pos) (tE G W (ev (prm p g n) (.bin op ea eb))) := by
  refine ⟨fun pins s σ H Q I h => ?_⟩
  refine wpAny_BinOp (binT ha hb I (tE_two h) fun v u s2 x y H2 I2 rx ry q => ?_)
  obtain ⟨B, U, env, fs, hs, r, t, g2, q⟩ := q
  obtain ⟨d, ed, q⟩ := q.need
  obtain ⟨e, ee, q⟩ := q.need
  have bx : RepB G U H2 x d := g2.look g2.drop.top ed
  have bY : RepB G U H2 y e := g2.look g2.top ee
  have g3 := g2.drop.drop
  by_cases ho : isObj d = true
  · rw [if_pos ho] at q
    obtain ⟨m, em, q⟩ := q.need
    obtain ⟨z0, ez0, q⟩ := q.need
    obtain ⟨z, ez, q⟩ := q.need
    obtain ⟨U2, g4, r4, m4⟩ := g2.fz g2.drop.top ez0
    obtain ⟨U3, g5, r5, m5⟩ := g4.fz (m4 y t g2.top) ez
    exact obj_bin o em I2 rx ry g5.drop.drop (m5 x (.fz _) r4) r5 q
  · rw [if_neg ho] at q
    obtain ⟨r', er, q⟩ := q.need
    exact op_bin o.K op pins s2 σ H2 x y v u Q I2 rx ry ⟨B, U, env, fs, hs, σ, d, e, r', g3, bx, bY, er, post_rs q⟩
end
end Wv
namespace Wv
open PySem L2
section
variable {G : Cfg} {p : Pg} {n : Nat} {g : Bool} {X : Cx} {W : WX} {B : Bs} {U : Wd} {env : Ev} {fs : FS} {hs : List (V × R)} {σ : St} {H : Hp} {P : Prm} {pos : Pos}
theorem Out.bnd_bnd {α β γ : Type} (o : Out α) (f : α → FS → Out β) (k : β → FS → Out γ) : (o.bnd f).bnd k = o.bnd fun a s => (f a s).bnd k := by cases o <;> rfl
theorem need_bnd {α β γ : Type} (o : Option α) (f : α → Out β) (k : β → FS → Out γ) : (need o f).bnd k = need o fun a => (f a).bnd k := by cases o <;> rfl
theorem tE_mono {m : Ev → FS → Out R} {Q Q' : VK} (h : tE G W m σ H Q) (q : ∀ v H, Q v H → Q' v H) : tE G W m σ H Q' := by
  obtain ⟨B, U, env, fs, hs, r, k⟩ := h
  exact ⟨B, U, env, fs, hs, r, k.imp fun a s z v W' H' y => q _ _ (z v W' H' y)⟩
theorem tT_mono {m : Ev → FS → Out Bool} {Q Q' : Bool → Hp → Prop} (h : tT G W m σ H Q) (q : ∀ v H, Q v H → Q' v H) : tT G W m σ H Q' := by
  obtain ⟨B, U, env, fs, hs, r, k⟩ := h
  exact ⟨B, U, env, fs, hs, r, k.imp fun a s z W' H' y => q _ _ (z W' H' y)⟩
theorem Post.unbnd {α β : Type} {K : β → FS → Prop} {o : Out α} {k : α → FS → Out β} (h : Post G W B env hs σ (fun a s => Post G W B env hs σ K (k a s)) o) : Post G W B env hs σ K (o.bnd k) := by
  cases o with
  | ok a s => exact h
  | exc x s => exact h
  | bad => exact h
/-- an expression's outcome as a test's -/
def tb (m : Ev → FS → Out R) : Ev → FS → Out Bool := fun env s => (m env s).bnd fun x s => need (bl? x) fun k => .ok k s
theorem bl_some {r : R} {k : Bool} (h : bl? r = some k) : r = .fz (.bl k) := by
  unfold bl? at h
  split at h
  · rw [Option.some.inj h]
  · cases h
theorem rep_bl {F : Addr → Prop} {mu : List Addr} {v : V} {k : Bool} (h : Rep G F mu H v (.bl k)) : v = .bl k := by
  cases h
  rfl
theorem tT_val {m : Ev → FS → Out R} {Q : Bool → Hp → Prop} (h : tT G W (tb m) σ H Q) : tE G W m σ H fun x H' => ∃ k, x = .bl k ∧ Q k H' := by
  obtain ⟨B, U, env, fs, hs, r, k⟩ := h
  refine ⟨B, U, env, fs, hs, r, k.bnd.imp fun a s z v W' H' y => ?_⟩
  obtain ⟨c, e, z⟩ := z.need
  have e := bl_some e
  subst e
  exact ⟨c, rep_bl y.top, z W' H' y.drop⟩
/-- a value's outcome, looked at as a bool, and what follows -/
theorem tE_bl {m : Ev → FS → Out R} {k : Bool → FS → Out R} {Q : VK} (h : tE G W (fun env s => (m env s).bnd fun x s => need (bl? x) fun c => k c s) σ H Q) :
    tE G W m σ H fun v H1 => ∃ c, v = .bl c ∧ ∃ B U env fs hs, Rel G B U env fs hs σ H1 ∧ Post G W B env hs σ (KQ G B env hs σ Q) (k c fs) := by
  refine tE_mono (tE_one h) fun v H1 h1 => ?_
  obtain ⟨B, U, env, fs, hs, r, g2, q⟩ := h1
  obtain ⟨c, e, q⟩ := q.need
  have e := bl_some e
  subst e
  exact ⟨c, rep_bl g2.top, B, U, env, fs, hs, g2.drop, q⟩
theorem tE_bt {m : Ev → FS → Out R} {k : Ev → Bool → FS → Out R} {Q : VK} (h : tE G W (fun env s => (m env s).bnd fun x s => need (bl? x) fun c => k env c s) σ H Q) :
    tE G W m σ H fun v H1 => ∃ c, v = .bl c ∧ tE G W (fun env s => k env c s) σ H1 Q := by
  obtain ⟨B, U, env, fs, hs, r, y⟩ := h
  refine ⟨B, U, env, fs, hs, r, y.bnd.imp fun a s z v W' H' y => ?_⟩
  obtain ⟨c, e, z⟩ := z.need
  have e := bl_some e
  subst e
  exact ⟨c, rep_bl y.top, B, W', env, s, hs, y.drop, z⟩
theorem tT_bt {m : Ev → FS → Out R} {k : Ev → Bool → FS → Out R} {Q : VK} (h : tE G W (fun env s => (m env s).bnd fun x s => need (bl? x) fun c => k env c s) σ H Q) :
    tT G W (tb m) σ H fun c H1 => tE G W (fun env s => k env c s) σ H1 Q := by
  obtain ⟨B, U, env, fs, hs, r, y⟩ := h
  exact ⟨B, U, env, fs, hs, r, Post.unbnd (y.bnd.imp fun a s y => by
    obtain ⟨c, e, y⟩ := y.need
    show Post G W B env hs σ _ (need (bl? a) fun c => .ok c s)
    rw [e]
    exact fun W' H' z => ⟨B, W', env, s, hs, z, y⟩)⟩
/-- a test, and what follows as a test -/
theorem tT_bb {m : Ev → FS → Out R} {k : Ev → Bool → FS → Out Bool} {Q : Bool → Hp → Prop} (h : tT G W (fun env s => (m env s).bnd fun x s => need (bl? x) fun c => k env c s) σ H Q) :
    tT G W (tb m) σ H fun c H1 => tT G W (fun env s => k env c s) σ H1 Q := by
  obtain ⟨B, U, env, fs, hs, r, y⟩ := h
  exact ⟨B, U, env, fs, hs, r, Post.unbnd (y.bnd.imp fun a s y => by
    obtain ⟨c, e, y⟩ := y.need
    show Post G W B env hs σ _ (need (bl? a) fun c => .ok c s)
    rw [e]
    exact fun W' H' z => ⟨B, W', env, s, hs, z, y⟩)⟩
theorem tT_ok {c : Bool} {Q : Bool → Hp → Prop} (h : tT G W (fun _ s => .ok c s) σ H Q) : Q c H := by
  obtain ⟨B, U, env, fs, hs, r, y⟩ := h
  exact y U H r
theorem tE_ok {d : D} {v : V} {Q : VK} (h : tE G W (fun _ s => .ok (.fz d) s) σ H Q) (r : ∀ (F : Addr → Prop) mu, Rep G F mu H v d) : Q v H := by
  obtain ⟨B, U, env, fs, hs, g, y⟩ := h
  exact y v U H (g.push (r := .fz d) (r _ _))

section
variable {a b c : Expr} {ea eb ec : E} {q q' : Cmp}
theorem rd_cmp {Q : VK} (h : tE G W (ev P (.cmp q ea eb)) σ H Q) : tOp (r2B G (cmpD q)) (tE G W (ev P ea)) (tE G W (ev P eb)) σ H Q := by
  refine tE_mono (tE_two h) fun v H1 h1 => tE_mono h1 fun w H2 h2 => ?_
  obtain ⟨B, U, env, fs, hs, r, t, g2, y⟩ := h2
  obtain ⟨d, ed, y⟩ := y.need
  obtain ⟨e, ee, y⟩ := y.need
  obtain ⟨k, ek, y⟩ := y.need
  exact ⟨B, U, env, fs, hs, σ, d, e, k, g2.drop.drop, g2.look g2.drop.top ed, g2.look g2.top ee, ek, post_val y g2.drop.drop (.bl k)⟩
theorem sd_cmp (o : XOk G p n g X W) (ha : PE X a (tE G W (ev P ea))) (hb : PE X b (tE G W (ev P eb))) (hs : noSet b = true) : PE X (.Compare a [q.op] [b] pos) (tE G W (ev P (.cmp q ea eb))) :=
  (pe_cmpR (op_cmp o.K o.units q) ha hb (set_marks hs)).imp fun _ _ _ h => rd_cmp h
theorem st_cmp (o : XOk G p n g X W) (ha : PE X a (tE G W (ev P ea))) (hb : PE X b (tE G W (ev P eb))) (hs : noSet b = true) : PT X (.Compare a [q.op] [b] pos) (tT G W (tb (ev P (.cmp q ea eb)))) :=
  (pt_cmpR (op_cmp o.K o.units q) ha hb (set_marks hs)).imp fun _ _ _ h => rd_cmp (tT_val h)
theorem rd_chn {Q : VK} (h : tE G W (ev P (.chn q q' ea eb ec)) σ H Q) : tChain (r2B G (cmpD q)) (r2B G (cmpD q')) (tE G W (ev P ea)) (tE G W (ev P eb)) (tE G W (ev P ec)) σ H Q := by
  obtain ⟨B, U, env, fs, hs, g0, h⟩ := h
  refine ⟨B, U, env, fs, hs, g0, h.bnd.imp fun r s1 h v U1 H1 g1 => ⟨B, U1, env, s1, (v, r) :: hs, g1, ?_⟩⟩
  refine (h.bnd.imp fun t s2 h w U2 H2 g2 => ?_).less fun z hz => List.mem_cons_of_mem _ hz
  obtain ⟨d, ed, y⟩ := h.need
  obtain ⟨e, ee, y⟩ := y.need
  obtain ⟨k, ek, y⟩ := y.need
  refine ⟨B, U2, env, s2, hs, σ, d, e, k, g2.drop.drop, g2.look g2.drop.top ed, g2.look g2.top ee, ek, k, rfl, ?_⟩
  by_cases hk : k = true
  · rw [if_pos hk] at y ⊢
    refine ⟨B, U2, env, s2, (w, t) :: hs, g2.hold ?_, (y.bnd.imp fun u s3 y x U3 H3 g3 => ?_).less fun z hz => List.mem_cons_of_mem _ hz⟩
    · intro z hz
      refine g2.held z ?_
      rcases List.mem_cons.mp hz with e | e
      · exact e ▸ List.mem_cons_self
      · exact List.mem_cons_of_mem _ (List.mem_cons_of_mem _ e)
    obtain ⟨e', ee', y⟩ := y.need
    obtain ⟨f, ef, y⟩ := y.need
    obtain ⟨k', ek', y⟩ := y.need
    exact ⟨B, U3, env, s3, hs, σ, e', f, k', g3.drop.drop, g3.look g3.drop.top ee', g3.look g3.top ef, ek', post_val y g3.drop.drop (.bl k')⟩
  · rw [if_neg hk] at y ⊢
    exact post_val y g2.drop.drop (.bl false)
theorem sd_chn (o : XOk G p n g X W) (ha : PE X a (tE G W (ev P ea))) (hb : PE X b (tE G W (ev P eb))) (hc : PE X c (tE G W (ev P ec))) (hs : noSet c = true) : PE X (.Compare a [q.op, q'.op] [b, c] pos) (tE G W (ev P (.chn q q' ea eb ec))) :=
  (pe_chain (op_cmp o.K o.units q) (op_cmp o.K o.units q') ha hb hc (last_two hs)).imp fun _ _ _ h => rd_chn h
theorem st_chn (o : XOk G p n g X W) (ha : PE X a (tE G W (ev P ea))) (hb : PE X b (tE G W (ev P eb))) (hc : PE X c (tE G W (ev P ec))) (hs : noSet c = true) : PT X (.Compare a [q.op, q'.op] [b, c] pos) (tT G W (tb (ev P (.chn q q' ea eb ec)))) :=
  (pt_chain (op_cmp o.K o.units q) (op_cmp o.K o.units q') ha hb hc (last_two hs)).imp fun _ _ _ h => rd_chn (tT_val h)
end

section
variable {a b c : Expr} {rest : List Expr} {ea eb ec : E}
theorem _root_.L2.PW.imp {C : Cx} {e : Expr} {t t' : TT} (h : PW C e t) (q : ∀ σ H Q, t' σ H Q → t σ H Q) : PW C e t' := ⟨fun wh pins s σ H Q I y => h.run wh pins s σ H Q I (q σ H Q y)⟩
theorem st_val (h : PE X a (tE G W (ev P ea))) (hv : byVal a = true) : PT X a (tT G W (tb (ev P ea))) := (pt_val h (test_val hv)).imp fun _ _ _ h => tT_val h
theorem sd_and (ha : PE X a (tE G W (ev P ea))) (hb : PE X (.BoolOp .And (b :: rest) pos) (tE G W (ev P eb))) : PE X (.BoolOp .And (a :: b :: rest) pos) (tE G W (ev P (.and ea eb))) :=
  (pe_and ha hb).imp fun σ H Q h => tE_mono (tE_bt (k := fun env c s => if c = true then ev P eb env s else .ok (.fz (.bl false)) s) h) fun v H1 ⟨c, e, h1⟩ => ⟨c, e, by
    by_cases hc : c = true
    · simp only [if_pos hc] at h1 ⊢
      exact h1
    · simp only [if_neg hc] at h1 ⊢
      exact tE_ok h1 fun _ _ => .bl false⟩
theorem sd_or (ha : PE X a (tE G W (ev P ea))) (hb : PE X (.BoolOp .Or (b :: rest) pos) (tE G W (ev P eb))) : PE X (.BoolOp .Or (a :: b :: rest) pos) (tE G W (ev P (.or ea eb))) :=
  (pe_or ha hb).imp fun σ H Q h => tE_mono (tE_bt (k := fun env c s => if c = true then .ok (.fz (.bl true)) s else ev P eb env s) h) fun v H1 ⟨c, e, h1⟩ => ⟨c, e, by
    by_cases hc : c = true
    · simp only [if_pos hc] at h1 ⊢
      exact tE_ok h1 fun _ _ => .bl true
    · simp only [if_neg hc] at h1 ⊢
      exact h1⟩
theorem sd_not (ha : PE X a (tE G W (ev P ea))) : PE X (.UnaryOp .Not a pos) (tE G W (ev P (.not ea))) :=
  (pe_not ha).imp fun σ H Q h => tE_mono (tE_bt (k := fun env c s => .ok (.fz (.bl !c)) s) h) fun v H1 ⟨c, e, h1⟩ => ⟨c, e, tE_ok h1 fun _ _ => .bl _⟩
theorem sd_ife (hc : PT X c (tT G W (tb (ev P ec)))) (ha : PE X a (tE G W (ev P ea))) (hb : PE X b (tE G W (ev P eb))) : PE X (.IfExp c a b pos) (tE G W (ev P (.ife ec ea eb))) :=
  (pe_ifExp hc ha hb).imp fun σ H Q h => tT_mono (tT_bt (k := fun env c s => if c = true then ev P ea env s else ev P eb env s) h) fun c H1 h1 => by
    by_cases hc : c = true
    · simp only [if_pos hc] at h1 ⊢
      exact h1
    · simp only [if_neg hc] at h1 ⊢
      exact h1
theorem st_not (ha : PT X a (tT G W (tb (ev P ea)))) : PT X (.UnaryOp .Not a pos) (tT G W (tb (ev P (.not ea)))) :=
  (pt_not ha).imp fun σ H Q h => by
    have h : tT G W (fun env s => (ev P ea env s).bnd fun x s => need (bl? x) fun c => Out.ok (!c) s) σ H Q := by
      obtain ⟨B, U, env, fs, hs, r, y⟩ := h
      refine ⟨B, U, env, fs, hs, r, ?_⟩
      have y : Post G W B env hs σ _ (((ev P ea env fs).bnd fun x s => need (bl? x) fun c => .ok (.fz (.bl !c)) s).bnd fun x s => need (bl? x) fun k => Out.ok k s) := y
      simp only [Out.bnd_bnd, need_bnd] at y
      exact y
    exact tT_mono (tT_bb h) fun c H1 h1 => tT_ok h1
theorem st_and (ha : PT X a (tT G W (tb (ev P ea)))) (hb : PW X (.BoolOp .And (b :: rest) pos) (tT G W (tb (ev P eb)))) : PW X (.BoolOp .And (a :: b :: rest) pos) (tT G W (tb (ev P (.and ea eb)))) :=
  (pw_and ha hb).imp fun σ H Q h => by
    have h : tT G W (fun env s => (ev P ea env s).bnd fun x s => need (bl? x) fun c => if c = true then tb (ev P eb) env s else Out.ok false s) σ H Q := by
      obtain ⟨B, U, env, fs, hs, r, y⟩ := h
      refine ⟨B, U, env, fs, hs, r, ?_⟩
      have y : Post G W B env hs σ _ (((ev P ea env fs).bnd fun x s => need (bl? x) fun c => if c = true then ev P eb env s else .ok (.fz (.bl false)) s).bnd fun x s => need (bl? x) fun k => Out.ok k s) := y
      simp only [Out.bnd_bnd, need_bnd] at y
      have e : (fun (x : R) (s : FS) => need (bl? x) fun c => (if c = true then ev P eb env s else Out.ok (R.fz (D.bl false)) s).bnd fun x s => need (bl? x) fun k => Out.ok k s) = fun x s => need (bl? x) fun c => if c = true then tb (ev P eb) env s else Out.ok false s := by
        funext x s
        congr 1
        funext c
        cases c <;> rfl
      rw [e] at y
      exact y
    exact tT_mono (tT_bb h) fun c H1 h1 => by
      by_cases hc : c = true
      · simp only [if_pos hc] at h1 ⊢
        exact h1
      · simp only [if_neg hc] at h1 ⊢
        exact tT_ok h1
theorem st_or (ha : PT X a (tT G W (tb (ev P ea)))) (hb : PW X (.BoolOp .Or (b :: rest) pos) (tT G W (tb (ev P eb)))) : PW X (.BoolOp .Or (a :: b :: rest) pos) (tT G W (tb (ev P (.or ea eb)))) :=
  (pw_or ha hb).imp fun σ H Q h => by
    have h : tT G W (fun env s => (ev P ea env s).bnd fun x s => need (bl? x) fun c => if c = true then Out.ok true s else tb (ev P eb) env s) σ H Q := by
      obtain ⟨B, U, env, fs, hs, r, y⟩ := h
      refine ⟨B, U, env, fs, hs, r, ?_⟩
      have y : Post G W B env hs σ _ (((ev P ea env fs).bnd fun x s => need (bl? x) fun c => if c = true then .ok (.fz (.bl true)) s else ev P eb env s).bnd fun x s => need (bl? x) fun k => Out.ok k s) := y
      simp only [Out.bnd_bnd, need_bnd] at y
      have e : (fun (x : R) (s : FS) => need (bl? x) fun c => (if c = true then Out.ok (R.fz (D.bl true)) s else ev P eb env s).bnd fun x s => need (bl? x) fun k => Out.ok k s) = fun x s => need (bl? x) fun c => if c = true then Out.ok true s else tb (ev P eb) env s := by
        funext x s
        congr 1
        funext c
        cases c <;> rfl
      rw [e] at y
      exact y
    exact tT_mono (tT_bb h) fun c H1 h1 => by
      by_cases hc : c = true
      · simp only [if_pos hc] at h1 ⊢
        exact tT_ok h1
      · simp only [if_neg hc] at h1 ⊢
        exact h1
theorem st_wh {e : Expr} {t : TT} (h : PW X e t) : PT X e t := ⟨fun pins s σ H Q I y => h.run _ pins s σ H Q I y⟩
theorem un_negD : UnR X (unaryOp .USub) (fun x H Q => ∃ i, x = .int i ∧ Q (.int (-i)) H) := un_neg
theorem sd_neg (ha : PE X a (tE G W (ev P ea))) : PE X (.UnaryOp .USub a pos) (tE G W (ev P (.neg ea))) :=
  (pe_un un_neg ha).imp fun σ H Q h => tE_mono (tE_one h) fun v H1 h1 => by
    obtain ⟨B, U, env, fs, hs, r, g2, y⟩ := h1
    cases r with
    | own k => exact False.elim y
    | fz d =>
      cases d with
      | int i =>
        have z : Rep G U.F U.mu H1 v (.int i) := g2.top
        cases z
        exact ⟨i, rfl, post_val y g2.drop (.int _)⟩
      | _ => exact False.elim y
end
end
end Wv
namespace Wv
open PySem L2
section
variable {G : Cfg} {p : Pg} {n : Nat} {g : Bool} {X : Cx} {W : WX} {B : Bs} {U : Wd} {env : Ev} {fs : FS} {hs : List (V × R)} {σ : St} {H : Hp} {P : Prm} {pos : Pos} {pins : List (Addr × Obj)} {s : Shared}

theorem sa_nil (P : Prm) : PA X [] (tA G W (evs P .nil)) := pa_nil.imp fun σ H Q h => by
  obtain ⟨B, U, env, fs, hs, r, y⟩ := h
  exact y [] U H r rfl
theorem sa_cons {e : Expr} {es : List Expr} {ee er : E} (ha : PE X e (tE G W (ev P ee))) (hr : PA X es (tA G W (evs P er))) (hs : noStar e = true) : PA X (e :: es) (tA G W (evs P (.cons ee er))) :=
  (pa_cons ha hr (star_no hs)).imp fun σ H Q h => by
    obtain ⟨B, U, env, fs, hs, r, y⟩ := h
    have y : Post G W B env hs σ _ ((ev P ee env fs).bnd fun x s => (evs P er env s).bnd fun xs s => .ok (x :: xs) s) := y
    refine ⟨B, U, env, fs, hs, r, y.bnd.imp fun a s1 y v U1 H1 g1 => ⟨B, U1, env, s1, (v, a) :: hs, g1, ?_⟩⟩
    refine (y.bnd.imp fun as s2 y vs U2 H2 g2 hl => ?_).less fun z hz => List.mem_cons_of_mem _ hz
    refine y (v :: vs) U2 H2 (g2.hold fun q hq => g2.held q ?_) (congrArg (· + 1) hl)
    rw [List.zip_cons_cons] at hq
    rcases List.mem_cons.mp hq with e | e
    · exact e ▸ List.mem_append_right _ List.mem_cons_self
    · rcases List.mem_append.mp e with e | e
      · exact List.mem_append_left _ e
      · exact List.mem_append_right _ (List.mem_cons_of_mem _ e)
theorem seq_of (hK : X.K = G.K) {v : V} {d : D} {ds : List D} (h : RepB G U H v d) (e : itvD d = some ds) : ∃ a vs, v = .ref a ∧ (SqT X.K H a vs ∨ SqL X.K H a vs) ∧ Reps G U.F U.mu H vs ds := by
  unfold itvD at e
  split at e
  · obtain ⟨a, vs, e1, f, e2, r⟩ := h.tup
    cases e
    exact ⟨a, vs, e1, .inl (.of e2), r⟩
  · obtain ⟨a, vs, e1, e2, r⟩ := h.lst
    cases e
    exact ⟨a, vs, e1, .inr (.of e2), r⟩
  · cases e
theorem sa_star (o : XOk G p n g X W) {e : Expr} {es : List Expr} {ee er : E} {q : Pos} (ha : PE X e (tE G W (ev P ee))) (hr : PA X es (tA G W (evs P er))) : PA X (.Starred e q :: es) (tA G W (evs P (.sta ee er))) :=
  (StX.pa_star ha hr).imp fun σ H Q h => by
    obtain ⟨B, U, env, fs, hs, r, y⟩ := h
    have y : Post G W B env hs σ _ ((ev P ee env fs).bnd fun x s => need (dv s x) fun d => need (itvD d) fun ds => (evs P er env s).bnd fun xs s => .ok (ds.map R.fz ++ xs) s) := y
    refine ⟨B, U, env, fs, hs, r, y.bnd.imp fun a s1 y v U1 H1 g1 => ?_⟩
    obtain ⟨d, ed, y⟩ := y.need
    obtain ⟨ds, ei, y⟩ := y.need
    obtain ⟨b, vs, e1, e2, rr⟩ := seq_of o.K (g1.look g1.top ed) ei
    refine ⟨b, vs, e1, e2, B, U1, env, s1, vs.zip (ds.map R.fz) ++ hs, g1.drop.holdAll (.of rr), ?_⟩
    refine (y.bnd.imp fun as s2 y ws U2 H2 g2 hl => ?_).less fun z hz => List.mem_append_right _ hz
    have hl2 : vs.length = (ds.map R.fz).length := by rw [List.length_map]; exact rr.length
    refine y (vs ++ ws) U2 H2 (g2.hold fun q hq => g2.held q ?_) (by rw [List.length_append, List.length_append, hl2, hl])
    rw [List.zip_append hl2] at hq
    simp only [List.mem_append] at hq ⊢
    rcases hq with (e | e) | e
    · exact .inr (.inl e)
    · exact .inl e
    · exact .inr (.inr e)
/-- the arguments have come -/
def KA (G : Cfg) (W : WX) (σ : St) (k : Ev → List R → FS → Out R) (vs : List V) (H : Hp) (Q : VK) : Prop :=
  ∃ B U env fs hs rs, Rel G B U env fs hs σ H ∧ RepRs G U H vs rs ∧ Post G W B env hs σ (KQ G B env hs σ Q) (k env rs fs)
theorem tA_of {es : E} {k : Ev → List R → FS → Out R} {Q : VK} (h : tE G W (fun env s => (evs P es env s).bnd fun rs s => k env rs s) σ H Q) : tA G W (evs P es) σ H fun vs H1 => KA G W σ k vs H1 Q := by
  obtain ⟨B, U, env, fs, hs, r, y⟩ := h
  exact ⟨B, U, env, fs, hs, r, y.bnd.imp fun rs s1 y vs U1 H1 g1 hl => ⟨B, U1, env, s1, hs, rs, g1.dropN, g1.heldAll hl, y⟩⟩
theorem tA_mono {es : E} {Q Q' : List V → Hp → Prop} (h : tA G W (evs P es) σ H Q) (q : ∀ v H, Q v H → Q' v H) : tA G W (evs P es) σ H Q' := by
  obtain ⟨B, U, env, fs, hs, r, k⟩ := h
  exact ⟨B, U, env, fs, hs, r, k.imp fun a s z v W' H' y e => q _ _ (z v W' H' y e)⟩
/-- .. handed on -/
theorem KA.fz {k : List D → FS → Out R} {vs : List V} {Q : VK} (h : KA G W σ (fun _ rs s => need (fzs s rs) fun p => k p.1 p.2) vs H Q) :
    ∃ B U env fs hs ds, Rel G B U env fs hs σ H ∧ Reps G U.F U.mu H vs ds ∧ Post G W B env hs σ (KQ G B env hs σ Q) (k ds fs) := by
  obtain ⟨B, U, env, fs, hs, rs, g1, r, y⟩ := h
  obtain ⟨⟨ds, s2⟩, e, y⟩ := y.need
  obtain ⟨U2, g2, r2, _⟩ := g1.fzAll r e
  exact ⟨B, U2, env, s2, hs, ds, g2, r2, y⟩
theorem ite_post {α : Type} {K : α → FS → Prop} {c : Prop} [Decidable c] {o : Out α} (h : Post G W B env hs σ K (if c then o else .bad)) : c ∧ Post G W B env hs σ K o := by
  by_cases hc : c
  · rw [if_pos hc] at h
    exact ⟨hc, h⟩
  · rw [if_neg hc] at h
    exact h.elim
section
variable {es : List Expr} {ees : E}
theorem sd_tup {k : Nat} (h : PA X es (tA G W (evs P ees))) : PE X (.Tuple es k pos) (tE G W (ev P (.tup ees))) :=
  (pe_tup h).imp fun σ H Q h => tA_mono (tA_of (k := fun _ rs s => need (fzs s rs) fun p => if p.1.length ≤ sizeLine then .ok (.fz (.tup p.1)) p.2 else .bad) h) fun vs H1 h1 => by
    obtain ⟨B, U, env, fs, hs, ds, g1, r1, y⟩ := KA.fz (k := fun ds s => if ds.length ≤ sizeLine then .ok (.fz (.tup ds)) s else .bad) h1
    obtain ⟨hl, y⟩ := ite_post y
    exact ⟨by rw [r1.length]; exact hl, fun q hq => RsP.tup (post_rs (r := .t (.tup ds)) y) g1 r1 hq⟩
theorem sd_lst (h : PA X es (tA G W (evs P ees))) : PE X (.List es pos) (tE G W (ev P (.lst ees))) :=
  (pe_lst h).imp fun σ H Q h => tA_mono (tA_of (k := fun _ rs s => need (fzs s rs) fun p => if p.1.length ≤ sizeLine then (Rs.l p.1).out p.2 else .bad) h) fun vs H1 h1 => by
    obtain ⟨B, U, env, fs, hs, ds, g1, r1, y⟩ := KA.fz (k := fun ds s => if ds.length ≤ sizeLine then (Rs.l ds).out s else .bad) h1
    obtain ⟨hl, y⟩ := ite_post y
    exact ⟨by rw [r1.length]; exact hl, fun q hq => RsP.lst (post_rs (r := .l ds) y) g1 r1 hq⟩
theorem sd_lsc (h : PA X es (tA G W (evs P ees))) : PE X (.List es pos) (tE G W (ev P (.lsc ees))) :=
  (pe_lst h).imp fun σ H Q h => tA_mono (tA_of (k := fun _ rs s => need (fzs s rs) fun p => if p.1.length ≤ sizeLine then .ok (.fz (.cel p.2.st.length)) ⟨p.2.ol, p.2.st ++ [Cl.lst p.1]⟩ else .bad) h) fun vs H1 h1 => by
    obtain ⟨B, U, env, fs, hs, ds, g1, r1, y⟩ := KA.fz (k := fun ds s => if ds.length ≤ sizeLine then .ok (.fz (.cel s.st.length)) ⟨s.ol, s.st ++ [Cl.lst ds]⟩ else .bad) h1
    obtain ⟨hl, y⟩ := ite_post y
    refine ⟨by rw [r1.length]; exact hl, fun q hq => ?_⟩
    obtain ⟨U2, g2⟩ := g1.cellNew (c := .lst ds) (o := .lst vs) hq fun H' e m => ⟨vs, e, r1.imp m⟩
    exact y _ _ _ g2
end

section
variable {a b : Expr} {ea eb : E}
/-- .. of a cell, too -/
def r2J (G : Cfg) : R2 := fun x y H Q => r2I G x y H Q ∨ ∃ l xs i w, x = .ref l ∧ y = .int i ∧ SqL G.K H l xs ∧ atI xs i = some w ∧ Q w H
theorem ix_all (hK : X.K = G.K) : IxR X (r2J G) := by
  intro value slice pins s σ H x y v u Q I rx ry h hs
  rcases h with h | ⟨l, xs, i, w, e1, e2, h1, h2, q⟩
  · exact ix_any hK value slice pins s σ H x y v u Q I rx ry h hs
  · exact ix_list value slice pins s σ H x y v u Q I rx ry ⟨l, xs, i, w, e1, e2, hK ▸ h1, h2, q⟩ hs
theorem sd_idx (o : XOk G p n g X W) (ha : PE X a (tE G W (ev P ea))) (hb : PE X b (tE G W (ev P eb))) (hs : noSlice b = true) : PE X (.Subscript a b pos) (tE G W (ev P (.idx ea eb))) :=
  (pe_ix (ix_all o.K) ha hb (slice_no hs)).imp fun σ H Q h => tE_mono (tE_two h) fun v H1 h1 => tE_mono h1 fun w H2 h2 => by
    obtain ⟨B, U, env, fs, hs, r, t, g2, y⟩ := h2
    obtain ⟨d, ed, y⟩ := y.need
    obtain ⟨e, ee, y⟩ := y.need
    have b1 : RepB G U H2 v d := g2.look g2.drop.top ed
    have b2 : RepB G U H2 w e := g2.look g2.top ee
    have ord : Post G W B env hs σ (KQ G B env hs σ Q) (need (idxD d e) fun r => .ok (.fz r) fs) → r2J G v w H2 Q := fun y => by
      obtain ⟨z, ez, y⟩ := y.need
      exact .inl ⟨U, d, e, z, b1, b2, ez, fun v r => post_val y g2.drop.drop r⟩
    cases d with
    | cel n =>
      obtain ⟨l, e1, e2⟩ := b1.cel
      obtain ⟨c, e3, e4⟩ := g2.cellAt e2
      have y : Post G W B env hs σ (KQ G B env hs σ Q) (match (generalizing := false) fs.st[n]?, e with
        | some (.lst xs), .int i => need (atI xs i) fun r => .ok (.fz r) fs
        | _, _ => .bad) := y
      rw [e3] at y
      cases c with
      | ins c f q => exact False.elim y
      | dic kvs => exact False.elim y
      | lst xs =>
        cases e with
        | int i =>
          obtain ⟨z, ez, y⟩ := Post.need y
          obtain ⟨vs, e5, r5⟩ := e4
          obtain ⟨u, h6, r6⟩ := at_reps r5 ez
          exact .inr ⟨l, vs, i, u, e1, b2.int, .of e5, h6, post_val y g2.drop.drop r6⟩
        | _ => exact False.elim y
    | _ => exact ord y
theorem so_nil (P : Prm) : PO X none (tP G W (evP P .nil)) := ⟨fun pins s σ H Q I h => by
    obtain ⟨B, U, env, fs, hs, r, y⟩ := h
    exact po_none.run pins s σ H Q I (y U H r)⟩
theorem so_one (ha : PE X a (tE G W (ev P ea))) : PO X (some a) (tP G W (evP P (.cons ea .nil))) := ⟨fun pins s σ H Q I h => (po_some ha).run pins s σ H Q I (by
    obtain ⟨B, U, env, fs, hs, r, y⟩ := h
    have y : Post G W B env hs σ _ ((ev P ea env fs).bnd fun x s => match x with
      | .fz (.int i) => .ok (some i) s
      | _ => .bad) := y
    refine ⟨B, U, env, fs, hs, r, y.bnd.imp fun a s1 y v U1 H1 g1 => ?_⟩
    cases a with
    | own k => exact False.elim y
    | fz d =>
      cases d with
      | int i =>
        have z : Rep G U1.F U1.mu H1 v (.int i) := g1.top
        cases z
        exact ⟨i, rfl, y U1 H1 g1.drop⟩
      | _ => exact False.elim y)⟩
theorem sd_slc (o : XOk G p n g X W) {lo hi : Option Expr} {el eh : E} {q : Pos} (ha : PE X a (tE G W (ev P ea))) (hl : PO X lo (tP G W (evP P el))) (hh : PO X hi (tP G W (evP P eh))) :
    PE X (.Subscript a (.Slice lo hi none q) pos) (tE G W (ev P (.slc ea el eh))) :=
  (pe_slice (sl_any o.K) ha hl hh).imp fun σ H Q h => by
    obtain ⟨B, U, env, fs, hs, r, y⟩ := h
    refine ⟨B, U, env, fs, hs, r, y.bnd.imp fun a s1 y v U1 H1 g1 => ⟨B, U1, env, s1, (v, a) :: hs, g1, ?_⟩⟩
    refine (y.bnd.imp fun l s2 y U2 H2 g2 => ⟨B, U2, env, s2, (v, a) :: hs, g2, ?_⟩).less fun z hz => List.mem_cons_of_mem _ hz
    refine (y.bnd.imp fun h s3 y U3 H3 g3 => ?_).less fun z hz => List.mem_cons_of_mem _ hz
    obtain ⟨d, ed, y⟩ := y.need
    obtain ⟨z, ez, y⟩ := y.need
    exact ⟨B, U3, env, s3, hs, σ, d, z, g3.drop, g3.look g3.top ed, ez, post_rs y⟩
end
end
end Wv
namespace Wv
open PySem L2
section
variable {G : Cfg} {p : Pg} {n : Nat} {g : Bool} {X : Cx} {W : WX} {B : Bs} {U : Wd} {env : Ev} {fs : FS} {hs : List (V × R)} {σ : St} {H : Hp} {pos : Pos} {pins : List (Addr × Obj)} {s : Shared}

theorem fld_at (nd : G.nms.Nodup) {x : Nat} (hx : x < G.nms.length) {F : Addr → Prop} {mu : List Addr} {d : D} : ∀ {ws : List (Str × V)} {ks : List Nat} {vs : List D}, G.Nm ws ks → Reps G F mu H (ws.map (·.2)) vs → (ks.zip vs).lookup x = some d →
    ∃ v, ws.lookup (G.nm x) = some v ∧ Rep G F mu H v d
  | [], [], _, _, _, e => by cases e
  | [], _ :: _, _, k, _, _ => by cases k.1
  | _ :: _, [], _, k, _, _ => by cases k.1
  | (y, w) :: ws, j :: ks, [], _, r, _ => by cases r
  | (y, w) :: ws, j :: ks, d' :: vs, k, r, e => by
    have r : Reps G F mu H (w :: ws.map (·.2)) (d' :: vs) := r
    cases r with
    | cons r1 r2 =>
      obtain ⟨k1, k2⟩ := k
      have k1 : y :: ws.map (·.1) = G.nm j :: ks.map G.nm := k1
      obtain ⟨k3, k4⟩ := List.cons.inj k1
      rw [List.zip_cons_cons, List.lookup_cons] at e
      rw [List.lookup_cons]
      by_cases q : x = j
      · subst q
        rw [show (x == x) = true from beq_self_eq_true x] at e
        rw [k3, show (G.nm x == G.nm x) = true from beq_self_eq_true _]
        cases e
        exact ⟨w, rfl, r1⟩
      · rw [show (x == j) = false from beq_false_of_ne q] at e
        rw [k3, show (G.nm x == G.nm j) = false from beq_false_of_ne fun z => q (nm_inj nd hx (k2 j List.mem_cons_self) z)]
        exact fld_at nd hx ⟨k4, fun i hi => k2 i (List.mem_cons_of_mem _ hi)⟩ r2 e
theorem fld_no (nd : G.nms.Nodup) {x : Nat} (hx : x < G.nms.length) : ∀ {ws : List (Str × V)} {ks : List Nat}, G.Nm ws ks → ks.contains x = false → ws.lookup (G.nm x) = none
  | [], _, _, _ => rfl
  | _ :: _, [], k, _ => by cases k.1
  | (y, w) :: ws, j :: ks, k, e => by
    obtain ⟨k1, k2⟩ := k
    have k1 : y :: ws.map (·.1) = G.nm j :: ks.map G.nm := k1
    obtain ⟨k3, k4⟩ := List.cons.inj k1
    rw [List.contains_cons, Bool.or_eq_false_iff] at e
    rw [List.lookup_cons, k3, show (G.nm x == G.nm j) = false from beq_false_of_ne fun z => by
      have q := nm_inj nd hx (k2 j List.mem_cons_self) z
      rw [q, beq_self_eq_true] at e
      exact Bool.noConfusion e.1]
    exact fld_no nd hx ⟨k4, fun i hi => k2 i (List.mem_cons_of_mem _ hi)⟩ e.2

section
variable {es : List Expr} {ees : E}
theorem h0_of {k : Ev → List R → FS → Out R} {P : Prm} {Q : VK} (h0 : es = [] → ees = .nil) (h : tA G W (evs P ees) σ H fun vs H1 => KA G W σ k vs H1 Q) : es = [] → KA G W σ k [] H Q := fun e => by
  rw [h0 e] at h
  obtain ⟨B, U, env, fs, hs, r, y⟩ := h
  exact y [] U H r rfl
theorem sd_cal (o : XOk G p n g X W) {i : Nat} {f : Fn} {x : Str} {q : Pos} (hf : p.fns[i]? = some f) (hp : f.pl = (x, none)) (hg : Gl X x) (hd : (x == ("__debug__" : Str)) = false) (ha : PA X es (tA G W (evs (prm p g n) ees))) (h0 : es = [] → ees = .nil)
    (hl : headNo es = true) : PE X (.Call (.Name x q) es [] pos) (tE G W (ev (prm p g n) (.cal i ees))) := by
  have hm : X.mg x = some (.ref (G.fa i)) := by
    rw [o.mg, ← o.pg.fn i f hf (by rw [hp]), hp]
  refine ⟨fun pins s σ H Q I h => ?_⟩
  have h2 := tA_of (k := fun _ rs s => need (fzs s rs) fun z => ((prm p g n).call i z.1 z.2.st).out z.2.ol) h
  refine wpAny_Call_Name_kw (ld_glob I hg hm ?_ hd)
  refine callAny (first := []) I ha (by rw [o.K]; exact o.pg.kp i f hf) h2 (h0_of h0 h2) hl fun us s1 vs H1 I1 rv q1 => ?_
  obtain ⟨B, U, env, fs, hs, ds, g1, r1, y⟩ := KA.fz (k := fun ds s => ((prm p g n).call i ds s.st).out s.ol) q1
  exact call_ds o hf I1 rv g1 r1 y
theorem sd_calS (o : XOk G p n g X W) {i : Nat} {f : Fn} {x : Str} {q sp : Pos} {a : Expr} {ea : E} (hf : p.fns[i]? = some f) (hp : f.pl = (x, none)) (hg : Gl X x) (hd : (x == ("__debug__" : Str)) = false) (ha : PE X a (tE G W (ev (prm p g n) ea))) :
    PE X (.Call (.Name x q) [.Starred a sp] [] pos) (tE G W (ev (prm p g n) (.cal i (.sta ea .nil)))) := by
  have hm : X.mg x = some (.ref (G.fa i)) := by
    rw [o.mg, ← o.pg.fn i f hf (by rw [hp]), hp]
  refine ⟨fun pins s σ H Q I h => ?_⟩
  have h : tE G W (fun env s => ((ev (prm p g n) ea env s).bnd fun x s => need (dv s x) fun d => need (itvD d) fun ds => Out.ok (ds.map R.fz ++ []) s).bnd fun rs s => need (fzs s rs) fun z => ((prm p g n).call i z.1 z.2.st).out z.2.ol) σ H Q := h
  refine wpAny_Call_Name_kw (ld_glob I hg hm ?_ hd)
  refine callStar (first := []) (K := fun vs H1 => KA G W σ (fun _ rs s => need (fzs s rs) fun z => ((prm p g n).call i z.1 z.2.st).out z.2.ol) vs H1 Q) I ha (by rw [o.K]; exact o.pg.kp i f hf) ?_ fun us s1 vs H1 I1 rv q1 => ?_
  · obtain ⟨B, U, env, fs, hs, r, y⟩ := h
    refine ⟨B, U, env, fs, hs, r, y.bnd.bnd.imp fun a s1 y v U1 H1 g1 => ?_⟩
    obtain ⟨d, ed, y⟩ := y.need
    obtain ⟨ds, ei, y⟩ := y.need
    obtain ⟨b, vs, e1, e2, rr⟩ := seq_of o.K (g1.look g1.top ed) ei
    exact ⟨b, vs, e1, e2, B, U1, env, s1, hs, _, g1.drop, (by rw [List.append_nil]; exact .of rr), y⟩
  · obtain ⟨B, U, env, fs, hs, ds, g1, r1, y⟩ := KA.fz (k := fun ds s => ((prm p g n).call i ds s.st).out s.ol) q1
    exact call_ds o hf I1 rv g1 r1 y
theorem sd_new (o : XOk G p n g X W) {c : Nat} {k : Cla} {x : Str} {q : Pos} (hk : p.cls[c]? = some k) (hp : k.nm = x) (hg : Gl X x) (hd : (x == ("__debug__" : Str)) = false) (ha : PA X es (tA G W (evs (prm p g n) ees))) (h0 : es = [] → ees = .nil)
    (hl : headNo es = true) : PE X (.Call (.Name x q) es [] pos) (tE G W (ev (prm p g n) (.new c ees))) := by
  have C := o.pg.cls c k hk
  have hm : X.mg x = some (.ref (G.ca c)) := by
    rw [o.mg, ← C.glob, hp]
  refine ⟨fun pins s σ H Q I h => ?_⟩
  have h2 := tA_of (k := fun _ rs s => need (fzs s rs) fun z => ((prm p g n).make c z.1 z.2.st).out z.2.ol) h
  refine wpAny_Call_Name_kw (ld_glob I hg hm ?_ hd)
  refine callAny (first := []) I ha (by rw [o.K]; exact C.make.kp) h2 (h0_of h0 h2) hl fun us s1 vs H1 I1 rv q1 => ?_
  obtain ⟨B, U, env, fs, hs, ds, g1, r1, y⟩ := KA.fz (k := fun ds s => ((prm p g n).make c ds s.st).out s.ol) q1
  exact make_ds o hk I1 rv g1 r1 y
theorem methOf_some {c m f : Nat} (h : (prm p g n).methOf c m = some f) : ∃ k, p.cls[c]? = some k ∧ k.meth.lookup m = some f := by
  unfold Prm.methOf at h
  have e : (prm p g n).cs = p.cls := by cases n <;> rfl
  rw [e] at h
  cases z : p.cls[c]? with
  | none =>
    rw [z] at h
    cases h
  | some k =>
    rw [z] at h
    exact ⟨k, rfl, h⟩
theorem propOf_some {c m f : Nat} (h : (prm p g n).propOf c m = some f) : ∃ k, p.cls[c]? = some k ∧ k.prop.lookup m = some f := by
  unfold Prm.propOf at h
  have e : (prm p g n).cs = p.cls := by cases n <;> rfl
  rw [e] at h
  cases z : p.cls[c]? with
  | none =>
    rw [z] at h
    cases h
  | some k =>
    rw [z] at h
    exact ⟨k, rfl, h⟩
theorem fldOk_some {c x : Nat} (h : (prm p g n).fldOk c x = true) : ∃ k, p.cls[c]? = some k ∧ x ∈ k.flds := by
  unfold Prm.fldOk at h
  have e : (prm p g n).cs = p.cls := by cases n <;> rfl
  rw [e] at h
  cases z : p.cls[c]? with
  | none =>
    rw [z] at h
    cases h
  | some k =>
    rw [z] at h
    exact ⟨k, rfl, List.contains_iff_mem.mp h⟩
/-- a def that the program does not have does nothing that is told -/
theorem call_none {i : Nat} {ds : List D} {st : List Cl} (h : p.fns[i]? = none) : (prm p g n).call i ds st = .bad := by
  cases n with
  | zero => rfl
  | succ n =>
    show (match p.fns[i]? with
      | some f => runF (prm p g n) f ds st
      | none => .bad) = Oc.bad
    rw [h]
theorem call_has {i : Nat} {ds : List D} {st : List Cl} {ol : List (Bool × Cl)} {K : R → FS → Prop} (h : Post G W B env hs σ K (((prm p g n).call i ds st).out ol)) : ∃ f, p.fns[i]? = some f := by
  cases z : p.fns[i]? with
  | some f => exact ⟨f, rfl⟩
  | none =>
    rw [call_none z] at h
    exact h.elim
theorem sd_met (o : XOk G p n g X W) {ob : Expr} {eo : E} {m : Nat} {x : Str} {q : Pos} (he : G.nm m = x) (ho : PE X ob (tE G W (ev (prm p g n) eo))) (ha : PA X es (tA G W (evs (prm p g n) ees))) (h0 : es = [] → ees = .nil)
    (hl : headNo es = true) {pl : Sem Bool} (ht : eval (.Call (.Attribute ob x q) es [] pos) X.env = (do
      let ov ← eval ob X.env
      standAt q.atName
      let (f, first) ← holding [ov] (getMethod ov x pl)
      callWith pos f first (backTo pos (starEach es X.env)) (backToKw pos (keywordEach [] X.env)))) : PE X (.Call (.Attribute ob x q) es [] pos) (tE G W (ev (prm p g n) (.met eo m ees))) := by
  refine ⟨fun pins s σ H Q I h => ?_⟩
  obtain ⟨B, U, env, fs, hs, r, y⟩ := h
  refine PySem.W.methodCall_KW (pl := pl) (thn (ho.run pins s σ H (fun v H1 => ∃ a U1 s2 d c ks vs f, v = .ref a ∧ Rel G B U1 env s2 ((v, .fz d) :: hs) σ H1 ∧ clsOf d s2.st = some (c, ks, vs) ∧ (prm p g n).fnOf (c, ks, vs) m = some f ∧
    Post G W B env hs σ (KQ G B env hs σ Q) ((evs (prm p g n) ees env s2).bnd fun rs s => need (fzs s rs) fun z => ((prm p g n).call f (d :: z.1) z.2.st).out z.2.ol)) I ?_) fun u s1 hh => ?_) ht
  · refine ⟨B, U, env, fs, hs, r, y.bnd.imp fun t s1 y v U1 H1 g1 => ?_⟩
    obtain ⟨⟨d, s2⟩, ez, y⟩ := y.need
    obtain ⟨⟨c, ks, vs⟩, ec, y⟩ := y.need
    obtain ⟨f, ef, y⟩ := y.need
    obtain ⟨U2, g2, r2, _⟩ := g1.fz g1.top ez
    obtain ⟨a, dx, ws, e1, _⟩ := cls_at g2 (.inl r2) ec
    exact ⟨a, U2, s2, d, c, ks, vs, f, e1, g2.drop.push (r := .fz d) r2, ec, ef, y⟩
  · obtain ⟨v, H1, I1, rv1, a, U1, s2, d, c, ks, vs, f, e1, g1, ec, ef, y⟩ := hh
    subst e1
    obtain rfl : u = Value.ref a := rv1
    obtain ⟨a', dx, ws, e1, e2, k, rr⟩ := cls_at g1 (.inl g1.top) ec
    cases e1
    unfold Prm.fnOf at ef
    split at ef
    · cases ef
    rename_i hno
    obtain ⟨kc, hk, hm⟩ := methOf_some ef
    have C := o.pg.cls c kc hk
    obtain ⟨M, hx⟩ := C.meth m f hm
    rw [he] at M
    have l := fld_no (by rw [o.pg.nms]; exact o.pg.nnd) hx k (by simpa using hno)
    rw [he] at l
    rw [← o.K] at M
    refine getmeth_ok I1 e2 (o.K ▸ C.cls) M l ?_
    have h2 : tA G W (evs (prm p g n) ees) σ H1 fun ws H2 => ∃ B U env fs hs ds, Rel G B U env fs hs σ H2 ∧ Reps G U.F U.mu H2 (.ref a :: ws) (d :: ds) ∧ Post G W B env hs σ (KQ G B env hs σ Q) (((prm p g n).call f (d :: ds) fs.st).out fs.ol) := by
      refine ⟨B, U1, env, s2, (.ref a, .fz d) :: hs, g1, (y.bnd.imp fun rs s3 y ws U3 H3 g3 hl => ?_).less fun z hz => List.mem_cons_of_mem _ hz⟩
      obtain ⟨⟨ds, s4⟩, ez, y⟩ := y.need
      have q0 := g3.dropN.top
      obtain ⟨U4, g4, r4, m4⟩ := g3.dropN.fzAll (g3.heldAll hl) ez
      exact ⟨B, U4, env, s4, hs, ds, g4.drop, .cons (m4 _ (.fz d) q0) r4, y⟩
    refine callAny (first := [.ref a]) I1 ha M.kp h2 (fun e => ?_) hl fun us s3 ws H3 I3 rv q3 => ?_
    · rw [h0 e] at h2
      obtain ⟨B, U, env, fs, hs, r, y⟩ := h2
      exact y [] U H1 r rfl
    · obtain ⟨B, U, env, fs, hs, ds, g5, r5, y⟩ := q3
      obtain ⟨fn, hf⟩ := call_has y
      exact call_ds (us := .ref a :: us) (vs := .ref a :: ws) o hf I3 (.cons rfl rv) g5 r5 y
end

theorem prop_ok (o : XOk G p n g X W) (I : Inv X pins σ H s) {a dx C q : Addr} {ws : List (Str × V)} {f : Nat} {fn : Fn} {x : Str} {b : Bool} {d : D} {Q : VK} (hf : p.fns[f]? = some fn) (ea : H a = some (.ins C dx ws)) (c : Cls X.K C) (hp : PropOf X.K C x q (G.fa f))
    (h : Rel G B U env fs hs σ H) (r : Rep G U.F U.mu H (.ref a) d) (y : Post G W B env hs σ (KQ G B env hs σ Q) (((prm p g n).call f [d] fs.st).nox.out fs.ol)) :
    wpAny (model X.prog X.w) X.A (getAttr (.ref a) x b) (EP X pins σ Q) X.xe s := by
  obtain ⟨mA, O, _, _, _, _⟩ := ins_get I.hok ea
  obtain ⟨od, J, _⟩ := O.look
  obtain ⟨rest, hrec⟩ := hp.rec_
  have I1 : Inv X pins σ H { s with toks := s.toks + 1 } := I.tok (s.toks + 1)
  have hr : Room (4 * n) X.A.in1 := (o.room.mono (show 4 * n + 1 ≤ 4 * n + 3 by omega)).in1
  refine PySem.W.get_bind I.kIn J (PySem.W.plainGet_of (c.get x)).1 (PySem.W.findObj_data ?_ hp.at_ hp.get hp.tak) (PySem.W.plainGet_of (c.get x)).2 (wpAny_call (PySem.W.prop_get (s := { s with toks := s.toks + 1 }) I.kIn hrec ?_))
  · obtain ⟨cd, hc, _⟩ := PySem.W.any_some c.hd
    rw [hc]
    rfl
  have y2 : OcP G ⟨H, U.F, U.mu⟩ Q (fun _ _ _ => False) ((prm p g n).call f [d] fs.st) := by
    have y3 := ocp_of (o := ((prm p g n).call f [d] fs.st).nox) h y
    cases z : (prm p g n).call f [d] fs.st with
    | bad =>
      rw [z] at y3
      exact y3
    | exc x st =>
      rw [z] at y3
      exact False.elim y3
    | ok r st =>
      rw [z] at y3
      cases r <;> exact y3
  refine codeAny_mono (o.fn f fn hf X.A.in1 X.stack _ H [.ref a] [.ref a] Q (fun _ _ _ => False) hr o.gd (env0_at I1 rfl) (.cons rfl .nil) ⟨U.F, U.mu, [d], fs.st, h.enter, .cons r .nil, y2⟩) fun z s' hq => ?_
  cases z with
  | error er =>
    obtain ⟨_, _, _, _, _, _, _, _, _, _, _, _, _, _, _, _, w⟩ := XE.of_call (W := fun _ _ _ _ => False) I1 (fun _ _ _ z => z) hq
    exact False.elim w
  | ok fl =>
    cases fl with
    | ret u =>
      obtain ⟨v, H', I3, rv, q3⟩ := I1.after hq
      show wpAny _ _ (handedOut u) _ _ _
      rw [PySem.W.handedOut_of (handed_of rv)]
      exact wpAny_pure ⟨v, H', I3, rv, q3⟩
    | next => exact False.elim hq
    | brk => exact False.elim hq
    | cont => exact False.elim hq
theorem sd_fld (o : XOk G p n g X W) {e : Expr} {ee : E} {x : Str} {m : Nat} (he : G.nm m = x) (h1 : PE X e (tE G W (ev (prm p g n) ee))) (hc : noCall e = true) : PE X (.Attribute e x pos) (tE G W (ev (prm p g n) (.fld ee m))) := by
  refine ⟨fun pins s σ H Q I h => ?_⟩
  refine attr_of (call_no hc) (thn (h1.run pins s σ H _ I (tE_one h)) fun u s1 ⟨v, H1, I1, rv1, B, U, env, fs, hs, r, g1, y⟩ => ?_)
  obtain ⟨d, ed, y⟩ := y.need
  obtain ⟨⟨c, ks, vs⟩, ec, y⟩ := y.need
  obtain ⟨a, dx, ws, e1, e2, k, rr⟩ := cls_at g1 (g1.look g1.top ed) ec
  subst e1
  obtain rfl : u = Value.ref a := rv1
  have y : Post G W B env hs σ (KQ G B env hs σ Q) (match (prm p g n).propOf c m with
    | some f => need (fz fs r) fun z => ((prm p g n).call f [z.1] z.2.st).nox.out z.2.ol
    | none => if (prm p g n).fldOk c m = true then need ((ks.zip vs).lookup m) fun d => .ok (.fz d) fs else .bad) := y
  cases z : (prm p g n).propOf c m with
  | some f =>
    rw [z] at y
    obtain ⟨⟨d2, s2⟩, ez, y⟩ := Post.need y
    obtain ⟨kc, hk, hm⟩ := propOf_some z
    have C := o.pg.cls c kc hk
    obtain ⟨q, hp⟩ := C.prop m f hm
    rw [he, ← o.K] at hp
    obtain ⟨U2, g2, r2, _⟩ := g1.fz g1.top ez
    obtain ⟨fn, hf⟩ : ∃ fn, p.fns[f]? = some fn := by
      cases w : p.fns[f]? with
      | some fn => exact ⟨fn, rfl⟩
      | none =>
        rw [call_none w] at y
        exact False.elim y
    exact prop_ok o I1 hf e2 (o.K ▸ C.cls) hp g2.drop r2 y
  | none =>
    rw [z] at y
    obtain ⟨hok, y⟩ := ite_post y
    obtain ⟨d2, el, y⟩ := y.need
    obtain ⟨kc, hk, hm⟩ := fldOk_some hok
    have C := o.pg.cls c kc hk
    obtain ⟨na, hx⟩ := C.fld m hm
    obtain ⟨w, hl, rw1⟩ := fld_at (by rw [o.pg.nms]; exact o.pg.nnd) hx k rr el
    rw [he] at hl na
    rw [← o.K] at na
    exact getattr_ok I1 e2 (o.K ▸ C.cls) na hl fun u s' I' ru => ⟨w, H1, I', ru, post_val y g1.drop rw1⟩
end
end Wv
namespace Wv
open PySem L2
section
variable {G : Cfg} {p : Pg} {n : Nat} {g : Bool} {X : Cx} {W : WX} {B : Bs} {U : Wd} {env : Ev} {fs : FS} {hs : List (V × R)} {σ : St} {H : Hp} {pos : Pos} {pins : List (Addr × Obj)} {s : Shared} {P : Prm}
theorem bi_boot (b : Bi) : bootBuiltins b.nm = some b.val := by cases b <;> decide +kernel
theorem bi_free (b : Bi) : b.nm ∈ bltNames := by cases b <;> decide
theorem bi_name (b : Bi) : b.nm ≠ "__name__" := by cases b <;> decide
theorem bi_debug (b : Bi) : (b.nm == ("__debug__" : Str)) = false := by cases b <;> decide
/-- a built-in function or type is called -/
theorem bi_call {b : Bi} {e : Expr} {es : List Expr} {t : Value → Shared → Prop} {E : Value → Shared → Prop} (h : wpAny (model X.prog X.w) X.A (spliced (backTo pos (starEach (e :: es) X.env))) (fun us s1 => wpAny (model X.prog X.w) X.A (call b.val us) t E s1) E s)
    (he : starEach (e :: es) X.env = (false, eval e X.env) :: starEach es X.env) (hpl : (backTo pos (starEach es X.env)).any (·.1) = false) : wpAny (model X.prog X.w) X.A (callWith pos b.val [] (backTo pos (starEach (e :: es) X.env)) []) t E s := by
  have hv : (∃ id, b.val = .builtin id) ∨ ∃ T, b.val = .type T := by cases b <;> first | exact .inl ⟨_, rfl⟩ | exact .inr ⟨_, rfl⟩
  rcases hv with ⟨id, e⟩ | ⟨T, e⟩
  · rw [e] at h ⊢
    exact PyProof.Rows.callWith_builtin1 h he hpl
  · rw [e] at h ⊢
    exact PyProof.Rows.callWith_type1 h he hpl
section
variable {es : List Expr} {e : Expr} {ees : E}
/-- what the built-in function does with values -/
theorem bi_core (o : XOk G p n g X W) {b : Bi} (hb : b ≠ .lens) (I : Inv X pins σ H s) {us : List Value} {vs : List V} {Q : VK} (rv : Vals vs us)
    (h : KA G W σ (fun _ rs s => match lenS b rs with
      | some d => ((prm p g n).meth d mLen [] s).bnd lenO
      | none => need (dvs s rs) fun ds => (prm p g n).bi b ds s) vs H Q) : wpAny (model X.prog X.w) X.A (call b.val us) (EP X pins σ Q) X.xe s := by
  obtain ⟨B, U, env, fs, hs, rs, g1, r1, y⟩ := h
  dsimp only at y
  cases el : lenS b rs with
  | some d =>
    rw [el] at y
    dsimp only at y
    unfold lenS at el
    split at el
    · rename_i d'
      split at el
      · cases el
        cases r1 with
        | cons q t =>
          cases t
          obtain ⟨u, e2, ru⟩ := vals1 rv
          subst e2
          exact obj_len o I ru g1 q y
      · cases el
    · cases el
  | none =>
    rw [el] at y
    dsimp only at y
    obtain ⟨ds, ed, y⟩ := y.need
    have L := g1.looks r1 ed
    have ord : Post G W B env hs σ (KQ G B env hs σ Q) (need (biD b ds) fun r => r.out fs) → wpAny (model X.prog X.w) X.A (call b.val us) (EP X pins σ Q) X.xe s := fun y => by
      obtain ⟨r, er, y⟩ := y.need
      exact cr_bi o.K o.units o.calm b hb pins s σ H vs us Q I rv ⟨B, U, env, fs, hs, σ, ds, r, g1, L, er, post_rs y⟩
    unfold Prm.bi at y
    split at y
    · obtain ⟨v, e1, b1⟩ := L.one
      obtain ⟨hg, y⟩ := ite_post y
      obtain ⟨r, er, y⟩ := y.need
      have hg : g = true := by cases n <;> exact hg
      exact cr_repr o.K o.units (o.gd hg) pins s σ H vs us Q I rv ⟨U, _, r, v, e1, b1, er, post_val y g1 (.str r)⟩
    · exact ord y
theorem sd_bi (o : XOk G p n g X W) {b : Bi} {x : Str} {q : Pos} (hx : b.nm = x) (hb : b ≠ .lens) (hg : Gl X x) (ha : PA X (e :: es) (tA G W (evs (prm p g n) ees))) (hs : (e :: es).all noStar = true) :
    PE X (.Call (.Name x q) (e :: es) [] pos) (tE G W (ev (prm p g n) (.bi b ees))) := by
  subst hx
  rw [List.all_cons, Bool.and_eq_true] at hs
  refine ⟨fun pins s σ H Q I h => ?_⟩
  have h2 := tA_of (k := fun _ rs s => match lenS b rs with
    | some d => ((prm p g n).meth d mLen [] s).bnd lenO
    | none => need (dvs s rs) fun ds => (prm p g n).bi b ds s) h
  refine wpAny_Call_Name_kw (ld_blt I hg (by rw [o.mg]; exact o.pg.free _ (bi_free b)) (bi_boot b) ?_ (bi_name b) (bi_debug b))
  exact bi_call (thn (ha.run pos pins s σ H _ I h2) fun us s1 ⟨vs, H1, I1, rv, q1⟩ => bi_core o hb I1 rv q1) (star_no hs.1) (any_back hs.2)
theorem sd_lens (o : XOk G p n g X W) {a : Expr} {ea : E} {q1 q2 q3 : Pos} (hg : Gl X "len") (hg2 : Gl X "set") (ha : PE X a (tE G W (ev (prm p g n) ea))) (hs : noStar a = true) :
    PE X (.Call (.Name "len" q1) [.Call (.Name "set" q2) [a] [] q3] [] pos) (tE G W (ev (prm p g n) (.lens ea))) :=
  (RZ.pe_lenSetI hg (by rw [o.mg]; exact o.pg.free _ (by decide)) hg2 (by rw [o.mg]; exact o.pg.free _ (by decide)) ha o.calm (star_no hs)).imp fun σ H Q h => by
    obtain ⟨B, U, env, fs, hs, r, y⟩ := h
    refine ⟨B, U, env, fs, hs, r, y.bnd.imp fun t s1 y v U1 H1 g1 => ?_⟩
    obtain ⟨w, b1, y⟩ := y.need
    obtain ⟨z, ez, y2⟩ := y.need
    cases w with
    | lst xs =>
      have ez : (ints? xs).bind (fun ns => if ns.Nodup ∧ ns.length ≤ 4000 then some (Rs.t (.int ns.length)) else none) = some z := ez
      cases ei : ints? xs with
      | none =>
        rw [ei] at ez
        cases ez
      | some ns =>
        rw [ei] at ez
        have ez : (if ns.Nodup ∧ ns.length ≤ 4000 then some (Rs.t (.int ns.length)) else none) = some z := ez
        split at ez
        · rename_i hc
          obtain rfl := Option.some.inj ez
          have e2 := ints_eq ei
          subst e2
          obtain ⟨a, vs, e3, e4, r4⟩ := (g1.look g1.top b1).lst
          have e5 := r4.ints'
          subst e5
          exact ⟨a, ns, e3, .of e4, hc.1, hc.2, post_val y2 g1.drop (.int _)⟩
        · cases ez
    | _ => cases ez
end

theorem b_int : bootBuiltins "int" = some (.type "int") := by decide +kernel
theorem b_bool : bootBuiltins "bool" = some (.type "bool") := by decide +kernel
theorem b_str : bootBuiltins "str" = some (.type "str") := by decide +kernel
theorem b_tuple : bootBuiltins "tuple" = some (.type "tuple") := by decide +kernel
theorem b_list : bootBuiltins "list" = some (.type "list") := by decide +kernel
theorem b_set : bootBuiltins "set" = some (.type "set") := by decide +kernel
theorem b_range : bootBuiltins "range" = some (.type "range") := by decide +kernel
theorem b_isinstance : bootBuiltins "isinstance" = some (.builtin "isinstance") := by decide +kernel
def Ty.u (G : Cfg) : Ty → Value
  | .int => .type "int"
  | .bool => .type "bool"
  | .str => .type "str"
  | .tup => .type "tuple"
  | .lst => .type "list"
  | .own c => .ref (G.ca c)
theorem ty_cls (t : Ty) : ClsV (t.v G) (t.u G) := by cases t <;> first | exact .ty _ | exact .own _
theorem ty_rel (t : Ty) : RelV (t.v G) (t.u G) := by cases t <;> rfl
theorem pe_ty (o : XOk G p n g X W) {t : Ty} {x : Str} {q : Pos} (hx : t.nm p = some x) (hg : Gl X x) (hd : (x == ("__debug__" : Str)) = false) : PE X (.Name x q) (tC (t.v G)) := by
  have fr : ∀ y ∈ bltNames, X.mg y = none := fun y hy => by rw [o.mg]; exact o.pg.free y hy
  cases t with
  | int => cases hx; exact pe_bltn hg (fr _ (by decide)) b_int rfl (by decide) hd
  | bool => cases hx; exact pe_bltn hg (fr _ (by decide)) b_bool rfl (by decide) hd
  | str => cases hx; exact pe_bltn hg (fr _ (by decide)) b_str rfl (by decide) hd
  | tup => cases hx; exact pe_bltn hg (fr _ (by decide)) b_tuple rfl (by decide) hd
  | lst => cases hx; exact pe_bltn hg (fr _ (by decide)) b_list rfl (by decide) hd
  | own c =>
    have hx : (p.cls[c]?).map (·.nm) = some x := hx
    cases z : p.cls[c]? with
    | none =>
      rw [z] at hx
      cases hx
    | some k =>
      rw [z] at hx
      cases hx
      exact pe_glob hg (by rw [o.mg]; exact (o.pg.cls c k z).glob) rfl hd
theorem isi_ok (o : XOk G p n g X W) (h : Rel G B U env fs hs σ H) {v : V} {d : D} {t : Ty} {x : Str} {k : Bool} (b : RepB G U H v d) (hx : t.nm p = some x) (e : (prm p g n).isi fs.st d t = some k) :
    ∃ T, TyX X.K H v T ∧ PySem.W.kitOne X.K T (t.u G) = some k := by
  have own : ∀ (c : Nat), t = .own c → ∃ kc, p.cls[c]? = some kc := fun c e => by
    subst e
    have hx : (p.cls[c]?).map (·.nm) = some x := hx
    cases z : p.cls[c]? with
    | none =>
      rw [z] at hx
      cases hx
    | some k => exact ⟨k, rfl⟩
  have no : ∀ (T : String), T ∈ (["NoneType", "int", "bool", "str", "tuple", "list", "dict"] : List String) → ∀ c, t = .own c → PySem.W.kitOne X.K (.type T) (t.u G) = some false := fun T hT c e => by
    obtain ⟨kc, hk⟩ := own c e
    subst e
    rw [o.K]
    exact (o.pg.cls c kc hk).ofTy T hT
  have obj : ∀ c ks vs, clsOf d fs.st = some (c, ks, vs) → (((prm p g n).cs[c]?).map fun k => t.has k) = some k → ∃ T, TyX X.K H v T ∧ PySem.W.kitOne X.K T (t.u G) = some k := fun c ks vs ec ek => by
    obtain ⟨a, dx, ws, e1, e2, _⟩ := cls_at h b ec
    subst e1
    have hcs : (prm p g n).cs = p.cls := by cases n <;> rfl
    rw [hcs] at ek
    cases hk : p.cls[c]? with
    | none =>
      rw [hk] at ek
      cases ek
    | some kc =>
    rw [hk] at ek
    have ek : t.has kc = k := Option.some.inj ek
    have C := o.pg.cls c kc hk
    refine ⟨.ref (G.ca c), .base (.ins e2 (o.K ▸ C.cls) (o.K ▸ C.klass.1) (o.K ▸ o.pg.klass.1) (o.K ▸ o.pg.klass.2) (o.K ▸ C.klass.2)), ?_⟩
    rw [o.K]
    cases t with
    | own d' =>
      obtain ⟨kd, hd⟩ := own d' rfl
      rw [← ek]
      exact C.isOwn d' (List.getElem?_eq_some_iff.mp hd).1
    | int => rw [← ek]; exact C.isTy "int" (by decide)
    | bool => rw [← ek]; exact C.isTy "bool" (by decide)
    | str => rw [← ek]; exact C.isTy "str" (by decide)
    | tup => rw [← ek]; exact C.isTy "tuple" (by decide)
    | lst => rw [← ek]; exact C.isTy "list" (by decide)
  unfold Prm.isi at e
  cases d with
  | non =>
    rw [b.non]
    refine ⟨_, .base .non, ?_⟩
    cases t <;> first | (rw [← e]; exact kit_ty (by decide +kernel)) | (rw [← e]; exact no "NoneType" (by decide) _ rfl)
  | bl w =>
    rw [b.bl]
    refine ⟨_, .base (.bl w), ?_⟩
    cases t <;> first | (rw [← e]; exact kit_ty (by decide +kernel)) | (rw [← e]; exact no "bool" (by decide) _ rfl)
  | int w =>
    rw [b.int]
    refine ⟨_, .base (.int w), ?_⟩
    cases t <;> first | (rw [← e]; exact kit_ty (by decide +kernel)) | (rw [← e]; exact no "int" (by decide) _ rfl)
  | str w =>
    rw [b.str]
    refine ⟨_, .base (.str w), ?_⟩
    cases t <;> first | (rw [← e]; exact kit_ty (by decide +kernel)) | (rw [← e]; exact no "str" (by decide) _ rfl)
  | tup w =>
    obtain ⟨a, vs, e1, _, e2, _⟩ := b.tup
    rw [e1]
    refine ⟨_, .base (.tup e2), ?_⟩
    cases t <;> first | (rw [← e]; exact kit_ty (by decide +kernel)) | (rw [← e]; exact no "tuple" (by decide) _ rfl)
  | lst w =>
    obtain ⟨a, vs, e1, e2, _⟩ := b.lst
    rw [e1]
    refine ⟨_, .base (.lst e2), ?_⟩
    cases t <;> first | (rw [← e]; exact kit_ty (by decide +kernel)) | (rw [← e]; exact no "list" (by decide) _ rfl)
  | dic ks w =>
    obtain ⟨a, kvs, e1, e2, _⟩ := b.dic
    rw [e1]
    refine ⟨_, .base (.dK e2), ?_⟩
    cases t <;> first | (rw [← e]; exact kit_ty (by decide +kernel)) | (rw [← e]; exact no "dict" (by decide) _ rfl)
  | ins c ks w => exact obj c ks w rfl e
  | cel m =>
    have e : (clsOf (.cel m) fs.st).bind (fun q => ((prm p g n).cs[q.1]?).map fun k => t.has k) = some k := e
    cases z : clsOf (.cel m) fs.st with
    | none =>
      rw [z] at e
      cases e
    | some q =>
      rw [z] at e
      exact obj q.1 q.2.1 q.2.2 z e
  | cls c => cases e
  | scr ns => cases e
  | opq => cases e
theorem sd_isi (o : XOk G p n g X W) {t : Ty} {x : Str} {a : Expr} {ea : E} {q1 q2 : Pos} (hg : Gl X "isinstance") (hx : t.nm p = some x) (hg2 : Gl X x) (hd : (x == ("__debug__" : Str)) = false) (ha : PE X a (tE G W (ev (prm p g n) ea))) (hs : noStar a = true) :
    PE X (.Call (.Name "isinstance" q1) [a, .Name x q2] [] pos) (tE G W (ev (prm p g n) (.isi ea t))) :=
  (pe_callB call_isi hg (by rw [o.mg]; exact o.pg.free _ (by decide)) b_isinstance (pa_cons ha (pa_cons (pe_ty o hx hg2 hd) pa_nil) (star_no hs)) (by decide) (by decide) (star_no hs)).imp fun σ H Q h => tE_mono (tE_one h) fun v H1 h1 => by
    obtain ⟨B, U, env, fs, hs, r, g1, y⟩ := h1
    obtain ⟨d, ed, y⟩ := y.need
    obtain ⟨k, ek, y⟩ := y.need
    obtain ⟨T, h1, h2⟩ := isi_ok o g1 (g1.look g1.top ed) hx ek
    exact ⟨v, t.v G, T, t.u G, k, rfl, ty_cls t, h1, h2, post_val y g1.drop (.bl k)⟩
end
end Wv
namespace Wv
open PySem L2
/-- the list (or tuple) at a -/
def Sq (K : PySem.W.Frag) (H : Hp) (q : Bool × Addr) (xs : List V) : Prop := if q.1 = true then SqT K H q.2 xs else SqL K H q.2 xs
def HSq (h : Heap) (q : Bool × Addr) (its : Array Value) : Prop := if q.1 = true then h.IsTuple q.2 its else h.IsList q.2 its
def HIt (h : Heap) (q : Bool × Addr) (it : Addr) (i : Nat) : Prop := if q.1 = true then h.IsTupleIter it q.2 i else h.IsListIter it q.2 i
def oIt (q : Bool × Addr) : Obj := if q.1 = true then { cls := .type "tuple_iterator", data := .fields #[.ref q.2, .int 0 0] } else { cls := .type "list_iterator", data := .fields #[.ref q.2, .int 0 0] }
section
variable {X : Cx} {pins : List (Addr × Obj)} {σ : St} {H : Hp} {s : Shared} {q : Bool × Addr} {xs ys : List V}
theorem sq_get (I : Inv X pins σ H s) (h : Sq X.K H q xs) : ∃ its : List Value, Vals xs its ∧ HSq s.heap q its.toArray := by
  unfold Sq at h
  unfold HSq
  split at h
  · rename_i e
    obtain ⟨its, rv, p, _⟩ := I.tuple h
    exact ⟨its, rv, by rw [if_pos e]; exact p⟩
  · rename_i e
    obtain ⟨its, rv, p, _⟩ := I.list h
    exact ⟨its, rv, by rw [if_neg e]; exact p.isList⟩
theorem sq_inj (I : Inv X pins σ H s) (h : Sq X.K H q xs) (h' : Sq X.K H q ys) : xs = ys := by
  unfold Sq at h h'
  split at h
  · rename_i e
    rw [if_pos e] at h'
    exact I.tuple_inj h h'
  · rename_i e
    rw [if_neg e] at h'
    exact I.list_inj h h'
theorem hit_keep {h h' : Heap} {it : Addr} {i : Nat} (st : HIt h q it i) (k : ∀ o, h.get? it = some o → h'.get? it = some o) : HIt h' q it i := by
  unfold HIt at st ⊢
  split at st
  · rename_i e
    rw [if_pos e]
    exact st.at k
  · rename_i e
    rw [if_neg e]
    exact st.at k
theorem hit_obj {h : Heap} {it : Addr} {i : Nat} (st : HIt h q it i) : ∃ o, h.get? it = some o ∧ ∀ v, o.data ≠ .cell v := by
  unfold HIt at st
  split at st
  · obtain ⟨o, e, _, d⟩ := st
    exact ⟨o, e, fun v z => by rw [d] at z; cases z⟩
  · obtain ⟨o, e, _, d⟩ := st
    exact ⟨o, e, fun v z => by rw [d] at z; cases z⟩
theorem hit_new {h : Heap} {it : Addr} (e : h.get? it = some (oIt q)) : HIt h q it 0 := by
  unfold oIt at e
  unfold HIt
  split at e
  · rename_i z
    rw [if_pos z]
    exact ⟨_, e, rfl, rfl⟩
  · rename_i z
    rw [if_neg z]
    exact ⟨_, e, rfl, rfl⟩
theorem sq_begins (q : Bool × Addr) (its : Array Value) : Begins (.ref q.2) (oIt q) fun h => HSq h q its := by
  unfold oIt HSq
  by_cases z : q.1 = true
  · simp only [if_pos z]
    exact begins_tuple q.2 its
  · simp only [if_neg z]
    exact begins_list q.2 its
theorem sq_draws {P : Program} {w : World} {A : Around} (hh : A.handled = none) (it : Addr) (hne : q.2 ≠ it) (its : Array Value) : Draws P w A it [it, q.2] its.size (fun i v => its[i]? = some v) (fun i h => HIt h q it i ∧ HSq h q its) := by
  unfold HIt HSq
  by_cases z : q.1 = true
  · simp only [if_pos z]
    exact Draws.tuple hh it q.2 hne its
  · simp only [if_neg z]
    exact Draws.list hh it q.2 hne its
end

def ItM {α : Type} (S : Hp → α → Prop) (n : α → Nat) (mk : α → Nat → List V) : It :=
  ⟨fun i H => ∃ x, S H x ∧ i < n x, fun i H v H' => ∃ T, v = .ref T ∧ H T = none ∧ ∀ x, S H x → H' = upd H T (.tup (mk x i)), fun i H => ∃ x, S H x ∧ i = n x⟩
theorem turn_of {α : Type} {S : Hp → α → Prop} {n : α → Nat} {mk : α → Nat → List V} {P : Program} {w : World} {K : PySem.W.Frag} {elts : List Expr} {kk : Nat} {tpos : Pos} {z : Addr} {fp wr : List Addr} {tn : Nat → Heap → Prop}
    (hz : z ∈ fp) (hwr : ∀ b ∈ wr, b ∈ fp) (hobj : ∀ i h, tn i h → ∀ b ∈ fp, ∃ o, h.get? b = some o ∧ ∀ v, o.data ≠ .cell v) (keep : ∀ i h h', tn i h → (∀ b ∈ fp, ∀ o, h.get? b = some o → h'.get? b = some o) → tn i h')
    (hlen : ∀ x i, (mk x i).length ≤ sizeLine)
    (inj : ∀ (X : Cx) pins σ H s, X.K = K → Inv X pins σ H s → ∀ x y, S H x → S H y → x = y)
    (hW : ∀ (X : Cx), X.prog = P → X.w = w → X.K = K → X.calm = true → ∀ pins s σ H x i, Inv X pins σ H s → S H x → tn i s.heap → ∃ fq Pt St Mid, WalksT P w X.A z fq wr (n x) Pt St Mid ∧ St i s.heap ∧ (∀ j h, St j h → tn j h) ∧ ∀ j vals, Pt j vals → Vals (mk x j) vals.toList)
    (self : ∀ (A : Around) i (s : Shared) (Q : Value → Shared → Prop) (E : Value → Shared → Prop), tn i s.heap → Q (.ref z) s → wpAny (model P w) A (pyIter (.ref z)) Q E s) :
    Turn P w K (.Tuple elts kk tpos) (ItM S n mk) fp z tn where
  mem := hz
  obj := hobj
  keep := keep
  self := self
  item := by
    intro X hP hw hK hc i pins s σ H E I hf st hg
    obtain ⟨x, hx, hi⟩ := hg
    obtain ⟨fq, Pt, St, Mid, W, st0, out, vv⟩ := hW X hP hw hK hc pins s σ H x i I hx st
    subst hP hw hK
    refine W.item i s _ _ hi st0 fun T vals h' tk hp hT hTup hm hk => ?_
    refine ⟨_, rfl, ?_⟩
    refine W.go elts kk tpos i T { s with heap := h', toks := tk } _ _ hm fun h'' st1 hk2 => ?_
    have hTw : T ∉ wr := W.apart i T h' hm
    have hTup2 : h''.IsTuple T vals := hTup.at fun o e => hk2 T o hTw e
    have fr : ∀ b o, b ∉ wr → s.heap.get? b = some o → h''.get? b = some o := fun b o hb e => hk2 b o hb (hk b o hb e)
    have new : ObjOk X.prog X.w (upd H T (.tup (mk x i))) h'' T (.tup (mk x i)) := ⟨hlen x i, vals.toList, vv i vals hp, by rw [Array.toArray_toList]; exact hTup2⟩
    have I1 : Inv X pins σ (upd H T (.tup (mk x i))) { s with heap := h'', toks := tk } := I.turnedNew (ch := wr) fr (fun b hb => hf b (hwr b hb)) hT new
    refine ⟨.ref T, _, I1, rfl, ⟨T, rfl, I.hok.fresh hT, fun y hy => by rw [inj X pins σ H s rfl I y x hy hx]⟩, out _ _ st1, fun b hb => ?_⟩
    obtain ⟨o, ho, _⟩ := hobj i s.heap st b hb
    rw [upd_ne (Nat.ne_of_lt (Nat.lt_of_lt_of_le (Heap.lt_size ho) hT))]
    exact (hf b hb).1
  done := by
    intro X hP hw hK hc i pins s σ H E I hf st hg
    obtain ⟨x, hx, hi⟩ := hg
    obtain ⟨fq, Pt, St, Mid, W, st0, out, vv⟩ := hW X hP hw hK hc pins s σ H x i I hx st
    subst hP hw hK hi
    exact W.done s _ _ st0 fun h' tk hk => ⟨rfl, I.turnedL (t' := tk) (ch := wr) hk fun b hb => hf b (hwr b hb)⟩

theorem vals_at {xs : List V} {its : List Value} (r : Vals xs its) {i : Nat} {u : Value} (h : its.toArray[i]? = some u) : RelV (xs.getD i .non) u := by
  have h : its[i]? = some u := by simpa using h
  have l := (List.getElem?_eq_some_iff.mp h).1
  rw [← r.length] at l
  obtain ⟨u', h1, h2⟩ := r.get (List.getElem?_eq_getElem l)
  rw [h] at h1
  cases h1
  rw [List.getD_eq_getElem?_getD, List.getElem?_eq_getElem l]
  exact h2
def mkE (xs : List V) (i : Nat) : List V := [.int (i : Nat), xs.getD i .non]
theorem turn_enumQ {P : Program} {w : World} {K : PySem.W.Frag} {elts : List Expr} {kk : Nat} {tpos : Pos} {q : Bool × Addr} {e it : Addr} (h1 : e ≠ it) (h2 : q.2 ≠ it) (h3 : q.2 ≠ e) :
    Turn P w K (.Tuple elts kk tpos) (ItM (fun H xs => Sq K H q xs) List.length mkE) [e, it] e (fun i h => (∃ old, IsEnum h e it ((i : Nat) : Int) old) ∧ HIt h q it i) := by
  refine turn_of (wr := [e, it]) (by simp) (fun b hb => hb) (fun i h st b hb => ?_) (fun i h h' st k => ?_) (fun x i => by show 2 ≤ sizeLine; decide) (fun X pins σ H s hK I x y hx hy => sq_inj I (hK ▸ hx) (hK ▸ hy)) (fun X hP hw hK hc pins s σ H x i I hx st => ?_) fun A i s Q E st h => ?_
  · obtain ⟨⟨old, he⟩, hi⟩ := st
    rcases List.mem_cons.mp hb with z | z
    · rw [z]
      exact ⟨_, he, fun v q => nomatch q⟩
    · rw [List.mem_singleton.mp z]
      exact hit_obj hi
  · obtain ⟨⟨old, he⟩, hi⟩ := st
    exact ⟨⟨old, k e (by simp) _ he⟩, hit_keep hi fun o z => k it (by simp) o z⟩
  · subst hP hw hK
    obtain ⟨its, rv, hs⟩ := sq_get I hx
    have D := sq_draws (P := X.prog) (w := X.w) (A := X.A.in1) (q := q) (I.ok.hd hc) it h2 its.toArray
    have hl : its.toArray.size = x.length := by rw [List.size_toArray, rv.length]
    rw [hl] at D
    obtain ⟨he, hi⟩ := st
    refine ⟨_, _, _, _, WalksT.enumerateD D e h1 (by simp only [List.mem_cons, List.not_mem_nil, or_false, not_or]; exact ⟨h1, fun z => h3 z.symm⟩) (by simp), ⟨he, hi, hs⟩, fun j h z => ⟨z.1, z.2.1⟩, fun j vals hv => ?_⟩
    obtain ⟨t, u, hu, hv⟩ := hv
    subst hv
    exact .cons ⟨t, rfl⟩ (.cons (vals_at rv hu) .nil)
  · obtain ⟨⟨_, he⟩, _⟩ := st
    exact wpAny_pyIter_enum he h
set_option maxHeartbeats 1000000 in
theorem meets_enum1 {v : Value} {o : Obj} {H : Heap → Prop} (B : Begins v o H) :
    Meets (Builtin.«enumerate.__new__» ⟨[.type "enumerate", v], []⟩) (fun _ R s => H s.heap ∧
      R (.ok (.ret (.ref (s.heap.push o).objs.size))) { s with heap := (s.heap.push o).push { cls := .type "enumerate", data := .fields #[.none, .bool false, .ref s.heap.objs.size, rawInt 0, .none, .none] } }) :=
  .of_wp fun prog w A R s h => by
    obtain ⟨hp, g, d, tk, os⟩ := s; obtain ⟨h1, h⟩ := h
    have hsub := sub_enumerate
    have q1 : ∀ {A' : Around} {E : Value → Shared → Prop} {Q : Value → Shared → Prop}, Q (.ref hp.objs.size) ⟨hp.push o, g, d, tk, os⟩ → wpAny (model prog w) A' (pyIter v) Q E ⟨hp, g, d, tk, os⟩ :=
      fun q => B.iter prog w _ _ ⟨hp, g, d, tk, os⟩ _ h1 q
    wp_walk using q1
    refine wpAny_stack_any fun st => wpAny_pure ?_
    split
    · rename_i c _ _ _ _ _
      cases (c == Value.type "enumerate")
      · wp_walk using q1
        exact ⟨_, rfl, h⟩
      · wp_walk using q1
        exact ⟨_, rfl, h⟩
    · wp_walk using q1
      exact ⟨_, rfl, h⟩
section
variable {prog : Program} {w : World} {A : Around} {E : Value → Shared → Prop} {s : Shared}
theorem call_enum1 {v : Value} {o : Obj} {H : Heap → Prop} {Q : Value → Shared → Prop} (B : Begins v o H) (h1 : H s.heap)
    (h : ∀ h', IsEnum h' (s.heap.objs.size + 1) s.heap.objs.size 0 .none → h'.get? s.heap.objs.size = some o → h'.objs.size = s.heap.objs.size + 2 →
      (∀ b o, s.heap.get? b = some o → h'.get? b = some o) → Q (.ref (s.heap.objs.size + 1)) { s with heap := h' }) :
    wpAny (model prog w) A (call (.type "enumerate") [v]) Q E s := by
  refine callType_new F.called_enumerate (by decide) (F.typeCall_enumerate_1 _) (F.newCall_enumerate_1 _) (fun obj => F.args_object_init_2 obj _) F.entry_enumerate_new
    (meets_enum1 B) ⟨h1, ?_⟩
  have hz : (s.heap.push o).objs.size = s.heap.objs.size + 1 := Heap.size_push ..
  show _ ∧ _
  rw [hz]
  have he : IsEnum ((s.heap.push o).push { cls := .type "enumerate", data := .fields #[.none, .bool false, .ref s.heap.objs.size, rawInt 0, .none, .none] }) (s.heap.objs.size + 1) s.heap.objs.size 0 .none := by
    have := Heap.get?_push_size (s.heap.push o) (o := { cls := .type "enumerate", data := .fields #[.none, .bool false, .ref s.heap.objs.size, rawInt 0, .none, .none] }) rfl
    rw [hz] at this; exact this
  refine ⟨⟨_, he, rfl⟩, h _ he (Heap.get?_push_of_some _ (Heap.get?_push_size _ B.free)) (by rw [Heap.size_push, hz]) fun b o x => Heap.get?_push_of_some _ (Heap.get?_push_of_some _ x)⟩
end
theorem hsq_lt {h : Heap} {q : Bool × Addr} {its : Array Value} (z : HSq h q its) : q.2 < h.objs.size := by
  unfold HSq at z
  split at z
  · obtain ⟨o, e, _⟩ := z
    exact Heap.lt_size e
  · obtain ⟨o, e, _⟩ := z
    exact Heap.lt_size e
section
variable {X : Cx} {pins : List (Addr × Obj)} {σ : St} {H : Hp} {s : Shared}
theorem enum_starts {q : Bool × Addr} {xs : List V} {elts : List Expr} {kk : Nat} {tpos : Pos} {R : It → Hp → Prop} (I : Inv X pins σ H s) (h : Sq X.K H q xs) (hR : R (ItM (fun H xs => Sq X.K H q xs) List.length mkE) H) :
    wpAny (model X.prog X.w) X.A (call (.type "enumerate") [.ref q.2]) (fun v s1 => wpAny (model X.prog X.w) X.A (pyIter v) (PIE X pins σ (.Tuple elts kk tpos) R) X.xe s1) X.xe s := by
  obtain ⟨its, rv, hs⟩ := sq_get I h
  have l := hsq_lt hs
  refine call_enum1 (sq_begins q its.toArray) hs fun h' he hit hsz hk => wpAny_pyIter_enum he ?_
  have I2 : Inv X pins σ H { s with heap := h' } := I.kept (t' := s.toks) hk
  refine ⟨s.heap.objs.size + 1, [s.heap.objs.size + 1, s.heap.objs.size], _, _, H, rfl, I2, turn_enumQ (q := q) (Nat.succ_ne_self _) (Nat.ne_of_lt l) (Nat.ne_of_lt (Nat.lt_succ_of_lt l)), ⟨⟨.none, he⟩, hit_new hit⟩, fun b hb => ?_, hR⟩
  have hle : s.heap.objs.size ≤ b := by
    rcases List.mem_cons.mp hb with z | z
    · rw [z]; exact Nat.le_add_right _ _
    · rw [List.mem_singleton.mp z]; exact Nat.le_refl _
  exact I.fpOk hle (I.hok.fresh hle)
end

def mkZ (x : List V × List V) (i : Nat) : List V := [x.1.getD i .non, x.2.getD i .non]
theorem turn_zip2Q {P : Program} {w : World} {K : PySem.W.Frag} {elts : List Expr} {kk : Nat} {tpos : Pos} {q1 q2 : Bool × Addr} {z TI TO i1 i2 : Addr} (D : ZipSep2 z TI TO i1 i2 [i1, q1.2] [i2, q2.2]) (e1 : q1.2 ≠ i1) (e2 : q2.2 ≠ i2) :
    Turn P w K (.Tuple elts kk tpos) (ItM (fun H x => Sq K H q1 x.1 ∧ Sq K H q2 x.2) (fun x => min x.1.length x.2.length) mkZ) [z, TI, TO, i1, i2] z
      (fun i h => IsZip h z TI TO .none ∧ IsTupOf2 h TI (.ref i1) (.ref i2) ∧ (∃ a1 a2, IsTupOf2 h TO a1 a2) ∧ HIt h q1 i1 i ∧ HIt h q2 i2 i) := by
  refine turn_of (wr := [z, TO, i1, i2]) (by simp) (fun b hb => ?_) (fun i h st b hb => ?_) (fun i h h' st k => ?_) (fun x i => by show 2 ≤ sizeLine; decide) (fun X pins σ H s hK I x y hx hy => ?_) (fun X hP hw hK hc pins s σ H x i I hx st => ?_) fun A i s Q E st h => wpAny_pyIter_zip st.1 h
  · simp only [List.mem_cons, List.not_mem_nil, or_false] at hb ⊢
    rcases hb with e | e | e | e
    · exact .inl e
    · exact .inr (.inr (.inl e))
    · exact .inr (.inr (.inr (.inl e)))
    · exact .inr (.inr (.inr (.inr e)))
  · obtain ⟨hz, hTI, ⟨a1, a2, hTO⟩, h1, h2⟩ := st
    simp only [List.mem_cons, List.not_mem_nil, or_false] at hb
    rcases hb with e | e | e | e | e
    · rw [e]; exact ⟨_, hz, fun v q => nomatch q⟩
    · rw [e]; exact ⟨_, hTI, fun v q => nomatch q⟩
    · rw [e]; exact ⟨_, hTO, fun v q => nomatch q⟩
    · rw [e]; exact hit_obj h1
    · rw [e]; exact hit_obj h2
  · obtain ⟨hz, hTI, ⟨a1, a2, hTO⟩, h1, h2⟩ := st
    exact ⟨k z (by simp) _ hz, k TI (by simp) _ hTI, ⟨a1, a2, k TO (by simp) _ hTO⟩, hit_keep h1 fun o y => k i1 (by simp) o y, hit_keep h2 fun o y => k i2 (by simp) o y⟩
  · exact Prod.ext (sq_inj I (hK ▸ hx.1) (hK ▸ hy.1)) (sq_inj I (hK ▸ hx.2) (hK ▸ hy.2))
  · subst hP hw hK
    obtain ⟨its1, rv1, hs1⟩ := sq_get I hx.1
    obtain ⟨its2, rv2, hs2⟩ := sq_get I hx.2
    have D1 := sq_draws (P := X.prog) (w := X.w) (A := X.A.in1) (q := q1) (I.ok.hd hc) i1 e1 its1.toArray
    have D2 := sq_draws (P := X.prog) (w := X.w) (A := X.A.in1) (q := q2) (I.ok.hd hc) i2 e2 its2.toArray
    rw [show its1.toArray.size = x.1.length by rw [List.size_toArray, rv1.length]] at D1
    rw [show its2.toArray.size = x.2.length by rw [List.size_toArray, rv2.length]] at D2
    obtain ⟨hz, hTI, hTO, h1, h2⟩ := st
    refine ⟨_, _, _, _, WalksT.zipD2 D D1 D2, ⟨hz, hTI, hTO, ⟨h1, hs1⟩, h2, hs2⟩, fun j h y => ⟨y.1, y.2.1, y.2.2.1, y.2.2.2.1.1, y.2.2.2.2.1⟩, fun j vals hv => ?_⟩
    obtain ⟨u1, u2, h1, h2, hv⟩ := hv
    subst hv
    exact .cons (vals_at rv1 h1) (.cons (vals_at rv2 h2) .nil)
def mkZ3 (x : List V × List V × List V) (i : Nat) : List V := [x.1.getD i .non, x.2.1.getD i .non, x.2.2.getD i .non]
theorem turn_zip3Q {P : Program} {w : World} {K : PySem.W.Frag} {elts : List Expr} {kk : Nat} {tpos : Pos} {q1 q2 q3 : Bool × Addr} {z TI TO i1 i2 i3 : Addr} (D : ZipSep3 z TI TO i1 i2 i3 [i1, q1.2] [i2, q2.2] [i3, q3.2]) (e1 : q1.2 ≠ i1) (e2 : q2.2 ≠ i2) (e3 : q3.2 ≠ i3) :
    Turn P w K (.Tuple elts kk tpos) (ItM (fun H x => Sq K H q1 x.1 ∧ Sq K H q2 x.2.1 ∧ Sq K H q3 x.2.2) (fun x => min (min x.1.length x.2.1.length) x.2.2.length) mkZ3) [z, TI, TO, i1, i2, i3] z
      (fun i h => IsZip h z TI TO .none ∧ IsTupOf3 h TI (.ref i1) (.ref i2) (.ref i3) ∧ (∃ a1 a2 a3, IsTupOf3 h TO a1 a2 a3) ∧ HIt h q1 i1 i ∧ HIt h q2 i2 i ∧ HIt h q3 i3 i) := by
  refine turn_of (wr := [z, TO, i1, i2, i3]) (by simp) (fun b hb => ?_) (fun i h st b hb => ?_) (fun i h h' st k => ?_) (fun x i => by show 3 ≤ sizeLine; decide) (fun X pins σ H s hK I x y hx hy => ?_) (fun X hP hw hK hc pins s σ H x i I hx st => ?_) fun A i s Q E st h => wpAny_pyIter_zip st.1 h
  · simp only [List.mem_cons, List.not_mem_nil, or_false] at hb ⊢
    rcases hb with e | e | e | e | e
    · exact .inl e
    · exact .inr (.inr (.inl e))
    · exact .inr (.inr (.inr (.inl e)))
    · exact .inr (.inr (.inr (.inr (.inl e))))
    · exact .inr (.inr (.inr (.inr (.inr e))))
  · obtain ⟨hz, hTI, ⟨a1, a2, a3, hTO⟩, h1, h2, h3⟩ := st
    simp only [List.mem_cons, List.not_mem_nil, or_false] at hb
    rcases hb with e | e | e | e | e | e
    · rw [e]; exact ⟨_, hz, fun v q => nomatch q⟩
    · rw [e]; exact ⟨_, hTI, fun v q => nomatch q⟩
    · rw [e]; exact ⟨_, hTO, fun v q => nomatch q⟩
    · rw [e]; exact hit_obj h1
    · rw [e]; exact hit_obj h2
    · rw [e]; exact hit_obj h3
  · obtain ⟨hz, hTI, ⟨a1, a2, a3, hTO⟩, h1, h2, h3⟩ := st
    exact ⟨k z (by simp) _ hz, k TI (by simp) _ hTI, ⟨a1, a2, a3, k TO (by simp) _ hTO⟩, hit_keep h1 fun o y => k i1 (by simp) o y, hit_keep h2 fun o y => k i2 (by simp) o y, hit_keep h3 fun o y => k i3 (by simp) o y⟩
  · exact Prod.ext (sq_inj I (hK ▸ hx.1) (hK ▸ hy.1)) (Prod.ext (sq_inj I (hK ▸ hx.2.1) (hK ▸ hy.2.1)) (sq_inj I (hK ▸ hx.2.2) (hK ▸ hy.2.2)))
  · subst hP hw hK
    obtain ⟨its1, rv1, hs1⟩ := sq_get I hx.1
    obtain ⟨its2, rv2, hs2⟩ := sq_get I hx.2.1
    obtain ⟨its3, rv3, hs3⟩ := sq_get I hx.2.2
    have D1 := sq_draws (P := X.prog) (w := X.w) (A := X.A.in1) (q := q1) (I.ok.hd hc) i1 e1 its1.toArray
    have D2 := sq_draws (P := X.prog) (w := X.w) (A := X.A.in1) (q := q2) (I.ok.hd hc) i2 e2 its2.toArray
    have D3 := sq_draws (P := X.prog) (w := X.w) (A := X.A.in1) (q := q3) (I.ok.hd hc) i3 e3 its3.toArray
    rw [show its1.toArray.size = x.1.length by rw [List.size_toArray, rv1.length]] at D1
    rw [show its2.toArray.size = x.2.1.length by rw [List.size_toArray, rv2.length]] at D2
    rw [show its3.toArray.size = x.2.2.length by rw [List.size_toArray, rv3.length]] at D3
    obtain ⟨hz, hTI, hTO, h1, h2, h3⟩ := st
    refine ⟨_, _, _, _, WalksT.zipD3 D D1 D2 D3, ⟨hz, hTI, hTO, ⟨h1, hs1⟩, ⟨h2, hs2⟩, h3, hs3⟩, fun j h y => ⟨y.1, y.2.1, y.2.2.1, y.2.2.2.1.1, y.2.2.2.2.1.1, y.2.2.2.2.2.1⟩, fun j vals hv => ?_⟩
    obtain ⟨u1, u2, u3, h1, h2, h3, hv⟩ := hv
    subst hv
    exact .cons (vals_at rv1 h1) (.cons (vals_at rv2 h2) (.cons (vals_at rv3 h3) .nil))
section
variable {X : Cx} {pins : List (Addr × Obj)} {σ : St} {H : Hp} {s : Shared}
theorem zip2_starts {q1 q2 : Bool × Addr} {xs ys : List V} {elts : List Expr} {kk : Nat} {tpos : Pos} {R : It → Hp → Prop} (I : Inv X pins σ H s) (h1 : Sq X.K H q1 xs) (h2 : Sq X.K H q2 ys)
    (hR : R (ItM (fun H x => Sq X.K H q1 x.1 ∧ Sq X.K H q2 x.2) (fun x => min x.1.length x.2.length) mkZ) H) :
    wpAny (model X.prog X.w) X.A (call (.type "zip") [.ref q1.2, .ref q2.2]) (fun v s1 => wpAny (model X.prog X.w) X.A (pyIter v) (PIE X pins σ (.Tuple elts kk tpos) R) X.xe s1) X.xe s := by
  obtain ⟨its1, rv1, hs1⟩ := sq_get I h1
  obtain ⟨its2, rv2, hs2⟩ := sq_get I h2
  have l1 := hsq_lt hs1
  have l2 := hsq_lt hs2
  refine zip_begins2 (sq_begins q1 its1.toArray) (sq_begins q2 its2.toArray) hs1 hs2 fun h' hz hTI hTO hi1 hi2 hsz hk => wpAny_pyIter_zip hz ?_
  have I2 : Inv X pins σ H { s with heap := h' } := I.kept (t' := s.toks) hk
  refine ⟨s.heap.objs.size + 4, _, _, _, H, rfl, I2, turn_zip2Q (q1 := q1) (q2 := q2) (zip_sep2 (by simpa using l1) (by simpa using l2)) (Nat.ne_of_lt l1) (Nat.ne_of_lt (Nat.lt_succ_of_lt l2)), ⟨hz, hTI, ⟨_, _, hTO⟩, hit_new hi1, hit_new hi2⟩, fun b hb => ?_, hR⟩
  have hle : s.heap.objs.size ≤ b := by
    simp only [List.mem_cons, List.not_mem_nil, or_false] at hb
    rcases hb with e | e | e | e | e <;> rw [e] <;> first | exact Nat.le_add_right _ _ | exact Nat.le_refl _
  exact I.fpOk hle (I.hok.fresh hle)
theorem zip3_starts {q1 q2 q3 : Bool × Addr} {xs ys zs : List V} {elts : List Expr} {kk : Nat} {tpos : Pos} {R : It → Hp → Prop} (I : Inv X pins σ H s) (h1 : Sq X.K H q1 xs) (h2 : Sq X.K H q2 ys) (h3 : Sq X.K H q3 zs)
    (hR : R (ItM (fun H x => Sq X.K H q1 x.1 ∧ Sq X.K H q2 x.2.1 ∧ Sq X.K H q3 x.2.2) (fun x => min (min x.1.length x.2.1.length) x.2.2.length) mkZ3) H) :
    wpAny (model X.prog X.w) X.A (call (.type "zip") [.ref q1.2, .ref q2.2, .ref q3.2]) (fun v s1 => wpAny (model X.prog X.w) X.A (pyIter v) (PIE X pins σ (.Tuple elts kk tpos) R) X.xe s1) X.xe s := by
  obtain ⟨its1, rv1, hs1⟩ := sq_get I h1
  obtain ⟨its2, rv2, hs2⟩ := sq_get I h2
  obtain ⟨its3, rv3, hs3⟩ := sq_get I h3
  have l1 := hsq_lt hs1
  have l2 := hsq_lt hs2
  have l3 := hsq_lt hs3
  refine zip_begins3 (sq_begins q1 its1.toArray) (sq_begins q2 its2.toArray) (sq_begins q3 its3.toArray) hs1 hs2 hs3 fun h' hz hTI hTO hi1 hi2 hi3 hsz hk => wpAny_pyIter_zip hz ?_
  have I2 : Inv X pins σ H { s with heap := h' } := I.kept (t' := s.toks) hk
  refine ⟨s.heap.objs.size + 5, _, _, _, H, rfl, I2, turn_zip3Q (q1 := q1) (q2 := q2) (q3 := q3) (zip_sep3 (by simpa using l1) (by simpa using l2) (by simpa using l3)) (Nat.ne_of_lt l1) (Nat.ne_of_lt (Nat.lt_succ_of_lt l2)) (Nat.ne_of_lt (Nat.lt_of_lt_of_le l3 (Nat.le_add_right _ _))), ⟨hz, hTI, ⟨_, _, _, hTO⟩, hit_new hi1, hit_new hi2, hit_new hi3⟩, fun b hb => ?_, hR⟩
  have hle : s.heap.objs.size ≤ b := by
    simp only [List.mem_cons, List.not_mem_nil, or_false] at hb
    rcases hb with e | e | e | e | e | e <;> rw [e] <;> first | exact Nat.le_add_right _ _ | exact Nat.le_refl _
  exact I.fpOk hle (I.hok.fresh hle)
end
end Wv
namespace Wv
open PySem L2
/-- a zip, its tuple out or not -/
abbrev IsZ5 (h : Heap) (z TI TO : Addr) (f0 : Value) (f1 : Bool) : Prop :=
  h.get? z = some { cls := .type "zip", dict := none, data := .fields #[f0, .bool f1, .bool false, .ref TI, .ref TO], slots := #[] }
def ZOut (v : Value) : Prop := v = .none ∨ ∃ n : Nat, v = rawInt n
section
variable {prog : Program} {w : World} {A : Around} {E : Value → Shared → Prop} {s : Shared} {z TI TO i1 i2 i3 : Addr} {fp1 fp2 fp3 : List Addr} {n1 n2 n3 : Nat} {P1 P2 P3 : Nat → Value → Prop} {St1 St2 St3 : Nat → Heap → Prop} {i : Nat} {f0 a1 a2 a3 : Value} {f1 : Bool}
theorem z5_free {Q : Bool → Shared → Prop} (hz : IsZ5 s.heap z TI TO f0 f1) (hf : ZOut f0) (h1 : Q true s)
    (h2 : ∀ h', IsZ5 h' z TI TO f0 true → Heap.SameBut z s.heap h' → Q false { s with heap := h' }) : wpAny (model prog w) A (Builtin.SmallTypes.ownedTupleIsFree (.ref z)) Q E s := by
  unfold Builtin.SmallTypes.ownedTupleIsFree
  rcases hf with e | ⟨T, e⟩
  · subst e
    exact wpAny_bind (wpAny_field hz rfl (x := .none) rfl (wpAny_pure h1))
  · subst e
    refine wpAny_bind (wpAny_field hz rfl (x := rawInt T) rfl ?_)
    show wpAny _ _ (loadIfAlive ((T : Int).toNat) >>= _) _ _ _
    rw [Int.toNat_natCast]
    cases hT : s.heap.get? T with
    | none =>
      have hx : wpAny (model prog w) A (loadIfAlive T) (fun r s' => r = none ∧ s' = s) E s := fun _ _ _ => ⟨hT, rfl⟩
      refine wpAny_bind (wpAny_mono hx (fun r s' e => ?_) fun _ _ x => x)
      rw [e.1, e.2]
      exact wpAny_pure h1
    | some oT =>
      refine wpAny_bind (PySem.W.kdx_alive hT ?_)
      simp only [Option.isNone_some, Bool.false_eq_true, if_false]
      refine wpAny_bind (wpAny_field hz rfl (x := .bool f1) rfl ?_)
      cases f1 with
      | true =>
        rw [if_neg (show ¬ ((Value.bool true != Value.bool true) = true) from Bool.false_ne_true)]
        exact wpAny_pure (h2 s.heap hz (Heap.SameBut.refl _ _))
      | false =>
        rw [if_pos (show (Value.bool false != Value.bool true) = true from rfl)]
        exact wpAny_bind (wpAny_setField_rec hz (by simp) fun h₁ hz₁ hs₁ => wpAny_pure (h2 h₁ hz₁ hs₁))

theorem z5_next_item {Q : Value → Shared → Prop} (S : ZipSep3 z TI TO i1 i2 i3 fp1 fp2 fp3) (D1 : Draws prog w A i1 fp1 n1 P1 St1) (D2 : Draws prog w A i2 fp2 n2 P2 St2) (D3 : Draws prog w A i3 fp3 n3 P3 St3)
    (hz : IsZ5 s.heap z TI TO f0 f1) (hf : ZOut f0) (hTI : IsTupOf3 s.heap TI (.ref i1) (.ref i2) (.ref i3)) (hTO : IsTupOf3 s.heap TO a1 a2 a3) (st1 : St1 i s.heap) (st2 : St2 i s.heap) (st3 : St3 i s.heap) (hlt1 : i < n1) (hlt2 : i < n2) (hlt3 : i < n3)
    (hQ : ∀ x1 x2 x3 h' tk g0 g1, P1 i x1 → P2 i x2 → P3 i x3 → ZOut g0 → IsZ5 h' z TI TO g0 g1 → (∃ b1 b2 b3, IsTupOf3 h' TO b1 b2 b3) → St1 (i + 1) h' → St2 (i + 1) h' → St3 (i + 1) h' → IsTupOf3 h' s.heap.objs.size x1 x2 x3 → h'.objs.size = s.heap.objs.size + 1 →
      (∀ c o, c ≠ z → c ≠ TO → c ≠ i1 → c ≠ i2 → c ≠ i3 → s.heap.get? c = some o → h'.get? c = some o) → Q (.ref s.heap.objs.size) { s with heap := h', toks := tk }) :
    wpAny (model prog w) A (Builtin.«zip.__next__» ⟨[.ref z], []⟩) (fun fin s' => ∃ v, fin = .done (.ret v) ∧ Q v s') E s := by
  obtain ⟨hp, g, d, tk0, os⟩ := s
  show wpAny _ _ (field (.ref z) 2 >>= _) _ _ _
  refine wpAny_bind (wpAny_field hz rfl (x := .bool false) rfl ?_)
  show wpAny _ _ (field (.ref z) 3 >>= _) _ _ _
  refine wpAny_bind (wpAny_field hz rfl (x := .ref TI) rfl ?_)
  refine wpAny_bind (wpAny_seqItems hTI rfl ?_)
  show wpAny _ _ (Builtin.SmallTypes.ownedTupleIsFree (.ref z) >>= _) _ _ _
  refine wpAny_bind (z5_free hz hf ?_ ?_)
  · simp only [if_true]
    refine wpAny_bind (wpAny_rule ?_)
    refine wpAny_bind (wpAny_field hz rfl (x := .ref TO) rfl ?_)
    refine wpAny_bind (wpAny_setField_rec hz (by simp) fun g0 hz0 hs0 => ?_)
    replace hz0 : IsZ5 g0 z TI TO .ellipsis f1 := hz0
    replace hs0 : Heap.SameBut z hp g0 := hs0
    refine wpAny_bind ?_
    simp only [List.zipIdx_cons, List.zipIdx_nil, List.forIn_cons, List.forIn_nil]
    refine wpAny_bind (wpAny_bind (wpAny_onRaise ?_))
    show wpAny _ _ (Builtin.SmallTypes.nextOf (.ref i1) >>= _) _ _ ⟨g0, g, d, tk0, os⟩
    refine wpAny_bind (D1.item i _ _ _ hlt1 (D1.over st1 hs0 S.zf1) fun x1 p1 tk1 hx1 sn1 hp1 => wpAny_pure ?_)
    replace hp1 : Heap.SameBut i1 g0 p1 := hp1
    have hU1 : IsTupOf3 p1 TO a1 a2 a3 := hp1.extBut _ _ S.Ti1 (hs0.extBut _ _ S.TOz hTO)
    refine wpAny_bind (wpAny_seqItems (s := ⟨p1, g, d, tk1, os⟩) hU1 rfl ?_)
    refine wpAny_bind (updateSeq_IsTupOf3 (s := ⟨p1, g, d, tk1, os⟩) hU1 fun g1 hT1 hs1 => ?_)
    replace hT1 : IsTupOf3 g1 TO x1 a2 a3 := hT1
    replace hs1 : Heap.SameBut TO p1 g1 := hs1
    refine wpAny_bind (wpAny_letGo (wpAny_pure ?_))
    refine wpAny_bind (wpAny_bind (wpAny_onRaise ?_))
    show wpAny _ _ (Builtin.SmallTypes.nextOf (.ref i2) >>= _) _ _ ⟨g1, g, d, tk1, os⟩
    refine wpAny_bind (D2.item i _ _ _ hlt2 (D2.over (D2.over (D2.over st2 hs0 S.zf2) hp1 S.sep1_2) hs1 S.Tf2) fun x2 p2 tk2 hx2 sn2 hp2 => wpAny_pure ?_)
    replace hp2 : Heap.SameBut i2 g1 p2 := hp2
    have hU2 : IsTupOf3 p2 TO x1 a2 a3 := hp2.extBut _ _ S.Ti2 hT1
    refine wpAny_bind (wpAny_seqItems (s := ⟨p2, g, d, tk2, os⟩) hU2 rfl ?_)
    refine wpAny_bind (updateSeq_IsTupOf3 (s := ⟨p2, g, d, tk2, os⟩) hU2 fun g2 hT2 hs2 => ?_)
    replace hT2 : IsTupOf3 g2 TO x1 x2 a3 := hT2
    replace hs2 : Heap.SameBut TO p2 g2 := hs2
    refine wpAny_bind (wpAny_letGo (wpAny_pure ?_))
    refine wpAny_bind (wpAny_bind (wpAny_onRaise ?_))
    show wpAny _ _ (Builtin.SmallTypes.nextOf (.ref i3) >>= _) _ _ ⟨g2, g, d, tk2, os⟩
    refine wpAny_bind (D3.item i _ _ _ hlt3 (D3.over (D3.over (D3.over (D3.over (D3.over st3 hs0 S.zf3) hp1 S.sep1_3) hs1 S.Tf3) hp2 S.sep2_3) hs2 S.Tf3) fun x3 p3 tk3 hx3 sn3 hp3 => wpAny_pure ?_)
    replace hp3 : Heap.SameBut i3 g2 p3 := hp3
    have hU3 : IsTupOf3 p3 TO x1 x2 a3 := hp3.extBut _ _ S.Ti3 hT2
    refine wpAny_bind (wpAny_seqItems (s := ⟨p3, g, d, tk3, os⟩) hU3 rfl ?_)
    refine wpAny_bind (updateSeq_IsTupOf3 (s := ⟨p3, g, d, tk3, os⟩) hU3 fun g3 hT3 hs3 => ?_)
    replace hT3 : IsTupOf3 g3 TO x1 x2 x3 := hT3
    replace hs3 : Heap.SameBut TO p3 g3 := hs3
    refine wpAny_bind (wpAny_letGo (wpAny_pure (wpAny_pure ?_)))
    refine wpAny_bind (wpAny_seqItems (s := ⟨g3, g, d, tk3, os⟩) hT3 rfl ?_)
    refine wpAny_bind (wpAny_newTuple ?_)
    have hsz : g3.objs.size = hp.objs.size := by rw [hs3.1, hp3.1, hs2.1, hp2.1, hs1.1, hp1.1, hs0.1]
    have hzz : IsZ5 g3 z TI TO .ellipsis f1 := (hs3.extBut _ _ S.TOz.symm (hp3.extBut _ _ S.zi3 (hs2.extBut _ _ S.TOz.symm (hp2.extBut _ _ S.zi2 (hs1.extBut _ _ S.TOz.symm (hp1.extBut _ _ S.zi1 hz0))))))
    have hkk : ∀ c o, c ≠ z → c ≠ TO → c ≠ i1 → c ≠ i2 → c ≠ i3 → hp.get? c = some o → g3.get? c = some o := fun c o cz cT c1 c2 c3 e =>
      (hs3.extBut _ _ cT (hp3.extBut _ _ c3 (hs2.extBut _ _ cT (hp2.extBut _ _ c2 (hs1.extBut _ _ cT (hp1.extBut _ _ c1 (hs0.extBut _ _ cz e)))))))
    have hj1 : St1 (i + 1) g3 := (D1.over (D1.over (D1.over (D1.over (D1.over sn1 hs1 S.Tf1) hp2 S.sep2_1) hs2 S.Tf1) hp3 S.sep3_1) hs3 S.Tf1)
    have hj2 : St2 (i + 1) g3 := (D2.over (D2.over (D2.over sn2 hs2 S.Tf2) hp3 S.sep3_2) hs3 S.Tf2)
    have hj3 : St3 (i + 1) g3 := (D3.over sn3 hs3 S.Tf3)
    have hzlt : z < g3.objs.size := Heap.lt_size hzz
    show wpAny _ _ (Builtin.SmallTypes.ownedTupleHandOut (.ref z) (.ref g3.objs.size) >>= _) _ _ ⟨g3.push { cls := .type "tuple", data := .seq #[x1, x2, x3] }, g, d, tk3, os⟩
    refine wpAny_bind ?_
    unfold Builtin.SmallTypes.ownedTupleHandOut
    have hz₆ : IsZ5 (g3.push { cls := .type "tuple", data := .seq #[x1, x2, x3] }) z TI TO .ellipsis f1 := Heap.get?_push_of_some _ hzz
    refine wpAny_bind (wpAny_setField_rec hz₆ (by simp) fun h₇ hz₇ hs₇ => ?_)
    replace hz₇ : IsZ5 h₇ z TI TO (rawInt g3.objs.size) f1 := hz₇
    refine wpAny_setField_rec hz₇ (by simp) fun h₈ hz₈ hs₈ => ?_
    replace hz₈ : IsZ5 h₈ z TI TO (rawInt g3.objs.size) false := hz₈
    replace hs₇ : Heap.SameBut z (g3.push { cls := .type "tuple", data := .seq #[x1, x2, x3] }) h₇ := hs₇
    replace hs₈ : Heap.SameBut z h₇ h₈ := hs₈
    have up : ∀ c o, c ≠ z → g3.get? c = some o → h₈.get? c = some o := fun c o c1 e => hs₈.extBut _ _ c1 (hs₇.extBut _ _ c1 (Heap.get?_push_of_some _ e))
    have hT₈ : IsTupOf3 h₈ g3.objs.size x1 x2 x3 := hs₈.extBut _ _ (Nat.ne_of_gt hzlt) (hs₇.extBut _ _ (Nat.ne_of_gt hzlt) (Heap.get?_push_size _ rfl))
    have hz8 : h₈.objs.size = g3.objs.size + 1 := by rw [hs₈.1, hs₇.1, Heap.size_push]
    rw [hsz] at hz₈ hT₈ hz8
    refine wpAny_pure ⟨_, rfl, ?_⟩
    show Q (.ref g3.objs.size) ⟨h₈, g, d, tk3, os⟩
    rw [hsz]
    exact hQ x1 x2 x3 h₈ tk3 _ _ hx1 hx2 hx3 (.inr ⟨_, rfl⟩) hz₈ ⟨_, _, _, up _ _ S.TOz hT3⟩ (D1.frame _ _ _ hj1 fun b hb o e => up b o (fun q => S.zf1 (q ▸ hb)) e) (D2.frame _ _ _ hj2 fun b hb o e => up b o (fun q => S.zf2 (q ▸ hb)) e) (D3.frame _ _ _ hj3 fun b hb o e => up b o (fun q => S.zf3 (q ▸ hb)) e) hT₈ hz8 fun c o cz cT c1 c2 c3 e => up c o cz (hkk c o cz cT c1 c2 c3 e)
  · intro g0 hz0 hs0
    replace hs0 : Heap.SameBut z hp g0 := hs0
    simp only [Bool.false_eq_true, if_false]
    refine wpAny_bind ?_
    rw [← Array.forIn_toList]
    simp only [List.forIn_cons, List.forIn_nil]
    refine wpAny_bind (wpAny_bind (wpAny_holding ?_))
    show wpAny _ _ (Builtin.SmallTypes.nextOf (.ref i1) >>= _) _ _ ⟨g0, g, d, tk0, os⟩
    refine wpAny_bind (D1.item i _ _ _ hlt1 (D1.over st1 hs0 S.zf1) fun x1 p1 tk1 hx1 sn1 hp1 => wpAny_pure ?_)
    replace hp1 : Heap.SameBut i1 g0 p1 := hp1
    refine wpAny_pure ?_
    refine wpAny_bind (wpAny_bind (wpAny_holding ?_))
    show wpAny _ _ (Builtin.SmallTypes.nextOf (.ref i2) >>= _) _ _ ⟨p1, g, d, tk1, os⟩
    refine wpAny_bind (D2.item i _ _ _ hlt2 (D2.over (D2.over st2 hs0 S.zf2) hp1 S.sep1_2) fun x2 p2 tk2 hx2 sn2 hp2 => wpAny_pure ?_)
    replace hp2 : Heap.SameBut i2 p1 p2 := hp2
    refine wpAny_pure ?_
    refine wpAny_bind (wpAny_bind (wpAny_holding ?_))
    show wpAny _ _ (Builtin.SmallTypes.nextOf (.ref i3) >>= _) _ _ ⟨p2, g, d, tk2, os⟩
    refine wpAny_bind (D3.item i _ _ _ hlt3 (D3.over (D3.over (D3.over st3 hs0 S.zf3) hp1 S.sep1_3) hp2 S.sep2_3) fun x3 p3 tk3 hx3 sn3 hp3 => wpAny_pure ?_)
    replace hp3 : Heap.SameBut i3 p2 p3 := hp3
    refine wpAny_pure (wpAny_pure ?_)
    show wpAny _ _ (newTuple [x1, x2, x3] >>= _) _ _ ⟨p3, g, d, tk3, os⟩
    refine wpAny_bind (wpAny_newTuple ?_)
    have hsz : p3.objs.size = hp.objs.size := by rw [hp3.1, hp2.1, hp1.1, hs0.1]
    have hkk : ∀ c o, c ≠ z → c ≠ i1 → c ≠ i2 → c ≠ i3 → hp.get? c = some o → p3.get? c = some o := fun c o cz c1 c2 c3 e =>
      hp3.extBut _ _ c3 (hp2.extBut _ _ c2 (hp1.extBut _ _ c1 (hs0.extBut _ _ cz e)))
    have hzz : IsZ5 p3 z TI TO f0 true := hp3.extBut _ _ S.zi3 (hp2.extBut _ _ S.zi2 (hp1.extBut _ _ S.zi1 hz0))
    have hj1 : St1 (i + 1) p3 := D1.over (D1.over sn1 hp2 S.sep2_1) hp3 S.sep3_1
    have hj2 : St2 (i + 1) p3 := D2.over sn2 hp3 S.sep3_2
    refine wpAny_pure ⟨_, rfl, ?_⟩
    show Q (.ref p3.objs.size) ⟨p3.push { cls := .type "tuple", data := .seq #[x1, x2, x3] }, g, d, tk3, os⟩
    have hT8 : IsTupOf3 (p3.push { cls := .type "tuple", data := .seq #[x1, x2, x3] }) p3.objs.size x1 x2 x3 := Heap.get?_push_size _ rfl
    have hz8 : (p3.push { cls := .type "tuple", data := .seq #[x1, x2, x3] }).objs.size = p3.objs.size + 1 := Heap.size_push ..
    rw [hsz] at hT8 hz8 ⊢
    exact hQ x1 x2 x3 _ tk3 _ _ hx1 hx2 hx3 hf (Heap.get?_push_of_some _ hzz) ⟨_, _, _, Heap.get?_push_of_some _ (hkk _ _ S.TOz S.Ti1 S.Ti2 S.Ti3 hTO)⟩ (D1.frame _ _ _ hj1 fun b hb o e => Heap.get?_push_of_some _ e)
      (D2.frame _ _ _ hj2 fun b hb o e => Heap.get?_push_of_some _ e) (D3.frame _ _ _ sn3 fun b hb o e => Heap.get?_push_of_some _ e) hT8 hz8 fun c o cz cT c1 c2 c3 e => Heap.get?_push_of_some _ (hkk c o cz c1 c2 c3 e)
theorem z5_next_end {Q : Fin → Shared → Prop} (S : ZipSep3 z TI TO i1 i2 i3 fp1 fp2 fp3) (D1 : Draws prog w A i1 fp1 n1 P1 St1) (D2 : Draws prog w A i2 fp2 n2 P2 St2) (D3 : Draws prog w A i3 fp3 n3 P3 St3)
    (hz : IsZ5 s.heap z TI TO f0 f1) (hf : ZOut f0) (hTI : IsTupOf3 s.heap TI (.ref i1) (.ref i2) (.ref i3)) (hTO : IsTupOf3 s.heap TO a1 a2 a3) (st1 : St1 i s.heap) (st2 : St2 i s.heap) (st3 : St3 i s.heap) (hle1 : i ≤ n1) (hle2 : i ≤ n2) (hle3 : i ≤ n3) (hend : i = n1 ∨ i = n2 ∨ i = n3)
    (hE : ∀ h' tk e, (∀ c o, c ≠ z → c ≠ TO → c ≠ i1 → c ≠ i2 → c ≠ i3 → s.heap.get? c = some o → h'.get? c = some o) → (∃ o, h'.get? e = some o ∧ o.cls = .type "StopIteration") → E (.ref e) { s with heap := h', toks := tk }) :
    wpAny (model prog w) A (Builtin.«zip.__next__» ⟨[.ref z], []⟩) Q E s := by
  obtain ⟨hp, g, d, tk0, os⟩ := s
  show wpAny _ _ (field (.ref z) 2 >>= _) _ _ _
  refine wpAny_bind (wpAny_field hz rfl (x := .bool false) rfl ?_)
  show wpAny _ _ (field (.ref z) 3 >>= _) _ _ _
  refine wpAny_bind (wpAny_field hz rfl (x := .ref TI) rfl ?_)
  refine wpAny_bind (wpAny_seqItems hTI rfl ?_)
  show wpAny _ _ (Builtin.SmallTypes.ownedTupleIsFree (.ref z) >>= _) _ _ _
  refine wpAny_bind (z5_free hz hf ?_ ?_)
  · simp only [if_true]
    refine wpAny_bind (wpAny_rule ?_)
    refine wpAny_bind (wpAny_field hz rfl (x := .ref TO) rfl ?_)
    refine wpAny_bind (wpAny_setField_rec hz (by simp) fun g0 hz0 hs0 => ?_)
    replace hz0 : IsZ5 g0 z TI TO .ellipsis f1 := hz0
    replace hs0 : Heap.SameBut z hp g0 := hs0
    refine wpAny_bind ?_
    simp only [List.zipIdx_cons, List.zipIdx_nil, List.forIn_cons, List.forIn_nil]
    refine wpAny_bind (wpAny_bind (wpAny_onRaise ?_))
    show wpAny _ _ (Builtin.SmallTypes.nextOf (.ref i1) >>= _) _ _ ⟨g0, g, d, tk0, os⟩
    by_cases hlt1 : i < n1
    · refine wpAny_bind (D1.item i _ _ _ hlt1 (D1.over st1 hs0 S.zf1) fun x1 p1 tk1 hx1 sn1 hp1 => wpAny_pure ?_)
      replace hp1 : Heap.SameBut i1 g0 p1 := hp1
      have hU1 : IsTupOf3 p1 TO a1 a2 a3 := hp1.extBut _ _ S.Ti1 (hs0.extBut _ _ S.TOz hTO)
      refine wpAny_bind (wpAny_seqItems (s := ⟨p1, g, d, tk1, os⟩) hU1 rfl ?_)
      refine wpAny_bind (updateSeq_IsTupOf3 (s := ⟨p1, g, d, tk1, os⟩) hU1 fun g1 hT1 hs1 => ?_)
      replace hT1 : IsTupOf3 g1 TO x1 a2 a3 := hT1
      replace hs1 : Heap.SameBut TO p1 g1 := hs1
      refine wpAny_bind (wpAny_letGo (wpAny_pure ?_))
      refine wpAny_bind (wpAny_bind (wpAny_onRaise ?_))
      show wpAny _ _ (Builtin.SmallTypes.nextOf (.ref i2) >>= _) _ _ ⟨g1, g, d, tk1, os⟩
      by_cases hlt2 : i < n2
      · refine wpAny_bind (D2.item i _ _ _ hlt2 (D2.over (D2.over (D2.over st2 hs0 S.zf2) hp1 S.sep1_2) hs1 S.Tf2) fun x2 p2 tk2 hx2 sn2 hp2 => wpAny_pure ?_)
        replace hp2 : Heap.SameBut i2 g1 p2 := hp2
        have hU2 : IsTupOf3 p2 TO x1 a2 a3 := hp2.extBut _ _ S.Ti2 hT1
        refine wpAny_bind (wpAny_seqItems (s := ⟨p2, g, d, tk2, os⟩) hU2 rfl ?_)
        refine wpAny_bind (updateSeq_IsTupOf3 (s := ⟨p2, g, d, tk2, os⟩) hU2 fun g2 hT2 hs2 => ?_)
        replace hT2 : IsTupOf3 g2 TO x1 x2 a3 := hT2
        replace hs2 : Heap.SameBut TO p2 g2 := hs2
        refine wpAny_bind (wpAny_letGo (wpAny_pure ?_))
        have hi3 : i = n3 := by omega
        refine wpAny_bind (wpAny_bind (wpAny_onRaise ?_))
        show wpAny _ _ (Builtin.SmallTypes.nextOf (.ref i3) >>= _) _ _ ⟨g2, g, d, tk2, os⟩
        refine wpAny_bind (D3.done ⟨g2, g, d, tk2, os⟩ _ _ (by rw [← hi3]; exact (D3.over (D3.over (D3.over (D3.over (D3.over st3 hs0 S.zf3) hp1 S.sep1_3) hs1 S.Tf3) hp2 S.sep2_3) hs2 S.Tf3)) fun q e hq he => ?_)
        replace hq : Heap.ExtBut i3 g2 q := hq
        obtain ⟨oe, hoe, hce⟩ := he
        replace hoe : q.get? e = some oe := hoe
        have hzq : IsZ5 q z TI TO .ellipsis f1 := hq _ _ S.zi3 (hs2.extBut _ _ S.TOz.symm (hp2.extBut _ _ S.zi2 (hs1.extBut _ _ S.TOz.symm (hp1.extBut _ _ S.zi1 hz0))))
        have hez : e ≠ z := fun x => by subst x; rw [hzq] at hoe; cases hoe; simp at hce
        refine wpAny_setField_rec (s := ⟨q, g, d, tk2, os⟩) hzq (by simp) fun q' _ hq' => ?_
        replace hq' : Heap.SameBut z q q' := hq'
        exact hE q' tk2 e (fun c o cz cT c1 c2 c3 x => hq'.extBut _ _ cz (hq _ _ c3 (hs2.extBut _ _ cT (hp2.extBut _ _ c2 (hs1.extBut _ _ cT (hp1.extBut _ _ c1 (hs0.extBut _ _ cz x))))))) ⟨oe, hq'.extBut _ _ hez hoe, hce⟩
      · have hi2 : i = n2 := by omega
        refine wpAny_bind (D2.done ⟨g1, g, d, tk1, os⟩ _ _ (by rw [← hi2]; exact (D2.over (D2.over (D2.over st2 hs0 S.zf2) hp1 S.sep1_2) hs1 S.Tf2)) fun q e hq he => ?_)
        replace hq : Heap.ExtBut i2 g1 q := hq
        obtain ⟨oe, hoe, hce⟩ := he
        replace hoe : q.get? e = some oe := hoe
        have hzq : IsZ5 q z TI TO .ellipsis f1 := hq _ _ S.zi2 (hs1.extBut _ _ S.TOz.symm (hp1.extBut _ _ S.zi1 hz0))
        have hez : e ≠ z := fun x => by subst x; rw [hzq] at hoe; cases hoe; simp at hce
        refine wpAny_setField_rec (s := ⟨q, g, d, tk1, os⟩) hzq (by simp) fun q' _ hq' => ?_
        replace hq' : Heap.SameBut z q q' := hq'
        exact hE q' tk1 e (fun c o cz cT c1 c2 c3 x => hq'.extBut _ _ cz (hq _ _ c2 (hs1.extBut _ _ cT (hp1.extBut _ _ c1 (hs0.extBut _ _ cz x))))) ⟨oe, hq'.extBut _ _ hez hoe, hce⟩
    · have hi1 : i = n1 := by omega
      refine wpAny_bind (D1.done ⟨g0, g, d, tk0, os⟩ _ _ (by rw [← hi1]; exact (D1.over st1 hs0 S.zf1)) fun q e hq he => ?_)
      replace hq : Heap.ExtBut i1 g0 q := hq
      obtain ⟨oe, hoe, hce⟩ := he
      replace hoe : q.get? e = some oe := hoe
      have hzq : IsZ5 q z TI TO .ellipsis f1 := hq _ _ S.zi1 hz0
      have hez : e ≠ z := fun x => by subst x; rw [hzq] at hoe; cases hoe; simp at hce
      refine wpAny_setField_rec (s := ⟨q, g, d, tk0, os⟩) hzq (by simp) fun q' _ hq' => ?_
      replace hq' : Heap.SameBut z q q' := hq'
      exact hE q' tk0 e (fun c o cz cT c1 c2 c3 x => hq'.extBut _ _ cz (hq _ _ c1 (hs0.extBut _ _ cz x))) ⟨oe, hq'.extBut _ _ hez hoe, hce⟩
  · intro g0 hz0 hs0
    replace hs0 : Heap.SameBut z hp g0 := hs0
    simp only [Bool.false_eq_true, if_false]
    refine wpAny_bind ?_
    rw [← Array.forIn_toList]
    simp only [List.forIn_cons, List.forIn_nil]
    refine wpAny_bind (wpAny_bind (wpAny_holding ?_))
    show wpAny _ _ (Builtin.SmallTypes.nextOf (.ref i1) >>= _) _ _ ⟨g0, g, d, tk0, os⟩
    by_cases hlt1 : i < n1
    · refine wpAny_bind (D1.item i _ _ _ hlt1 (D1.over st1 hs0 S.zf1) fun x1 p1 tk1 hx1 sn1 hp1 => wpAny_pure ?_)
      replace hp1 : Heap.SameBut i1 g0 p1 := hp1
      refine wpAny_pure ?_
      refine wpAny_bind (wpAny_bind (wpAny_holding ?_))
      show wpAny _ _ (Builtin.SmallTypes.nextOf (.ref i2) >>= _) _ _ ⟨p1, g, d, tk1, os⟩
      by_cases hlt2 : i < n2
      · refine wpAny_bind (D2.item i _ _ _ hlt2 (D2.over (D2.over st2 hs0 S.zf2) hp1 S.sep1_2) fun x2 p2 tk2 hx2 sn2 hp2 => wpAny_pure ?_)
        replace hp2 : Heap.SameBut i2 p1 p2 := hp2
        refine wpAny_pure ?_
        refine wpAny_bind (wpAny_bind (wpAny_holding ?_))
        show wpAny _ _ (Builtin.SmallTypes.nextOf (.ref i3) >>= _) _ _ ⟨p2, g, d, tk2, os⟩
        have hi3 : i = n3 := by omega
        refine wpAny_bind (D3.done ⟨p2, g, d, tk2, os⟩ _ _ (by rw [← hi3]; exact D3.over (D3.over (D3.over st3 hs0 S.zf3) hp1 S.sep1_3) hp2 S.sep2_3) fun q e hq he => ?_)
        exact hE q tk2 e (fun c o cz cT c1 c2 c3 x => hq _ _ c3 (hp2.extBut _ _ c2 (hp1.extBut _ _ c1 (hs0.extBut _ _ cz x)))) he
      · have hi2 : i = n2 := by omega
        refine wpAny_bind (D2.done ⟨p1, g, d, tk1, os⟩ _ _ (by rw [← hi2]; exact D2.over (D2.over st2 hs0 S.zf2) hp1 S.sep1_2) fun q e hq he => ?_)
        exact hE q tk1 e (fun c o cz cT c1 c2 c3 x => hq _ _ c2 (hp1.extBut _ _ c1 (hs0.extBut _ _ cz x))) he
    · have hi1 : i = n1 := by omega
      refine wpAny_bind (D1.done ⟨g0, g, d, tk0, os⟩ _ _ (by rw [← hi1]; exact (D1.over st1 hs0 S.zf1)) fun q e hq he => ?_)
      exact hE q tk0 e (fun c o cz cT c1 c2 c3 x => hq _ _ c1 (hs0.extBut _ _ cz x)) he
theorem z5_pyNext_item {Q : Option Value → Shared → Prop} (S : ZipSep3 z TI TO i1 i2 i3 fp1 fp2 fp3) (D1 : Draws prog w A.in1 i1 fp1 n1 P1 St1) (D2 : Draws prog w A.in1 i2 fp2 n2 P2 St2) (D3 : Draws prog w A.in1 i3 fp3 n3 P3 St3)
    (hz : IsZ5 s.heap z TI TO f0 f1) (hf : ZOut f0) (hTI : IsTupOf3 s.heap TI (.ref i1) (.ref i2) (.ref i3)) (hTO : IsTupOf3 s.heap TO a1 a2 a3) (st1 : St1 i s.heap) (st2 : St2 i s.heap) (st3 : St3 i s.heap) (hlt1 : i < n1) (hlt2 : i < n2) (hlt3 : i < n3)
    (hQ : ∀ x1 x2 x3 h' tk g0 g1, P1 i x1 → P2 i x2 → P3 i x3 → ZOut g0 → IsZ5 h' z TI TO g0 g1 → (∃ b1 b2 b3, IsTupOf3 h' TO b1 b2 b3) → St1 (i + 1) h' → St2 (i + 1) h' → St3 (i + 1) h' → IsTupOf3 h' s.heap.objs.size x1 x2 x3 → h'.objs.size = s.heap.objs.size + 1 →
      (∀ c o, c ≠ z → c ≠ TO → c ≠ i1 → c ≠ i2 → c ≠ i3 → s.heap.get? c = some o → h'.get? c = some o) → Q (some (.ref s.heap.objs.size)) { s with heap := h', toks := tk }) :
    wpAny (model prog w) A (pyNext (.ref z)) Q E s := by
  have hT : s.TypeIs (.ref z) "zip" := ⟨_, hz, rfl⟩
  unfold pyNext
  exact wpAny_bind (wpAny_attempt (wpAny_callSpecial?_slot (name := Str.ofString "__next__") hT F.slot_zip_next
    (wpAny_call_entry F.slot_zip_next hT F.entry_zip_next
      (z5_next_item S D1 D2 D3 hz hf hTI hTO st1 st2 st3 hlt1 hlt2 hlt3 fun x1 x2 x3 h' tk g0 g1 y1 y2 y3 zo b1 b2 d1 d2 d3 b5 b6 b7 => wpAny_pure (hQ x1 x2 x3 h' tk g0 g1 y1 y2 y3 zo b1 b2 d1 d2 d3 b5 b6 b7)) (F.args_zip_next_1 _))))
theorem z5_pyNext_end {Q : Option Value → Shared → Prop} (S : ZipSep3 z TI TO i1 i2 i3 fp1 fp2 fp3) (D1 : Draws prog w A.in1 i1 fp1 n1 P1 St1) (D2 : Draws prog w A.in1 i2 fp2 n2 P2 St2) (D3 : Draws prog w A.in1 i3 fp3 n3 P3 St3)
    (hz : IsZ5 s.heap z TI TO f0 f1) (hf : ZOut f0) (hTI : IsTupOf3 s.heap TI (.ref i1) (.ref i2) (.ref i3)) (hTO : IsTupOf3 s.heap TO a1 a2 a3) (st1 : St1 i s.heap) (st2 : St2 i s.heap) (st3 : St3 i s.heap) (hle1 : i ≤ n1) (hle2 : i ≤ n2) (hle3 : i ≤ n3) (hend : i = n1 ∨ i = n2 ∨ i = n3)
    (hQ : ∀ h' tk, (∀ c o, c ≠ z → c ≠ TO → c ≠ i1 → c ≠ i2 → c ≠ i3 → s.heap.get? c = some o → h'.get? c = some o) → Q none { s with heap := h', toks := tk }) : wpAny (model prog w) A (pyNext (.ref z)) Q E s := by
  have hT : s.TypeIs (.ref z) "zip" := ⟨_, hz, rfl⟩
  unfold pyNext
  refine wpAny_bind (wpAny_attempt (wpAny_callSpecial?_slot (name := Str.ofString "__next__") hT F.slot_zip_next
    (wpAny_call_entry F.slot_zip_next hT F.entry_zip_next (z5_next_end S D1 D2 D3 hz hf hTI hTO st1 st2 st3 hle1 hle2 hle3 hend fun h' tk e hk he => ?_) (F.args_zip_next_1 _))))
  obtain ⟨o, ho, hc⟩ := he
  refine wpAny_bind (wpAny_isInstance (T := "StopIteration") (b := true) ⟨o, ho, hc⟩ isSubtype_stop ?_)
  exact wpAny_pure (hQ _ _ hk)
theorem z5_pyIter {Q : Value → Shared → Prop} (hz : IsZ5 s.heap z TI TO f0 f1) (h : Q (.ref z) s) : wpAny (model prog w) A (pyIter (.ref z)) Q E s := by
  have hT : s.TypeIs (.ref z) "zip" := ⟨_, hz, rfl⟩
  refine wpAny_pyIter_slot hT F.slot_zip_iter (wpAny_call_entry F.slot_zip_iter hT F.entry_zip_iter ?_ (F.args_zip_iter_1 _))
  show wpAny _ _ (ret (.ref z)) _ _ s
  exact wpAny_pure ⟨_, rfl, "zip", _, hT, F.slot_zip_next.lookup, h⟩
end
theorem turn_zip3N {P : Program} {w : World} {K : PySem.W.Frag} {nx : Str} {np : Pos} {q1 q2 q3 : Bool × Addr} {z TI TO i1 i2 i3 : Addr} (D : ZipSep3 z TI TO i1 i2 i3 [i1, q1.2] [i2, q2.2] [i3, q3.2]) (e1 : q1.2 ≠ i1) (e2 : q2.2 ≠ i2) (e3 : q3.2 ≠ i3) :
    Turn P w K (.Name nx np) (ItM (fun H x => Sq K H q1 x.1 ∧ Sq K H q2 x.2.1 ∧ Sq K H q3 x.2.2) (fun x => min (min x.1.length x.2.1.length) x.2.2.length) mkZ3) [z, TI, TO, i1, i2, i3] z
      (fun i h => ∃ f0 f1, ZOut f0 ∧ IsZ5 h z TI TO f0 f1 ∧ IsTupOf3 h TI (.ref i1) (.ref i2) (.ref i3) ∧ (∃ a1 a2 a3, IsTupOf3 h TO a1 a2 a3) ∧ HIt h q1 i1 i ∧ HIt h q2 i2 i ∧ HIt h q3 i3 i) where
  mem := by simp
  obj := fun i h st b hb => by
    obtain ⟨f0, f1, zo, hz, hTI, ⟨a1, a2, a3, hTO⟩, h1, h2, h3⟩ := st
    simp only [List.mem_cons, List.not_mem_nil, or_false] at hb
    rcases hb with e | e | e | e | e | e
    · rw [e]; exact ⟨_, hz, fun v q => nomatch q⟩
    · rw [e]; exact ⟨_, hTI, fun v q => nomatch q⟩
    · rw [e]; exact ⟨_, hTO, fun v q => nomatch q⟩
    · rw [e]; exact hit_obj h1
    · rw [e]; exact hit_obj h2
    · rw [e]; exact hit_obj h3
  keep := fun i h h' st k => by
    obtain ⟨f0, f1, zo, hz, hTI, ⟨a1, a2, a3, hTO⟩, h1, h2, h3⟩ := st
    exact ⟨f0, f1, zo, k z (by simp) _ hz, k TI (by simp) _ hTI, ⟨a1, a2, a3, k TO (by simp) _ hTO⟩, hit_keep h1 fun o y => k i1 (by simp) o y, hit_keep h2 fun o y => k i2 (by simp) o y, hit_keep h3 fun o y => k i3 (by simp) o y⟩
  self := fun A i s Q E st h => by
    obtain ⟨f0, f1, zo, hz, _⟩ := st
    exact z5_pyIter hz h
  item := by
    intro X hP hw hK hc i pins s σ H E I hf st hg
    obtain ⟨x, hx, hi'⟩ := hg
    have hi : i < min (min x.1.length x.2.1.length) x.2.2.length := hi'
    subst hP hw hK
    obtain ⟨its1, rv1, hs1⟩ := sq_get I hx.1
    obtain ⟨its2, rv2, hs2⟩ := sq_get I hx.2.1
    obtain ⟨its3, rv3, hs3⟩ := sq_get I hx.2.2
    have D1 := sq_draws (P := X.prog) (w := X.w) (A := X.A.in1) (q := q1) (I.ok.hd hc) i1 e1 its1.toArray
    have D2 := sq_draws (P := X.prog) (w := X.w) (A := X.A.in1) (q := q2) (I.ok.hd hc) i2 e2 its2.toArray
    have D3 := sq_draws (P := X.prog) (w := X.w) (A := X.A.in1) (q := q3) (I.ok.hd hc) i3 e3 its3.toArray
    rw [show its1.toArray.size = x.1.length by rw [List.size_toArray, rv1.length]] at D1
    rw [show its2.toArray.size = x.2.1.length by rw [List.size_toArray, rv2.length]] at D2
    rw [show its3.toArray.size = x.2.2.length by rw [List.size_toArray, rv3.length]] at D3
    obtain ⟨f0, f1, zo, hz, hTI, ⟨a1, a2, a3, hTO⟩, h1, h2, h3⟩ := st
    have hzl : z < s.heap.objs.size := Heap.lt_size hz
    refine z5_pyNext_item D D1 D2 D3 hz zo hTI hTO ⟨h1, hs1⟩ ⟨h2, hs2⟩ ⟨h3, hs3⟩ (by omega) (by omega) (by omega) fun x1 x2 x3 h' tk g0 g1 p1 p2 p3 zo' hz' hTO' t1 t2 t3 hT hsz hk => ?_
    refine ⟨_, rfl, wpAny_pure ?_⟩
    have fr : ∀ b o, b ∉ [z, TO, i1, i2, i3] → s.heap.get? b = some o → h'.get? b = some o := fun b o hb e => hk b o (fun q => hb (by simp [q])) (fun q => hb (by simp [q])) (fun q => hb (by simp [q])) (fun q => hb (by simp [q])) (fun q => hb (by simp [q])) e
    have sub : ∀ b ∈ [z, TO, i1, i2, i3], b ∈ [z, TI, TO, i1, i2, i3] := fun b hb => by
      simp only [List.mem_cons, List.not_mem_nil, or_false] at hb ⊢
      rcases hb with e | e | e | e | e <;> simp [e]
    have new : ObjOk X.prog X.w (upd H s.heap.objs.size (.tup (mkZ3 x i))) h' s.heap.objs.size (.tup (mkZ3 x i)) :=
      ⟨(by show 3 ≤ sizeLine; decide), [x1, x2, x3], .cons (vals_at rv1 p1) (.cons (vals_at rv2 p2) (.cons (vals_at rv3 p3) .nil)), ⟨_, hT, rfl, _, rfl⟩⟩
    have I1 : Inv X pins σ (upd H s.heap.objs.size (.tup (mkZ3 x i))) { s with heap := h', toks := tk } := I.turnedNew (ch := [z, TO, i1, i2, i3]) fr (fun b hb => hf b (sub b hb)) (Nat.le_refl _) new
    refine ⟨.ref s.heap.objs.size, _, I1, rfl, ⟨_, rfl, I.hok.fresh (Nat.le_refl _), fun y hy => ?_⟩, ⟨g0, g1, zo', hz', ?_, hTO', t1.1, t2.1, t3.1⟩, fun b hb => ?_⟩
    · rw [Prod.ext (sq_inj I hy.1 hx.1) (Prod.ext (sq_inj I hy.2.1 hx.2.1) (sq_inj I hy.2.2 hx.2.2))]
    · exact hk _ _ D.TIz D.TITO D.TIi1 D.TIi2 D.TIi3 hTI
    · have hlt : b < s.heap.objs.size := by
        simp only [List.mem_cons, List.not_mem_nil, or_false] at hb
        rcases hb with e | e | e | e | e | e
        · rw [e]; exact hzl
        · rw [e]; exact Heap.lt_size hTI
        · rw [e]; exact Heap.lt_size hTO
        · rw [e]; obtain ⟨o, ho, _⟩ := hit_obj h1; exact Heap.lt_size ho
        · rw [e]; obtain ⟨o, ho, _⟩ := hit_obj h2; exact Heap.lt_size ho
        · rw [e]; obtain ⟨o, ho, _⟩ := hit_obj h3; exact Heap.lt_size ho
      rw [upd_ne (Nat.ne_of_lt hlt)]
      exact (hf b hb).1
  done := by
    intro X hP hw hK hc i pins s σ H E I hf st hg
    obtain ⟨x, hx, hi'⟩ := hg
    have hi : i = min (min x.1.length x.2.1.length) x.2.2.length := hi'
    subst hP hw hK
    obtain ⟨its1, rv1, hs1⟩ := sq_get I hx.1
    obtain ⟨its2, rv2, hs2⟩ := sq_get I hx.2.1
    obtain ⟨its3, rv3, hs3⟩ := sq_get I hx.2.2
    have D1 := sq_draws (P := X.prog) (w := X.w) (A := X.A.in1) (q := q1) (I.ok.hd hc) i1 e1 its1.toArray
    have D2 := sq_draws (P := X.prog) (w := X.w) (A := X.A.in1) (q := q2) (I.ok.hd hc) i2 e2 its2.toArray
    have D3 := sq_draws (P := X.prog) (w := X.w) (A := X.A.in1) (q := q3) (I.ok.hd hc) i3 e3 its3.toArray
    rw [show its1.toArray.size = x.1.length by rw [List.size_toArray, rv1.length]] at D1
    rw [show its2.toArray.size = x.2.1.length by rw [List.size_toArray, rv2.length]] at D2
    rw [show its3.toArray.size = x.2.2.length by rw [List.size_toArray, rv3.length]] at D3
    obtain ⟨f0, f1, zo, hz, hTI, ⟨a1, a2, a3, hTO⟩, h1, h2, h3⟩ := st
    have sub : ∀ b ∈ [z, TO, i1, i2, i3], b ∈ [z, TI, TO, i1, i2, i3] := fun b hb => by
      simp only [List.mem_cons, List.not_mem_nil, or_false] at hb ⊢
      rcases hb with e | e | e | e | e <;> simp [e]
    refine z5_pyNext_end D D1 D2 D3 hz zo hTI hTO ⟨h1, hs1⟩ ⟨h2, hs2⟩ ⟨h3, hs3⟩ (by omega) (by omega) (by omega) (by omega) fun h' tk hk => ⟨rfl, I.turnedL (t' := tk) (ch := [z, TO, i1, i2, i3]) (fun b o hb e => hk b o (fun q => hb (by simp [q])) (fun q => hb (by simp [q])) (fun q => hb (by simp [q])) (fun q => hb (by simp [q])) (fun q => hb (by simp [q])) e) fun b hb => hf b (sub b hb)⟩
section
variable {X : Cx} {pins : List (Addr × Obj)} {σ : St} {H : Hp} {s : Shared}
theorem zip3N_starts {q1 q2 q3 : Bool × Addr} {xs ys zs : List V} {nx : Str} {np : Pos} {R : It → Hp → Prop} (I : Inv X pins σ H s) (h1 : Sq X.K H q1 xs) (h2 : Sq X.K H q2 ys) (h3 : Sq X.K H q3 zs)
    (hR : R (ItM (fun H x => Sq X.K H q1 x.1 ∧ Sq X.K H q2 x.2.1 ∧ Sq X.K H q3 x.2.2) (fun x => min (min x.1.length x.2.1.length) x.2.2.length) mkZ3) H) :
    wpAny (model X.prog X.w) X.A (call (.type "zip") [.ref q1.2, .ref q2.2, .ref q3.2]) (fun v s1 => wpAny (model X.prog X.w) X.A (pyIter v) (PIE X pins σ (.Name nx np) R) X.xe s1) X.xe s := by
  obtain ⟨its1, rv1, hs1⟩ := sq_get I h1
  obtain ⟨its2, rv2, hs2⟩ := sq_get I h2
  obtain ⟨its3, rv3, hs3⟩ := sq_get I h3
  have l1 := hsq_lt hs1
  have l2 := hsq_lt hs2
  have l3 := hsq_lt hs3
  refine zip_begins3 (sq_begins q1 its1.toArray) (sq_begins q2 its2.toArray) (sq_begins q3 its3.toArray) hs1 hs2 hs3 fun h' hz hTI hTO hi1 hi2 hi3 hsz hk => wpAny_pyIter_zip hz ?_
  have I2 : Inv X pins σ H { s with heap := h' } := I.kept (t' := s.toks) hk
  refine ⟨s.heap.objs.size + 5, _, _, _, H, rfl, I2, turn_zip3N (q1 := q1) (q2 := q2) (q3 := q3) (zip_sep3 (by simpa using l1) (by simpa using l2) (by simpa using l3)) (Nat.ne_of_lt l1) (Nat.ne_of_lt (Nat.lt_succ_of_lt l2)) (Nat.ne_of_lt (Nat.lt_of_lt_of_le l3 (Nat.le_add_right _ _))), ⟨_, _, .inl rfl, hz, hTI, ⟨_, _, _, hTO⟩, hit_new hi1, hit_new hi2, hit_new hi3⟩, fun b hb => ?_, hR⟩
  have hle : s.heap.objs.size ≤ b := by
    simp only [List.mem_cons, List.not_mem_nil, or_false] at hb
    rcases hb with e | e | e | e | e | e <;> rw [e] <;> first | exact Nat.le_add_right _ _ | exact Nat.le_refl _
  exact I.fpOk hle (I.hok.fresh hle)
end
end Wv
namespace Wv
open PySem L2
section
variable {G : Cfg} {p : Pg} {n : Nat} {g : Bool} {X : Cx} {W : WX} {B : Bs} {U : Wd} {env : Ev} {fs : FS} {hs : List (V × R)} {σ : St} {H : Hp} {pos : Pos} {pins : List (Addr × Obj)} {s : Shared} {P : Prm}
/-- J walks xs while vs are looked at as ds -/
def ItOk (G : Cfg) (J : It) (vs : List V) (ds xs : List D) : Prop := ∀ U H, RepBs G U H vs ds → ∀ i : Nat,
  (∀ x, xs[i]? = some x → J.go i H ∧ ∀ v H', J.yld i H v H' → ∀ (B : Bs) (env : Ev) (fs : FS) (hs : List (V × R)) (σ : St), Rel G B U env fs hs σ H → ∃ U', Rel G B U' env fs ((v, .fz x) :: hs) σ H') ∧
  (i = xs.length → J.stop i H)
/-- what an iterable is made of, and its items -/
def evX (P : Prm) (it : E) : Ev → FS → Out (List R × List D × List D) := fun env s => (evI P it env s).bnd fun rs s => need (dvs s rs) fun ds => need (itD it ds) fun xs => .ok (rs, ds, xs) s
def tI (G : Cfg) (W : WX) (m : Ev → FS → Out (List R × List D × List D)) : TI := fun σ H Q => ∃ B U env fs hs, Rel G B U env fs hs σ H ∧
  Post G W B env hs σ (fun q fs' => ∀ U' H' vs J, Rel G B U' env fs' hs σ H' → RepRs G U' H' vs q.1 → dvs fs' q.1 = some q.2.1 → ItOk G J vs q.2.1 q.2.2 → Q J H') (m env fs)
theorem _root_.L2.PI.imp {C : Cx} {tg e : Expr} {t t' : TI} (h : PI C tg e t) (q : ∀ σ H Q, t' σ H Q → t σ H Q) : PI C tg e t' := ⟨fun pins s σ H Q I y => h.run pins s σ H Q I (q σ H Q y)⟩
/-- the made-of parts have come -/
def KI (G : Cfg) (W : WX) (σ : St) (it : E) (vs : List V) (H : Hp) (Q : It → Hp → Prop) : Prop :=
  ∃ B U env fs hs rs ds xs, Rel G B U env fs hs σ H ∧ RepRs G U H vs rs ∧ RepBs G U H vs ds ∧ itD it ds = some xs ∧ ∀ J, ItOk G J vs ds xs → Q J H
theorem ki_of {it : E} {es : E} {Q : It → Hp → Prop} (e : ∀ env s, evI P it env s = evs P es env s) (h : tI G W (evX P it) σ H Q) : tA G W (evs P es) σ H fun vs H1 => KI G W σ it vs H1 Q := by
  obtain ⟨B, U, env, fs, hs, g0, y⟩ := h
  unfold evX at y
  rw [e] at y
  refine ⟨B, U, env, fs, hs, g0, y.bnd.imp fun rs s1 y vs U1 H1 g1 hl => ?_⟩
  obtain ⟨ds, ed, y⟩ := y.need
  obtain ⟨xs, ex, y⟩ := y.need
  have rr := g1.heldAll hl
  exact ⟨B, U1, env, s1, hs, rs, ds, xs, g1.dropN, rr, g1.looks rr ed, ex, fun J hJ => y U1 H1 vs J g1.dropN rr ed hJ⟩
theorem ki_one {it a : E} {Q : It → Hp → Prop} (e : ∀ env s, evI P it env s = (ev P a env s).bnd fun r s => .ok [r] s) (h : tI G W (evX P it) σ H Q) : tE G W (ev P a) σ H fun v H1 => KI G W σ it [v] H1 Q := by
  obtain ⟨B, U, env, fs, hs, g0, y⟩ := h
  unfold evX at y
  rw [e] at y
  refine ⟨B, U, env, fs, hs, g0, y.bnd.bnd.imp fun r s1 y v U1 H1 g1 => ?_⟩
  have y : Post G W B env hs σ _ (need (dvs s1 [r]) fun ds => need (itD it ds) fun xs => .ok ([r], ds, xs) s1) := y
  obtain ⟨ds, ed, y⟩ := y.need
  obtain ⟨xs, ex, y⟩ := y.need
  have rr : RepRs G U1 H1 [v] [r] := .cons g1.top .nil
  exact ⟨B, U1, env, s1, hs, [r], ds, xs, g1.drop, rr, g1.looks rr ed, ex, fun J hJ => y U1 H1 [v] J g1.drop rr ed hJ⟩

theorem seq_cases (hK : X.K = G.K) {v : V} {d : D} {ds : List D} (e : itvD d = some ds) (b : RepB G U H v d) : ∃ q : Bool × Addr, v = .ref q.2 ∧ (∀ U H, RepB G U H v d → ∃ vs, Sq X.K H q vs ∧ Reps G U.F U.mu H vs ds) := by
  unfold itvD at e
  split at e
  · cases e
    obtain ⟨a, vs, e1, _⟩ := b.tup
    refine ⟨(true, a), e1, fun U H b => ?_⟩
    obtain ⟨a', vs', e2, _, e3, r⟩ := b.tup
    rw [e1] at e2
    cases e2
    exact ⟨vs', by unfold Sq; rw [if_pos rfl]; exact .of e3, r⟩
  · cases e
    obtain ⟨a, vs, e1, _⟩ := b.lst
    refine ⟨(false, a), e1, fun U H b => ?_⟩
    obtain ⟨a', vs', e2, e3, r⟩ := b.lst
    rw [e1] at e2
    cases e2
    exact ⟨vs', by unfold Sq; rw [if_neg Bool.false_ne_true]; exact .of e3, r⟩
  · cases e
theorem Reps.at {F : Addr → Prop} {mu : List Addr} {vs : List V} {ds : List D} (r : Reps G F mu H vs ds) {i : Nat} {d : D} (h : ds[i]? = some d) : vs[i]? = some (vs.getD i .non) ∧ Rep G F mu H (vs.getD i .non) d := by
  obtain ⟨v, e1, e2⟩ := r.get' h
  rw [List.getD_eq_getElem?_getD, e1]
  exact ⟨rfl, e2⟩
def itSq (K : PySem.W.Frag) (q : Bool × Addr) : It := if q.1 = true then Itt K q.2 else Itl K q.2
theorem itSq_go {K : PySem.W.Frag} {q : Bool × Addr} {xs : List V} {x : V} {i : Nat} (h : Sq K H q xs) (e : xs[i]? = some x) : (itSq K q).go i H := by
  unfold Sq at h
  unfold itSq
  split at h
  · rename_i z
    rw [if_pos z]
    exact ⟨xs, x, h, e⟩
  · rename_i z
    rw [if_neg z]
    exact ⟨xs, x, h, e⟩
theorem itSq_yld {K : PySem.W.Frag} {q : Bool × Addr} {xs : List V} {x : V} {H' : Hp} {i : Nat} (h : Sq K H q xs) (y : (itSq K q).yld i H x H') : H' = H ∧ xs[i]? = some x := by
  unfold Sq at h
  unfold itSq at y
  split at h
  · rename_i z
    rw [if_pos z] at y
    exact ⟨y.1, y.2 xs h⟩
  · rename_i z
    rw [if_neg z] at y
    exact ⟨y.1, y.2 xs h⟩
theorem itSq_stop {K : PySem.W.Frag} {q : Bool × Addr} {xs : List V} {i : Nat} (h : Sq K H q xs) (e : xs.length ≤ i) : (itSq K q).stop i H := by
  unfold Sq at h
  unfold itSq
  split at h
  · rename_i z
    rw [if_pos z]
    exact ⟨xs, h, e⟩
  · rename_i z
    rw [if_neg z]
    exact ⟨xs, h, e⟩
theorem sq_starts {q : Bool × Addr} {xs : List V} {tg : Expr} {R : It → Hp → Prop} (I : Inv X pins σ H s) (h : Sq X.K H q xs) (hR : R (itSq X.K q) H) : wpAny (model X.prog X.w) X.A (pyIter (.ref q.2)) (PIE X pins σ tg R) X.xe s := by
  unfold Sq at h
  unfold itSq at hR
  split at h
  · rename_i z
    rw [if_pos z] at hR
    obtain ⟨its, rv, p, hz⟩ := I.tuple h
    refine wpAny_pyIter_tuple (show s.heap.IsTuple q.2 its.toArray from p) ?_
    refine ⟨s.heap.objs.size, [s.heap.objs.size], _, _, H, rfl, I.kept (t' := s.toks) fun b o e => Heap.get?_push_of_some _ e, turn_tuple q.2 _, ⟨_, Heap.get?_push_size _ rfl, rfl, rfl⟩, fun b hb => ?_, hR⟩
    have e : b = s.heap.objs.size := by simpa using hb
    subst e
    exact I.fpOk (Nat.le_refl _) (I.hok.fresh (Nat.le_refl _))
  · rename_i z
    rw [if_neg z] at hR
    obtain ⟨its, rv, p, hz⟩ := I.list h
    refine wpAny_pyIter_list p.isList ?_
    refine ⟨s.heap.objs.size, [s.heap.objs.size], _, _, H, rfl, I.kept (t' := s.toks) fun b o e => Heap.get?_push_of_some _ e, turn_list q.2 _, ⟨_, Heap.get?_push_size _ rfl, rfl, rfl⟩, fun b hb => ?_, hR⟩
    have e : b = s.heap.objs.size := by simpa using hb
    subst e
    exact I.fpOk (Nat.le_refl _) (I.hok.fresh (Nat.le_refl _))
theorem si_seq (o : XOk G p n g X W) {tg e : Expr} {ee : E} (h : PE X e (tE G W (ev P ee))) : PI X tg e (tI G W (evX P (.cons ee .nil))) := by
  refine ⟨fun pins s σ H Q I hq => ?_⟩
  refine thn (h.run pins s σ H _ I (ki_one (fun _ _ => rfl) hq)) fun u s1 ⟨v, H1, I1, rv, B, U, env, fs, hs, rs, ds, xs, g1, rr, L, ex, q⟩ => ?_
  cases L with
  | cons b t =>
    cases t
    rename_i d
    have ex : itvD d = some xs := ex
    obtain ⟨z, e1, look⟩ := seq_cases o.K ex b
    subst e1
    obtain rfl : u = Value.ref z.2 := rv
    obtain ⟨vs, hs1, _⟩ := look U H1 b
    refine sq_starts I1 hs1 (q _ fun U H L i => ?_)
    cases L with
    | cons b t =>
      cases t
      obtain ⟨vs, hs2, r2⟩ := look U H b
      refine ⟨fun x hx => ?_, fun hi => itSq_stop hs2 (by rw [r2.length]; exact Nat.le_of_eq hi.symm)⟩
      obtain ⟨e2, e3⟩ := Reps.at r2 hx
      refine ⟨itSq_go hs2 e2, fun v H' y B env fs hs σ g => ?_⟩
      obtain ⟨e4, e5⟩ := itSq_yld hs2 y
      subst e4
      rw [e2] at e5
      cases e5
      exact ⟨U, g.push (r := .fz x) e3⟩
theorem rng_at {lo : Int} {m i : Nat} {x : D} (h : ((List.range m).map fun (j : Nat) => D.int (lo + (j : Int)))[i]? = some x) : i < m ∧ x = .int (lo + (i : Nat)) := by
  rw [List.getElem?_map] at h
  by_cases hi : i < m
  · rw [List.getElem?_range hi] at h
    cases h
    exact ⟨hi, rfl⟩
  · rw [List.getElem?_eq_none (by rw [List.length_range]; omega)] at h
    cases h
theorem itr_ok {lo : Int} {m : Nat} {vs : List V} {ds : List D} : ItOk G (Itr lo m) vs ds ((List.range m).map fun (j : Nat) => D.int (lo + (j : Int))) := fun U H L i => by
  refine ⟨fun x hx => ?_, fun hi => ?_⟩
  · obtain ⟨h1, h2⟩ := rng_at hx
    subst h2
    refine ⟨h1, fun v H' y B env fs hs σ g => ?_⟩
    obtain ⟨e1, e2⟩ := y
    subst e1 e2
    exact ⟨U, g.push (r := .fz (.int _)) (.int _)⟩
  · rw [hi, List.length_map, List.length_range]
    exact Nat.le_refl _
theorem ki_two {it a b : E} {Q : It → Hp → Prop} (e : ∀ env s, evI P it env s = (ev P a env s).bnd fun r s => (ev P b env s).bnd fun q s => .ok [r, q] s) (h : tI G W (evX P it) σ H Q) :
    tE G W (ev P a) σ H fun v H1 => tE G W (ev P b) σ H1 fun w H2 => KI G W σ it [v, w] H2 Q := by
  obtain ⟨B, U, env, fs, hs, g0, y⟩ := h
  unfold evX at y
  rw [e, Out.bnd_bnd] at y
  refine ⟨B, U, env, fs, hs, g0, y.bnd.imp fun r s1 y v U1 H1 g1 => ⟨B, U1, env, s1, (v, r) :: hs, g1, ?_⟩⟩
  rw [Out.bnd_bnd] at y
  refine (y.bnd.imp fun q s2 y w U2 H2 g2 => ?_).less fun z hz => List.mem_cons_of_mem _ hz
  have y : Post G W B env hs σ _ (need (dvs s2 [r, q]) fun ds => need (itD it ds) fun xs => .ok ([r, q], ds, xs) s2) := y
  obtain ⟨ds, ed, y⟩ := y.need
  obtain ⟨xs, ex, y⟩ := y.need
  have rr : RepRs G U2 H2 [v, w] [r, q] := .cons g2.drop.top (.cons g2.top .nil)
  exact ⟨B, U2, env, s2, hs, [r, q], ds, xs, g2.drop.drop, rr, g2.looks rr ed, ex, fun J hJ => y U2 H2 [v, w] J g2.drop.drop rr ed hJ⟩
theorem ki_three {it a b c : E} {Q : It → Hp → Prop} (e : ∀ env s, evI P it env s = (ev P a env s).bnd fun r s => (ev P b env s).bnd fun q s => (ev P c env s).bnd fun t s => .ok [r, q, t] s) (h : tI G W (evX P it) σ H Q) :
    tE G W (ev P a) σ H fun v H1 => tE G W (ev P b) σ H1 fun w H2 => tE G W (ev P c) σ H2 fun u H3 => KI G W σ it [v, w, u] H3 Q := by
  obtain ⟨B, U, env, fs, hs, g0, y⟩ := h
  unfold evX at y
  rw [e, Out.bnd_bnd] at y
  refine ⟨B, U, env, fs, hs, g0, y.bnd.imp fun r s1 y v U1 H1 g1 => ⟨B, U1, env, s1, (v, r) :: hs, g1, ?_⟩⟩
  rw [Out.bnd_bnd] at y
  refine (y.bnd.imp fun q s2 y w U2 H2 g2 => ⟨B, U2, env, s2, (w, q) :: (v, r) :: hs, g2, ?_⟩).less fun z hz => List.mem_cons_of_mem _ hz
  rw [Out.bnd_bnd] at y
  refine (y.bnd.imp fun t s3 y u U3 H3 g3 => ?_).less fun z hz => List.mem_cons_of_mem _ (List.mem_cons_of_mem _ hz)
  have y : Post G W B env hs σ _ (need (dvs s3 [r, q, t]) fun ds => need (itD it ds) fun xs => .ok ([r, q, t], ds, xs) s3) := y
  obtain ⟨ds, ed, y⟩ := y.need
  obtain ⟨xs, ex, y⟩ := y.need
  have rr : RepRs G U3 H3 [v, w, u] [r, q, t] := .cons g3.drop.drop.top (.cons g3.drop.top (.cons g3.top .nil))
  exact ⟨B, U3, env, s3, hs, [r, q, t], ds, xs, g3.drop.drop.drop, rr, g3.looks rr ed, ex, fun J hJ => y U3 H3 [v, w, u] J g3.drop.drop.drop rr ed hJ⟩
theorem evs_two {a b : E} : evs P (.cons a (.cons b .nil)) env fs = (ev P a env fs).bnd fun r s => (ev P b env s).bnd fun q s => .ok [r, q] s := by
  show (ev P a env fs).bnd (fun x s => ((ev P b env s).bnd fun y s => (Out.ok [] s).bnd fun xs s => .ok (y :: xs) s).bnd fun xs s => .ok (x :: xs) s) = _
  congr 1
  funext x s
  rw [Out.bnd_bnd]
  rfl
theorem evs_three {a b c : E} : evs P (.cons a (.cons b (.cons c .nil))) env fs = (ev P a env fs).bnd fun r s => (ev P b env s).bnd fun q s => (ev P c env s).bnd fun t s => .ok [r, q, t] s := by
  show (ev P a env fs).bnd (fun x s => (evs P (.cons b (.cons c .nil)) env s).bnd fun xs s => .ok (x :: xs) s) = _
  congr 1
  funext x s
  rw [evs_two, Out.bnd_bnd]
  congr 1
  funext y s
  rw [Out.bnd_bnd]
  rfl
theorem rng_one {d : D} {xs : List D} (h : rngD [d] = some xs) : ∃ m : Int, d = .int m ∧ -(2 ^ 62) ≤ m ∧ m ≤ 1000000 ∧ xs = (List.range m.toNat).map fun (i : Nat) => D.int (i : Int) := by
  unfold rngD at h
  split at h
  · rename_i m z
    cases z
    split at h
    · rename_i hm
      exact ⟨m, rfl, hm.1, hm.2, (Option.some.inj h).symm⟩
    · cases h
  · rename_i z
    cases z
  · cases h
theorem rng_two {d e : D} {xs : List D} (h : rngD [d, e] = some xs) : ∃ i j : Int, d = .int i ∧ e = .int j ∧ (-(2 ^ 62) ≤ i ∧ i < 2 ^ 62 ∧ -(2 ^ 62) ≤ j ∧ j < 2 ^ 62) ∧ j - i ≤ 1000000 ∧ xs = (List.range (j - i).toNat).map fun (k : Nat) => D.int (i + (k : Int)) := by
  unfold rngD at h
  split at h
  · rename_i z
    cases z
  · rename_i i j z
    cases z
    split at h
    · rename_i hm
      exact ⟨i, j, rfl, rfl, ⟨hm.1, hm.2.1, hm.2.2.1, hm.2.2.2.1⟩, hm.2.2.2.2, (Option.some.inj h).symm⟩
    · cases h
  · cases h
theorem si_rng1 (o : XOk G p n g X W) {tg a : Expr} {ea : E} {q : Pos} (hg : Gl X "range") (ha : PE X a (tE G W (ev P ea))) (hs : noStar a = true) : PI X tg (.Call (.Name "range" q) [a] [] pos) (tI G W (evX P (.rng (.cons ea .nil)))) :=
  (pi_range1 hg (by rw [o.mg]; exact o.pg.free _ (by decide)) (pa_cons ha pa_nil (star_no hs)) (star_no hs)).imp fun σ H Q h => tE_mono (ki_one (fun _ _ => rfl) h) fun v H1 ⟨B, U, env, fs, hs, rs, ds, xs, g1, rr, L, ex, q⟩ => by
    cases L with
    | cons b t =>
      cases t
      obtain ⟨m, e1, h1, h2, e2⟩ := rng_one ex
      subst e1 e2
      refine ⟨m, by rw [b.int], h1, by omega, q _ ?_⟩
      have z := itr_ok (G := G) (lo := 0) (m := m.toNat) (vs := [v]) (ds := [D.int m])
      have e : (fun (j : Nat) => D.int (0 + (j : Int))) = fun (j : Nat) => D.int (j : Int) := by funext j; rw [Int.zero_add]
      rw [e] at z
      exact z
theorem si_rng2 (o : XOk G p n g X W) {tg a b : Expr} {ea eb : E} {q : Pos} (hg : Gl X "range") (ha : PE X a (tE G W (ev P ea))) (hb : PE X b (tE G W (ev P eb))) (hs : noStar a = true) (hs2 : noStar b = true) :
    PI X tg (.Call (.Name "range" q) [a, b] [] pos) (tI G W (evX P (.rng (.cons ea (.cons eb .nil))))) :=
  (pi_range2 hg (by rw [o.mg]; exact o.pg.free _ (by decide)) (pa_cons ha (pa_cons hb pa_nil (star_no hs2)) (star_no hs)) (by rw [star_no hs, star_no hs2]; rfl) (by rw [star_no hs2]; rfl)).imp fun σ H Q h => tE_mono (ki_two (it := .rng (.cons ea (.cons eb .nil))) (fun _ _ => evs_two) h) fun v H1 h1 => tE_mono h1 fun w H2 ⟨B, U, env, fs, hs, rs, ds, xs, g1, rr, L, ex, q⟩ => by
    cases L with
    | cons b1 t =>
      cases t with
      | cons b2 t =>
        cases t
        obtain ⟨i, j, e1, e2, h1, h2, e3⟩ := rng_two ex
        subst e1 e2 e3
        exact ⟨i, j, by rw [b1.int, b2.int], h1, q _ itr_ok⟩
theorem zip_boot : bootBuiltins "zip" = some (.type "zip") := by decide +kernel
theorem enumerate_boot : bootBuiltins "enumerate" = some (.type "enumerate") := by decide +kernel
theorem itm_ok {α : Type} {S : Hp → α → Prop} {len : α → Nat} {mk : α → Nat → List V} {vs : List V} {ds : List D} {its : List (List D)}
    (h : ∀ U H, RepBs G U H vs ds → ∃ x, S H x ∧ len x = its.length ∧ ∀ (i : Nat) ys, its[i]? = some ys → Reps G U.F U.mu H (mk x i) ys) : ItOk G (ItM S len mk) vs ds (its.map D.tup) := fun U H L i => by
  obtain ⟨x, hx, hl, hm⟩ := h U H L
  refine ⟨fun y hy => ?_, fun hi => ⟨x, hx, by rw [hl, hi, List.length_map]⟩⟩
  rw [List.getElem?_map] at hy
  cases z : its[i]? with
  | none =>
    rw [z] at hy
    cases hy
  | some ys =>
    rw [z] at hy
    cases hy
    refine ⟨⟨x, hx, by rw [hl]; exact (List.getElem?_eq_some_iff.mp z).1⟩, fun v H' y B env fs hs σ g => ?_⟩
    obtain ⟨T, e1, hT, e2⟩ := y
    subst e1
    rw [e2 x hx]
    exact g.made (o := .tup (mk x i)) (d := .tup ys) hT fun F' f fp m => .tup ⟨fp, upd_same⟩ ((hm i ys z).imp fun v d y => m y)
theorem si_enu (o : XOk G p n g X W) {a : Expr} {ea : E} {q tpos : Pos} {elts : List Expr} {kk : Nat} (hg : Gl X "enumerate") (ha : PE X a (tE G W (ev P ea))) (hs : noStar a = true) :
    PI X (.Tuple elts kk tpos) (.Call (.Name "enumerate" q) [a] [] pos) (tI G W (evX P (.enu ea))) := by
  refine ⟨fun pins s σ H Q I hq => ?_⟩
  have hq2 : tCons (tE G W (ev P ea)) tNil σ H (fun vs H1 => KI G W σ (.enu ea) vs H1 Q) := tE_mono (ki_one (fun _ _ => rfl) hq) fun v H1 h => h
  refine wpAny_Call_Name_kw (ld_blt I hg (by rw [o.mg]; exact o.pg.free _ (by decide)) enumerate_boot (PyProof.Rows.callWith_type1 (thn ((pa_cons ha pa_nil (star_no hs)).run pos pins s σ H _ I hq2) fun us s1 ⟨vs, H1, I1, rv, B, U, env, fs, hs, rs, ds, xs, g1, rr, L, ex, q⟩ => ?_) (star_no hs) rfl))
  cases L with
  | nil => cases ex
  | cons b t =>
    cases t with
    | cons b2 t => cases ex
    | nil =>
      rename_i d
      have ex : enuD d = some xs := ex
      unfold enuD at ex
      cases ei : itvD d with
      | none =>
        rw [ei] at ex
        cases ex
      | some ys =>
        rw [ei] at ex
        obtain rfl := Option.some.inj ex
        obtain ⟨z, e1, look⟩ := seq_cases o.K ei b
        subst e1
        obtain ⟨u, e2, ru⟩ := vals1 rv
        subst e2
        obtain rfl : u = Value.ref z.2 := ru
        obtain ⟨ws, hs1, _⟩ := look U H1 b
        refine enum_starts I1 hs1 (q _ ?_)
        have e3 : (ys.zipIdx.map fun p => D.tup [.int p.2, p.1]) = (ys.zipIdx.map fun p => [D.int p.2, p.1]).map D.tup := by rw [List.map_map]; rfl
        show ItOk G _ _ _ (ys.zipIdx.map fun p => D.tup [.int p.2, p.1])
        rw [e3]
        refine itm_ok fun U H L => ?_
        cases L with
        | cons b t =>
          obtain ⟨ws, hs2, r2⟩ := look U H b
          refine ⟨ws, hs2, by rw [List.length_map, List.length_zipIdx, r2.length], fun i zs hz => ?_⟩
          rw [List.getElem?_map] at hz
          cases e4 : ys.zipIdx[i]? with
          | none =>
            rw [e4] at hz
            cases hz
          | some pr =>
            rw [e4] at hz
            cases hz
            rw [List.getElem?_zipIdx] at e4
            cases e5 : ys[i]? with
            | none =>
              rw [e5] at e4
              cases e4
            | some y =>
              rw [e5] at e4
              cases e4
              refine .cons ?_ (.cons (Reps.at r2 e5).2 .nil)
              have e6 : ((0 + i : Nat) : Int) = (i : Int) := by rw [Nat.zero_add]
              rw [e6]
              exact .int _
theorem zip_two {d e : D} {xs : List D} (h : zipD [d, e] = some xs) : ∃ ys zs, itvD d = some ys ∧ itvD e = some zs ∧ xs = ((ys.zip zs).map fun p => [p.1, p.2]).map D.tup := by
  have h : (match itvD d, itvD e with
    | some xs, some ys => some ((xs.zip ys).map fun p => D.tup [p.1, p.2])
    | _, _ => none) = some xs := h
  split at h
  · rename_i ys zs e1 e2
    refine ⟨ys, zs, e1, e2, ?_⟩
    rw [← Option.some.inj h, List.map_map]
    rfl
  · cases h
theorem zip_three {d e f : D} {xs : List D} (h : zipD [d, e, f] = some xs) : ∃ ys zs ws, itvD d = some ys ∧ itvD e = some zs ∧ itvD f = some ws ∧ xs = ((ys.zip (zs.zip ws)).map fun p => [p.1, p.2.1, p.2.2]).map D.tup := by
  have h : (match itvD d, itvD e, itvD f with
    | some xs, some ys, some zs => some ((xs.zip (ys.zip zs)).map fun p => D.tup [p.1, p.2.1, p.2.2])
    | _, _, _ => none) = some xs := h
  split at h
  · rename_i ys zs ws e1 e2 e3
    refine ⟨ys, zs, ws, e1, e2, e3, ?_⟩
    rw [← Option.some.inj h, List.map_map]
    rfl
  · cases h
theorem si_zip2 (o : XOk G p n g X W) {a b : Expr} {ea eb : E} {q tpos : Pos} {elts : List Expr} {kk : Nat} (hg : Gl X "zip") (ha : PE X a (tE G W (ev P ea))) (hb : PE X b (tE G W (ev P eb))) (hs : noStar a = true) (hs2 : noStar b = true) :
    PI X (.Tuple elts kk tpos) (.Call (.Name "zip" q) [a, b] [] pos) (tI G W (evX P (.zip (.cons ea (.cons eb .nil))))) := by
  refine ⟨fun pins s σ H Q I hq => ?_⟩
  have hq2 : tCons (tE G W (ev P ea)) (tCons (tE G W (ev P eb)) tNil) σ H (fun vs H1 => ∃ v w, vs = [v, w] ∧ KI G W σ (.zip (.cons ea (.cons eb .nil))) [v, w] H1 Q) :=
    tE_mono (ki_two (it := .zip (.cons ea (.cons eb .nil))) (fun _ _ => evs_two) hq) fun v H1 h => tE_mono h fun w H2 h => ⟨v, w, rfl, h⟩
  refine wpAny_Call_Name_kw (ld_blt I hg (by rw [o.mg]; exact o.pg.free _ (by decide)) zip_boot (PyProof.Rows.callWith_type1 (thn ((pa_cons ha (pa_cons hb pa_nil (star_no hs2)) (star_no hs)).run pos pins s σ H _ I hq2) fun us s1 ⟨vs, H1, I1, rv, v, w, ev1, B, U, env, fs, hs, rs, ds, xs, g1, rr, L, ex, q⟩ => ?_) (star_no hs) (by rw [star_no hs2]; rfl)))
  subst ev1
  obtain ⟨u1, u2, eu, ru1, ru2⟩ := vals2 rv
  subst eu
  cases L with
  | cons b1 t =>
  cases t with
  | cons b2 t =>
  cases t
  obtain ⟨ys, zs, ei, ej, e3⟩ := zip_two ex
  obtain ⟨z1, e1, look1⟩ := seq_cases o.K ei b1
  obtain ⟨z2, e2, look2⟩ := seq_cases o.K ej b2
  subst e1 e2
  obtain rfl : u1 = Value.ref z1.2 := ru1
  obtain rfl : u2 = Value.ref z2.2 := ru2
  obtain ⟨ws1, hs1, _⟩ := look1 U H1 b1
  obtain ⟨ws2, hs2, _⟩ := look2 U H1 b2
  refine zip2_starts I1 hs1 hs2 (q _ ?_)
  rw [e3]
  refine itm_ok fun U H L => ?_
  obtain ⟨v, w, ev1, b1, b2⟩ := L.two
  cases ev1
  obtain ⟨vs1, h1, r1⟩ := look1 U H b1
  obtain ⟨vs2, h2, r2⟩ := look2 U H b2
  refine ⟨(vs1, vs2), ⟨h1, h2⟩, by rw [List.length_map, List.length_zip, r1.length, r2.length], fun i us hz => ?_⟩
  rw [List.getElem?_map] at hz
  cases e4 : (ys.zip zs)[i]? with
  | none =>
    rw [e4] at hz
    cases hz
  | some pr =>
    rw [e4] at hz
    cases hz
    obtain ⟨y1, y2⟩ := List.getElem?_zip_eq_some.mp e4
    exact .cons (Reps.at r1 y1).2 (.cons (Reps.at r2 y2).2 .nil)
theorem si_zip3G (o : XOk G p n g X W) {tg : Expr} (start : ∀ (pins : List (Addr × Obj)) (σ : St) (H : Hp) (s : Shared) (q1 q2 q3 : Bool × Addr) (xs ys zs : List V) (R : It → Hp → Prop), Inv X pins σ H s → Sq X.K H q1 xs → Sq X.K H q2 ys → Sq X.K H q3 zs →
      R (ItM (fun H x => Sq X.K H q1 x.1 ∧ Sq X.K H q2 x.2.1 ∧ Sq X.K H q3 x.2.2) (fun x => min (min x.1.length x.2.1.length) x.2.2.length) mkZ3) H →
      wpAny (model X.prog X.w) X.A (call (.type "zip") [.ref q1.2, .ref q2.2, .ref q3.2]) (fun v s1 => wpAny (model X.prog X.w) X.A (pyIter v) (PIE X pins σ tg R) X.xe s1) X.xe s)
    {a b c : Expr} {ea eb ec : E} {q : Pos} (hg : Gl X "zip") (ha : PE X a (tE G W (ev P ea))) (hb : PE X b (tE G W (ev P eb))) (hc : PE X c (tE G W (ev P ec))) (hs : noStar a = true) (hs2 : noStar b = true) (hs3 : noStar c = true) :
    PI X tg (.Call (.Name "zip" q) [a, b, c] [] pos) (tI G W (evX P (.zip (.cons ea (.cons eb (.cons ec .nil)))))) := by
  refine ⟨fun pins s σ H Q I hq => ?_⟩
  have hq2 : tCons (tE G W (ev P ea)) (tCons (tE G W (ev P eb)) (tCons (tE G W (ev P ec)) tNil)) σ H (fun vs H1 => ∃ v w u, vs = [v, w, u] ∧ KI G W σ (.zip (.cons ea (.cons eb (.cons ec .nil)))) [v, w, u] H1 Q) :=
    tE_mono (ki_three (it := .zip (.cons ea (.cons eb (.cons ec .nil)))) (fun _ _ => evs_three) hq) fun v H1 h => tE_mono h fun w H2 h => tE_mono h fun u H3 h => ⟨v, w, u, rfl, h⟩
  refine wpAny_Call_Name_kw (ld_blt I hg (by rw [o.mg]; exact o.pg.free _ (by decide)) zip_boot (PyProof.Rows.callWith_type1 (thn ((pa_cons ha (pa_cons hb (pa_cons hc pa_nil (star_no hs3)) (star_no hs2)) (star_no hs)).run pos pins s σ H _ I hq2) fun us s1 ⟨vs, H1, I1, rv, v, w, u, ev1, B, U, env, fs, hs, rs, ds, xs, g1, rr, L, ex, q⟩ => ?_) (star_no hs) (by rw [star_no hs2, star_no hs3]; rfl)))
  subst ev1
  cases rv with
  | cons ru1 t =>
  cases t with
  | cons ru2 t =>
  cases t with
  | cons ru3 t =>
  cases t
  cases L with
  | cons b1 t =>
  cases t with
  | cons b2 t =>
  cases t with
  | cons b3 t =>
  cases t
  obtain ⟨ys, zs, qs, ei, ej, ek, e3⟩ := zip_three ex
  obtain ⟨z1, e1, look1⟩ := seq_cases o.K ei b1
  obtain ⟨z2, e2, look2⟩ := seq_cases o.K ej b2
  obtain ⟨z3, e4, look3⟩ := seq_cases o.K ek b3
  subst e1 e2 e4
  cases ru1
  cases ru2
  cases ru3
  obtain ⟨ws1, hs1, _⟩ := look1 U H1 b1
  obtain ⟨ws2, hs2, _⟩ := look2 U H1 b2
  obtain ⟨ws3, hs3, _⟩ := look3 U H1 b3
  refine start _ _ _ _ _ _ _ _ _ _ _ I1 hs1 hs2 hs3 (q _ ?_)
  rw [e3]
  refine itm_ok fun U H L => ?_
  cases L with
  | cons b1 t =>
  cases t with
  | cons b2 t =>
  cases t with
  | cons b3 t =>
  obtain ⟨vs1, h1, r1⟩ := look1 U H b1
  obtain ⟨vs2, h2, r2⟩ := look2 U H b2
  obtain ⟨vs3, h3, r3⟩ := look3 U H b3
  refine ⟨(vs1, vs2, vs3), ⟨h1, h2, h3⟩, by rw [List.length_map, List.length_zip, List.length_zip, r1.length, r2.length, r3.length, Nat.min_assoc], fun i us hz => ?_⟩
  rw [List.getElem?_map] at hz
  cases e4 : (ys.zip (zs.zip qs))[i]? with
  | none =>
    rw [e4] at hz
    cases hz
  | some pr =>
    rw [e4] at hz
    cases hz
    obtain ⟨y1, y2⟩ := List.getElem?_zip_eq_some.mp e4
    obtain ⟨y2, y3⟩ := List.getElem?_zip_eq_some.mp y2
    exact .cons (Reps.at r1 y1).2 (.cons (Reps.at r2 y2).2 (.cons (Reps.at r3 y3).2 .nil))

theorem si_zip3 (o : XOk G p n g X W) {a b c : Expr} {ea eb ec : E} {q tpos : Pos} {elts : List Expr} {kk : Nat} (hg : Gl X "zip") (ha : PE X a (tE G W (ev P ea))) (hb : PE X b (tE G W (ev P eb))) (hc : PE X c (tE G W (ev P ec))) (hs : noStar a = true) (hs2 : noStar b = true) (hs3 : noStar c = true) :
    PI X (.Tuple elts kk tpos) (.Call (.Name "zip" q) [a, b, c] [] pos) (tI G W (evX P (.zip (.cons ea (.cons eb (.cons ec .nil)))))) :=
  si_zip3G o (fun _ _ _ _ _ _ _ _ _ _ _ I h1 h2 h3 hR => zip3_starts I h1 h2 h3 hR) hg ha hb hc hs hs2 hs3
theorem si_zip3n (o : XOk G p n g X W) {a b c : Expr} {ea eb ec : E} {q np : Pos} {nx : Str} (hg : Gl X "zip") (ha : PE X a (tE G W (ev P ea))) (hb : PE X b (tE G W (ev P eb))) (hc : PE X c (tE G W (ev P ec))) (hs : noStar a = true) (hs2 : noStar b = true) (hs3 : noStar c = true) :
    PI X (.Name nx np) (.Call (.Name "zip" q) [a, b, c] [] pos) (tI G W (evX P (.zip (.cons ea (.cons eb (.cons ec .nil)))))) :=
  si_zip3G o (fun _ _ _ _ _ _ _ _ _ _ _ I h1 h2 h3 hR => zip3N_starts I h1 h2 h3 hR) hg ha hb hc hs hs2 hs3

/-- the store of a tree in names -/
def gT (G : Cfg) (tg : Tg) : TG := fun v σ H Q => ∃ B U env env' fs hs d, Rel G B U env fs ((v, .fz d) :: hs) σ H ∧ asgT tg d env = some env' ∧
  ∀ σ', Rel G B U env' fs hs σ' H → (∀ vs, (∀ i ∈ tg.ix, i ∈ vs) → wipe σ' vs = wipe σ vs) → Q σ' H
theorem wipe_set {σ : St} {i : Nat} {x : Option V} : ∀ {vs : List Nat}, i ∈ vs → wipe (σ.set i x) vs = wipe σ vs
  | [], h => by cases h
  | v :: vs, h => by
    show (wipe (σ.set i x) vs).set v none = (wipe σ vs).set v none
    by_cases hm : i ∈ vs
    · rw [wipe_set hm]
    · rcases List.mem_cons.mp h with e | e
      · subst e
        have q : ∀ ws : List Nat, i ∉ ws → wipe (σ.set i x) ws = (wipe σ ws).set i x := fun ws => by
          induction ws with
          | nil => exact fun _ => rfl
          | cons w ws ih =>
            intro hw
            rw [List.mem_cons, not_or] at hw
            show (wipe (σ.set i x) ws).set w none = ((wipe σ ws).set w none).set i x
            rw [ih hw.2, List.set_comm _ _ hw.1]
        rw [q vs hm, List.set_set]
      · exact absurd e hm
theorem sg_name {i : Nat} {x : Str} {q : Pos} (nd : X.N.Nodup) (hi : X.N[i]? = some x) (hx : Loc X.env.scope x) (hf : X.fn x = true ∨ X.env.scope.names.lookup x = some .local) : PG X (.Name x q) (gT G (.n i)) := by
  refine ⟨fun pins s σ H v u Q I r h => ?_⟩
  obtain ⟨B, U, env, env', fs, hs, d, g1, e, h⟩ := h
  cases e
  exact (pg_name nd hi hx hf).run pins s σ H v u Q I r (h _ (g1.drop.store (r := .fz d) g1.top) fun vs hv => wipe_set (hv i List.mem_cons_self))
theorem _root_.L2.PGs.imp {C : Cx} {es : List Expr} {t t' : TGs} (h : PGs C es t) (q : ∀ vs σ H Q, t' vs σ H Q → t vs σ H Q) : PGs C es t' := ⟨fun pins s σ H vs us Q I r y => h.run pins s σ H vs us Q I r (q vs σ H Q y)⟩
/-- the names of a tuple target -/
def tgNames (X : Cx) : List Nat → List Expr → Prop
  | [], [] => True
  | i :: is, .Name x _ :: es => X.N[i]? = some x ∧ Loc X.env.scope x ∧ (X.fn x = true ∨ X.env.scope.names.lookup x = some .local) ∧ tgNames X is es
  | _, _ => False
def gNs : List Nat → TGs
  | [] => gNil
  | i :: is => gCons (gName i) (gNs is)
theorem sgs_names (nd : X.N.Nodup) : ∀ {is : List Nat} {es : List Expr}, tgNames X is es → PGs X es (gNs is) ∧ (assignEach es X.env).length = is.length ∧ (assignEach es X.env).findIdx? (·.1) = none
  | [], [], _ => ⟨pgs_nil, rfl, rfl⟩
  | i :: is, .Name x q :: es, h => by
    obtain ⟨h1, h2, h3, h4⟩ := h
    obtain ⟨q1, q2, q3⟩ := sgs_names nd h4
    refine ⟨pgs_cons (pg_name nd h1 h2 h3) q1 rfl, congrArg (· + 1) q2, ?_⟩
    show List.findIdx? (·.1) ((false, assign (.Name x q) X.env) :: assignEach es X.env) = none
    rw [List.findIdx?_cons, q3]
    rfl
  | [], _ :: _, h => h.elim
  | _ :: _, [], h => h.elim
end
end Wv
namespace Wv
open PySem L2
section
variable {G : Cfg} {p : Pg} {n : Nat} {g : Bool} {X : Cx} {W : WX} {B : Bs} {U : Wd} {env : Ev} {fs : FS} {hs : List (V × R)} {σ : St} {H : Hp} {pos : Pos} {pins : List (Addr × Obj)} {s : Shared} {P : Prm}
theorem _root_.L2.PG.imp {C : Cx} {e : Expr} {t t' : TG} (h : PG C e t) (q : ∀ v σ H Q, t' v σ H Q → t v σ H Q) : PG C e t' := ⟨fun pins s σ H v u Q I r y => h.run pins s σ H v u Q I r (q v σ H Q y)⟩
theorem gns_ok {Q : St → Hp → Prop} : ∀ {is : List Nat} {vs : List V} {ds : List D} {env : Ev} {σ : St}, Reps G U.F U.mu H vs ds → is.length = ds.length → Rel G B U env fs hs σ H →
    (∀ σ', Rel G B U ((is.zip ds).foldl (fun e p => e.set p.1 (some (.fz p.2))) env) fs hs σ' H → (∀ vs, (∀ i ∈ is, i ∈ vs) → wipe σ' vs = wipe σ vs) → Q σ' H) → gNs is vs σ H Q
  | [], [], [], env, σ, _, _, g, q => ⟨rfl, q σ g fun _ _ => rfl⟩
  | i :: is, v :: vs, d :: ds, env, σ, .cons h t, l, g, q => by
    refine ⟨v, vs, rfl, ?_⟩
    have l : is.length + 1 = ds.length + 1 := l
    refine gns_ok (env := env.set i (some (.fz d))) t (Nat.succ.inj l) (g.store (r := .fz d) h) fun σ' g' w => q σ' g' fun ws hw => ?_
    rw [w ws fun j hj => hw j (List.mem_cons_of_mem _ hj), wipe_set (hw i List.mem_cons_self)]
  | [], _, _ :: _, _, _, _, l, _, _ => nomatch l
  | _ :: _, _, [], _, _, _, l, _, _ => nomatch l
theorem sg_tup (o : XOk G p n g X W) {is : List Nat} {es : List Expr} {k : Nat} (h : tgNames X is es) : PG X (.Tuple es k pos) (gT G (.t is)) := by
  obtain ⟨h1, h2, h3⟩ := sgs_names o.nd h
  refine (pg_tup o.calm h1 h2 h3).imp fun v σ H Q q => ?_
  obtain ⟨B, U, env, env', fs, hs, d, g1, e, q⟩ := q
  cases d with
  | tup ds =>
    have e : (if is.length = ds.length then some ((is.zip ds).foldl (fun e p => e.set p.1 (some (.fz p.2))) env) else none) = some env' := e
    split at e
    · rename_i hl
      cases e
      have b : RepB G U H v (.tup ds) := .inl g1.top
      obtain ⟨a, vs, e1, f, e2, r⟩ := b.tup
      exact ⟨a, vs, e1, .of e2, by rw [r.length]; exact hl.symm, gns_ok r hl g1.drop fun σ' g' w => q σ' g' w⟩
    · cases e
  | _ => cases e

theorem asgT_q {i : Nat} {is : List Nat} {d : D} {env env' : Ev} (e : asgT (.q i is) d env = some env') : ∃ d1 ds, d = .tup [d1, .tup ds] ∧ is.length = ds.length ∧ env' = (is.zip ds).foldl (fun e p => e.set p.1 (some (.fz p.2))) (env.set i (some (.fz d1))) := by
  unfold asgT at e
  split at e
  · rename_i h
    cases h
  · rename_i h
    cases h
  · rename_i h
    cases h
    split at e
    · rename_i hl
      cases e
      exact ⟨_, _, rfl, hl, rfl⟩
    · cases e
  · cases e
/-- a name and a tuple of names -/
theorem sg_nest (o : XOk G p n g X W) {i : Nat} {is : List Nat} {x : Str} {es : List Expr} {k k1 : Nat} {q q1 : Pos} (hi : X.N[i]? = some x) (hx : Loc X.env.scope x) (hf : X.fn x = true ∨ X.env.scope.names.lookup x = some .local) (h : tgNames X is es) : PG X (.Tuple [.Name x q, .Tuple es k1 q1] k pos) (gT G (.q i is)) := by
  obtain ⟨h1, h2, h3⟩ := sgs_names o.nd h
  refine (pg_tup o.calm (pgs_cons (pg_name o.nd hi hx hf) (pgs_cons (pg_tup o.calm h1 h2 h3) pgs_nil rfl) rfl) rfl rfl).imp fun v σ H Q q => ?_
  obtain ⟨B, U, env, env', fs, hs, d, g1, e, q⟩ := q
  obtain ⟨d1, ds, rfl, hl, rfl⟩ := asgT_q e
  have b : RepB G U H v (.tup [d1, .tup ds]) := .inl g1.top
  obtain ⟨a, vs, e1, f, e2, r⟩ := b.tup
  cases r with
  | cons r1 r =>
    cases r with
    | cons r2 r =>
      cases r
      rename_i v1 v2
      have b2 : RepB G U H v2 (.tup ds) := .inl r2
      obtain ⟨a2, vs2, e12, f2, e22, r3⟩ := b2.tup
      exact ⟨a, _, e1, .of e2, rfl, v1, [v2], rfl, v2, [], rfl, a2, vs2, e12, .of e22, by rw [r3.length]; exact hl.symm, gns_ok r3 hl (g1.drop.store (r := .fz d1) r1) fun σ' g' w => ⟨rfl, q σ' g' fun ws hw => by
        rw [w ws fun j hj => hw j (List.mem_cons_of_mem _ hj), wipe_set (hw i List.mem_cons_self)]⟩⟩

theorem hide_some {env : Ev} {i : Nat} {r : R} (h : (hideE env)[i]? = some (some r)) : ∃ d, r = .fz d ∧ env[i]? = some (some (.fz d)) := by
  unfold hideE at h
  rw [List.getElem?_map] at h
  cases z : env[i]? with
  | none =>
    rw [z] at h
    cases h
  | some o =>
    rw [z] at h
    cases o with
    | none => cases h
    | some r =>
      cases r with
      | own k => cases h
      | fz d =>
        cases h
        exact ⟨d, rfl, rfl⟩
theorem wipeE_len {env : Ev} : ∀ {vs : List Nat}, (wipeE env vs).length = env.length
  | [] => rfl
  | v :: vs => by
    show ((wipeE env vs).set v none).length = _
    rw [List.length_set, wipeE_len]
theorem wipeE_some {env : Ev} {i : Nat} {r : R} : ∀ {vs : List Nat}, (wipeE env vs)[i]? = some (some r) → env[i]? = some (some r) ∧ i ∉ vs
  | [], h => ⟨h, by simp⟩
  | v :: vs, h => by
    have h : ((wipeE env vs).set v none)[i]? = some (some r) := h
    by_cases hi : v = i
    · subst hi
      by_cases hv : v < (wipeE env vs).length
      · rw [List.getElem?_set_self hv] at h
        cases h
      · rw [List.getElem?_eq_none (by rw [List.length_set]; omega)] at h
        cases h
    · rw [List.getElem?_set_ne hi] at h
      obtain ⟨h1, h2⟩ := wipeE_some h
      exact ⟨h1, by rw [List.mem_cons, not_or]; exact ⟨fun e => hi e.symm, h2⟩⟩
theorem wipe_twice {σ : St} {vs : List Nat} : wipe (wipe σ vs) vs = wipe σ vs := by
  refine List.ext_getElem? fun i => ?_
  by_cases hi : i ∈ vs
  · have q : ∀ (τ : St) (ws : List Nat), i ∈ ws → (wipe τ ws)[i]? = if i < τ.length then some none else none := fun τ ws => by
      induction ws with
      | nil => exact fun h => nomatch h
      | cons w ws ih =>
        intro h
        show ((wipe τ ws).set w none)[i]? = _
        by_cases hw : w = i
        · subst hw
          by_cases hl : w < τ.length
          · rw [List.getElem?_set_self (by rw [wipe_length]; exact hl), if_pos hl]
          · rw [List.getElem?_eq_none (by rw [List.length_set, wipe_length]; omega), if_neg hl]
        · rw [List.getElem?_set_ne hw]
          exact ih ((List.mem_cons.mp h).resolve_left fun e => hw e.symm)
    rw [q _ _ hi, q _ _ hi, wipe_length]
  · rw [wipe_out hi]
theorem Rel.block (h : Rel G B U env fs hs σ H) (own : List Nat) {hs' : List (V × R)} (q2 : ∀ p ∈ hs', ∃ d, p.2 = .fz d ∧ Rep G U.F U.mu H p.1 d) :
    Rel G ⟨H, U.F, U.mu⟩ ⟨U.F, U.mu, []⟩ (wipeE (hideE env) own) ⟨[], fs.st⟩ hs' (wipe σ own) H := by
  refine h.enterW ?_ (fun i r e => ?_) q2
  · rw [wipeE_len, wipe_length]
    unfold hideE
    rw [List.length_map, h.elen]
  · obtain ⟨e1, e2⟩ := wipeE_some e
    obtain ⟨d, e3, e4⟩ := hide_some e1
    obtain ⟨v, e5, e6⟩ := h.env i _ e4
    exact ⟨d, v, e3, by rw [wipe_out e2]; exact e5, e6⟩

abbrev WN : WX := fun _ _ _ _ => False
def itBody (P : Prm) (env : Ev) (own : List Nat) (tg : Tg) (tt el : E) : D → List D → List Cl → Option (List D × List Cl) := fun x acc st => match asgT tg x (wipeE (hideE env) own) with
  | some env1 => (match evt P tt env1 ⟨[], st⟩ with
    | .ok true s1 => itemO acc (ev P el env1 s1)
    | .ok false s1 => some (acc, s1.st)
    | _ => none)
  | none => none
theorem set_last {α : Type} {xs : List α} {a b : α} : (xs ++ [a]).set xs.length b = xs ++ [b] := by
  rw [List.set_append_right _ _ (Nat.le_refl _), Nat.sub_self]
  rfl
theorem get_last {α : Type} {xs : List α} {a : α} : (xs ++ [a])[xs.length]? = some a := by
  rw [List.getElem?_append_right (Nat.le_refl _), Nat.sub_self]
  rfl
theorem turns_cons {body : D → List D → List Cl → Option (List D × List Cl)} {x : D} {xs acc : List D} {st : List Cl} {r : List D × List Cl} (h : turns body (x :: xs) acc st = some r) :
    ∃ acc' st', body x acc st = some (acc', st') ∧ turns body xs acc' st' = some r := by
  have h : (match body x acc st with
    | some (acc, st) => turns body xs acc st
    | none => none) = some r := h
  split at h
  · rename_i a b e
    exact ⟨a, b, e, h⟩
  · cases h
theorem lc_turns {J : It} {vs : List V} {ds xs : List D} {own : List Nat} {tg : Tg} {tt el : E} {ol : List (Bool × Cl)} {D0 : Addr} {acc0 : List D} {st0 : List Cl} {r : List D × List Cl} {Qd : Hp → Prop} (hJ : ItOk G J vs ds xs) (hto : ∀ i ∈ tg.ix, i ∈ own)
    (h0 : Rel G B U env ⟨ol ++ [(true, .lst acc0)], st0⟩ ((.ref D0, .own ol.length) :: hs) σ H) (hr : turns (itBody P env own tg tt el) xs acc0 st0 = some r)
    (hsrc : ∀ acc st U H, Rel G B U env ⟨ol ++ [(true, .lst acc)], st⟩ ((.ref D0, .own ol.length) :: hs) σ H → RepBs G U H vs ds)
    (hd : ∀ U H, Rel G B U env ⟨ol ++ [(true, .lst r.1)], r.2⟩ ((.ref D0, .own ol.length) :: hs) σ H → Qd H) :
    ∃ Wv : Nat → Nat → Hp → Prop, (∃ m, Wv 0 m H) ∧ ∀ i m H, Wv i m H →
      (J.stop i H ∧ Qd H) ∨ (J.go i H ∧ ∃ Nx : Hp → Prop, (∀ H', Nx H' → ∃ m', m' < m ∧ Wv (i + 1) m' H') ∧ ∀ x H', J.yld i H x H' → gT G tg x (wipe σ own) H' fun σ2 H2 => wipe σ2 own = wipe σ own ∧ tT G WN (evt P tt) σ2 H2 fun b H3 =>
        if b = true then tE G WN (ev P el) σ2 H3 fun y H4 => ∃ acc, H4 D0 = some (.lst acc) ∧ acc.length < sizeLine ∧ Nx (upd H4 D0 (.lst (acc ++ [y]))) else Nx H3) := by
  let Wi : Nat → Nat → Hp → Prop := fun i m H => m = xs.length - i ∧ i ≤ xs.length ∧ ∃ U acc st, Rel G B U env ⟨ol ++ [(true, .lst acc)], st⟩ ((.ref D0, .own ol.length) :: hs) σ H ∧ turns (itBody P env own tg tt el) (xs.drop i) acc st = some r
  refine ⟨Wi, ⟨_, rfl, Nat.zero_le _, U, acc0, st0, h0, hr⟩, ?_⟩
  rintro i m H ⟨rfl, hi, U, acc, st, g1, ht⟩
  have L := hsrc acc st U H g1
  obtain ⟨j1, j2⟩ := hJ U H L i
  by_cases hlt : i < xs.length
  · have ex : xs[i]? = some xs[i] := List.getElem?_eq_getElem hlt
    obtain ⟨jg, jy⟩ := j1 _ ex
    rw [List.drop_eq_getElem_cons hlt] at ht
    obtain ⟨acc', st', hb, ht⟩ := turns_cons ht
    refine .inr ⟨jg, Wi (i + 1) (xs.length - (i + 1)), fun H' z => ⟨_, by omega, z⟩, fun v H' y => ?_⟩
    obtain ⟨U2, g2⟩ := jy v H' y _ _ _ _ _ g1
    unfold itBody at hb
    cases ea : asgT tg xs[i] (wipeE (hideE env) own) with
    | none =>
      rw [ea] at hb
      cases hb
    | some env1 =>
    rw [ea] at hb
    refine ⟨_, _, _, env1, _, [], xs[i], g2.block own (hs' := [(v, .fz xs[i])]) fun q hq => ?_, ea, fun σ2 g3 hw => ⟨by rw [hw own hto, wipe_twice], _, _, _, _, _, g3, ?_⟩⟩
    · rw [List.mem_singleton.mp hq]
      exact ⟨xs[i], rfl, g2.top⟩
    have hb : (match evt P tt env1 ⟨[], st⟩ with
      | .ok true s1 => itemO acc (ev P el env1 s1)
      | .ok false s1 => some (acc, s1.st)
      | _ => none) = some (acc', st') := hb
    cases et : evt P tt env1 ⟨[], st⟩ with
    | bad =>
      rw [et] at hb
      cases hb
    | exc x s1 =>
      rw [et] at hb
      cases hb
    | ok b s1 =>
      rw [et] at hb
      cases b with
      | false =>
        cases hb
        intro W4 H4 g4
        rw [if_neg Bool.false_ne_true]
        exact ⟨rfl, hlt, _, acc, s1.st, (g2.back g4).drop, ht⟩
      | true =>
        intro W4 H4 g4
        rw [if_pos rfl]
        refine ⟨_, _, _, _, _, g4, ?_⟩
        have hb : itemO acc (ev P el env1 s1) = some (acc', st') := hb
        unfold itemO at hb
        cases ee : ev P el env1 s1 with
        | bad =>
          rw [ee] at hb
          cases hb
        | exc x s1 =>
          rw [ee] at hb
          cases hb
        | ok rr s2 =>
          rw [ee] at hb
          intro yv W5 H5 g5
          have hb : (fz s2 rr).bind (fun p => if acc.length < sizeLine then some (acc ++ [p.1], p.2.st) else none) = some (acc', st') := hb
          cases ef : fz s2 rr with
          | none =>
            rw [ef] at hb
            cases hb
          | some q =>
            obtain ⟨d, s3⟩ := q
            rw [ef] at hb
            have hb : (if acc.length < sizeLine then some (acc ++ [d], s3.st) else none) = some (acc', st') := hb
            split at hb
            · rename_i hz
              cases hb
              obtain ⟨U6, g6, r6, _⟩ := g5.fz g5.top ef
              have g7 := g2.back (g6.drop.push (r := .fz d) r6)
              have k7 := g7.drop.top
              obtain ⟨a, e1, e2⟩ := k7
              cases e2
              obtain ⟨accV, e3, r7⟩ := (g7.own _ _ _ _ e1 get_last).1
              have g8 := g7.drop.ownSet (c1 := .lst (acc ++ [d])) (o := .lst (accV ++ [yv])) e1 get_last fun H' e m => ⟨accV ++ [yv], e, (r7.imp m).app (.cons (m _ _ r6) .nil)⟩
              rw [set_last] at g8
              exact ⟨accV, e3, by rw [r7.length]; exact hz, rfl, hlt, _, acc ++ [d], s3.st, g8, ht⟩
            · cases hb
  · have e : i = xs.length := by omega
    subst e
    rw [List.drop_length] at ht
    have ht : some (acc, st) = some r := ht
    cases ht
    exact .inl ⟨j2 rfl, hd U H g1⟩
theorem dv_app {ol x : List (Bool × Cl)} {st st' : List Cl} {r : R} {d : D} (h : dv ⟨ol, st⟩ r = some d) : dv ⟨ol ++ x, st'⟩ r = some d := by
  cases r with
  | fz d' => exact h
  | own k =>
    have h : ((ol[k]?).map (·.2)).map Cl.d = some d := h
    show (((ol ++ x)[k]?).map (·.2)).map Cl.d = some d
    cases z : ol[k]? with
    | none =>
      rw [z] at h
      cases h
    | some c =>
      rw [z] at h
      rw [List.getElem?_append_left (List.getElem?_eq_some_iff.mp z).1, z]
      exact h
theorem dvs_app {ol x : List (Bool × Cl)} {st st' : List Cl} : ∀ {rs : List R} {ds : List D}, dvs ⟨ol, st⟩ rs = some ds → dvs ⟨ol ++ x, st'⟩ rs = some ds
  | [], ds, h => h
  | r :: rs, ds, h => by
    have h : (match dv ⟨ol, st⟩ r with
      | some d => (dvs ⟨ol, st⟩ rs).map (d :: ·)
      | none => none) = some ds := h
    show (match dv ⟨ol ++ x, st'⟩ r with
      | some d => (dvs ⟨ol ++ x, st'⟩ rs).map (d :: ·)
      | none => none) = some ds
    cases z : dv ⟨ol, st⟩ r with
    | none =>
      rw [z] at h
      cases h
    | some d =>
      rw [z] at h
      rw [dv_app z]
      have h : (dvs ⟨ol, st⟩ rs).map (d :: ·) = some ds := h
      show (dvs ⟨ol ++ x, st'⟩ rs).map (d :: ·) = some ds
      cases w : dvs ⟨ol, st⟩ rs with
      | none =>
        rw [w] at h
        cases h
      | some es =>
        rw [w] at h
        rw [dvs_app w]
        exact h
section
variable {elt tgE iter : Expr} {ifs : List Expr} {scope : Scope} {ownL : List (Str × Nat)} {tg : Tg} {it tt el : E}
theorem rd_com {Q : VK} (hto : ∀ i ∈ tg.ix, i ∈ ownL.map (·.2)) (h : tE G W (ev P (.com (ownL.map (·.2)) tg it tt el)) σ H Q) : tLc (tI G W (evX P it)) (gT G tg) (tT G WN (evt P tt)) (tE G WN (ev P el)) (ownL.map (·.2)) σ H Q := by
  obtain ⟨B, U, env, fs, hs, g0, y⟩ := h
  refine ⟨B, U, env, fs, hs, g0, Post.unbnd (y.bnd.imp fun rs s1 y => ?_)⟩
  obtain ⟨ds, ed, y⟩ := y.need
  obtain ⟨xs, ex, y⟩ := y.need
  obtain ⟨r, er, y⟩ := y.need
  rw [ed]
  show Post G W B env hs σ _ (need (itD it ds) fun xs => .ok (rs, ds, xs) s1)
  rw [ex]
  intro U1 H1 vs J g1 rr _ hJ D0 hD
  obtain ⟨U2, g2⟩ := (g1.holdAll rr).begun (c0 := .lst []) (o := .lst []) hD fun H' e m => ⟨[], e, .nil⟩
  exact lc_turns (U := U2) (hs := vs.zip rs ++ hs) hJ hto g2 er (fun acc st U H g => (g.looks (g.drop.heldAll rr.length) (dvs_app ed))) fun U H g => y _ U H (g.hold fun q hq => g.held q (by
    rcases List.mem_cons.mp hq with e | e
    · exact e ▸ List.mem_cons_self
    · exact List.mem_cons_of_mem _ (List.mem_append_right _ e)))
theorem sd_com (o : XOk G p n g X W) (hto : ∀ i ∈ tg.ix, i ∈ ownL.map (·.2)) (hi : PI X tgE iter (tI G W (evX P it))) (ok : BlkOk X.N X.env.scope scope ownL)
    (hg : ∀ (s : Shared) (H : Hp) (C : Addr) (cl : List (Str × Addr)) (fp : List Addr), PG (X.blk s H scope (compEnvC scope cl C X.env) fp) tgE (gT G tg))
    (ht : ∀ (s : Shared) (H : Hp) (C : Addr) (cl : List (Str × Addr)) (fp : List Addr), PTs (X.blk s H scope (compEnvC scope cl C X.env) fp) ifs (tT G WN (evt P tt)))
    (he : ∀ (s : Shared) (H : Hp) (C : Addr) (cl : List (Str × Addr)) (fp : List Addr), PE (X.blk s H scope (compEnvC scope cl C X.env) fp) elt (tE G WN (ev P el))) (hs : noSet iter = true) :
    PE X (.ListComp elt [⟨tgE, iter, ifs, 0⟩] scope pos) (tE G W (ev P (.com (ownL.map (·.2)) tg it tt el))) :=
  (pe_lc o.calm o.nd hi ok hg ht he (set_no hs)).imp fun σ H Q h => rd_com hto h
end
end
end Wv
namespace Wv
open PySem L2
section
variable {G : Cfg} {p : Pg} {n : Nat} {g : Bool} {X : Cx} {W : WX} {B : Bs} {U : Wd} {env : Ev} {fs : FS} {hs hs' : List (V × R)} {σ : St} {H : Hp} {pos : Pos} {pins : List (Addr × Obj)} {s : Shared} {P : Prm}
/-- what is wanted behind a statement's outcome -/
def PostS (G : Cfg) (W : WX) (B : Bs) (hs : List (V × R)) (D : Ends) : SO → Prop
  | .nx env s => ∀ U H σ, Rel G B U env s hs σ H → D.nx σ H
  | .bk env s => ∀ U H σ, Rel G B U env s hs σ H → D.bk σ H
  | .ct env s => ∀ U H σ, Rel G B U env s hs σ H → D.ct σ H
  | .rt r env s => ∀ U H σ v, Rel G B U env s ((v, r) :: hs) σ H → D.rt v H
  | .exc x env s => ∀ cls d U H σ, Rel G B U env s hs σ H → XRep G U H cls d x → W cls d σ H
  | .bad => False
def tS (G : Cfg) (W : WX) (m : Ev → FS → SO) : TS := fun D σ H => ∃ B U env fs hs, Rel G B U env fs hs σ H ∧ PostS G W B hs D (m env fs)
theorem PostS.less {D : Ends} {o : SO} (h : PostS G W B hs D o) (q : ∀ p ∈ hs, p ∈ hs') : PostS G W B hs' D o := by
  have k : ∀ {env fs σ U H}, Rel G B U env fs hs' σ H → Rel G B U env fs hs σ H := fun r => r.hold fun p hp => r.held p (q p hp)
  cases o with
  | nx env s => exact fun U H σ r => h U H σ (k r)
  | bk env s => exact fun U H σ r => h U H σ (k r)
  | ct env s => exact fun U H σ r => h U H σ (k r)
  | rt r env s => exact fun U H σ v z => h U H σ v (z.hold fun p hp => z.held p (by
      rcases List.mem_cons.mp hp with e | e
      · exact e ▸ List.mem_cons_self
      · exact List.mem_cons_of_mem _ (q p e)))
  | exc x env s => exact fun c d U H σ r y => h c d U H σ (k r) y
  | bad => exact h
/-- an expression within a statement -/
theorem st_post {α : Type} {D : Ends} {o : Out α} {k : α → FS → SO} (h : PostS G W B hs D (o.st env k)) : Post G W B env hs σ (fun a s => PostS G W B hs D (k a s)) o := by
  cases o with
  | ok a s => exact h
  | exc x s => exact fun cls d U H r y => h cls d U H σ r y
  | bad => exact h
theorem needS_some {α : Type} {D : Ends} {o : Option α} {k : α → SO} (h : PostS G W B hs D (needS o k)) : ∃ a, o = some a ∧ PostS G W B hs D (k a) := by
  cases o with
  | none => exact h.elim
  | some a => exact ⟨a, rfl, h⟩
/-- the value of an expression within a statement -/
theorem tS_val {m : Ev → FS → Out R} {k : Ev → R → FS → SO} {D : Ends} (h : tS G W (fun env s => (m env s).st env fun r s => k env r s) D σ H) :
    tE G W m σ H fun v H1 => ∃ B U env fs hs r, Rel G B U env fs ((v, r) :: hs) σ H1 ∧ PostS G W B hs D (k env r fs) := by
  obtain ⟨B, U, env, fs, hs, g0, y⟩ := h
  exact ⟨B, U, env, fs, hs, g0, (st_post y).imp fun r s y v U1 H1 g1 => ⟨B, U1, env, s, hs, r, g1, y⟩⟩
theorem tS_bl {m : Ev → FS → Out R} {k : Ev → Bool → FS → SO} {D : Ends} (h : tS G W (fun env s => (m env s).st env fun r s => needS (bl? r) fun b => k env b s) D σ H) :
    tT G W (tb m) σ H fun b H1 => tS G W (fun env s => k env b s) D σ H1 := by
  obtain ⟨B, U, env, fs, hs, g0, y⟩ := h
  refine ⟨B, U, env, fs, hs, g0, Post.unbnd ((st_post y).imp fun r s y => ?_)⟩
  obtain ⟨b, e, y⟩ := needS_some y
  show Post G W B env hs σ _ (need (bl? r) fun k => .ok k s)
  rw [e]
  exact fun U1 H1 g1 => ⟨B, U1, env, s, hs, g1, y⟩

section
variable {st : Stmt} {sts : List Stmt} {a r : S} {e : Expr} {ee : E}
theorem ss_nil (P : Prm) : PSs X [] (tS G W (ex P .nil)) := ⟨fun pins s σ H D I h => pss_nil.run pins s σ H D I (by
  obtain ⟨B, U, env, fs, hs, g0, y⟩ := h
  exact y U H σ g0)⟩
theorem ss_cons (h1 : PS X st (tS G W (ex P a))) (h2 : PSs X sts (tS G W (ex P r))) : PSs X (st :: sts) (tS G W (ex P (.cons a r))) := ⟨fun pins s σ H D I h => (pss_cons h1 h2).run pins s σ H D I (by
  obtain ⟨B, U, env, fs, hs, g0, y⟩ := h
  have y : PostS G W B hs D (match ex P a env fs with
    | .nx env s => ex P r env s
    | o => o) := y
  refine ⟨B, U, env, fs, hs, g0, ?_⟩
  cases z : ex P a env fs with
  | nx env s =>
    rw [z] at y
    exact fun U1 H1 σ1 g1 => ⟨B, U1, env, s, hs, g1, y⟩
  | bk env s =>
    rw [z] at y
    exact y
  | ct env s =>
    rw [z] at y
    exact y
  | rt r env s =>
    rw [z] at y
    exact y
  | exc x env s =>
    rw [z] at y
    exact y
  | bad =>
    rw [z] at y
    exact y)⟩
theorem ss_pas (P : Prm) : PS X (.Pass pos) (tS G W (ex P .pas)) := ps_pass.imp fun D σ H h => by
  obtain ⟨B, U, env, fs, hs, g0, y⟩ := h
  exact y U H σ g0
theorem ss_doc (P : Prm) {x : Str} {j : Nat} {q : Pos} : PS X (.Expr (.Constant (.str x) j q) pos) (tS G W (ex P .pas)) := ps_doc.imp fun D σ H h => by
  obtain ⟨B, U, env, fs, hs, g0, y⟩ := h
  exact y U H σ g0
theorem ss_nev {P : Prm} : PS X st (tS G W (ex P .nev)) := ps_never.imp fun D σ H h => by
  obtain ⟨B, U, env, fs, hs, g0, y⟩ := h
  exact y
theorem sss_nev {P : Prm} : PSs X sts (tS G W (ex P .nev)) := ⟨fun pins s σ H D I h => by
  obtain ⟨B, U, env, fs, hs, g0, y⟩ := h
  exact y.elim⟩
theorem ss_exp (h : PE X e (tE G W (ev P ee))) (hs : noLc e = true) : PS X (.Expr e pos) (tS G W (ex P (.exp ee))) :=
  (ps_expr h (lc_no hs)).imp fun D σ H h => tE_mono (tS_val (k := fun env _ s => .nx env s) h) fun v H1 ⟨B, U, env, fs, hs, r, g1, y⟩ => y U H1 σ g1.drop
theorem ss_ret (h : PE X e (tE G W (ev P ee))) : PS X (.Return (some e) pos) (tS G W (ex P (.ret ee))) :=
  (ps_ret h).imp fun D σ H h => tE_mono (tS_val (k := fun env r s => .rt r env s) h) fun v H1 ⟨B, U, env, fs, hs, r, g1, y⟩ => y U H1 σ v g1
theorem ss_rtn (P : Prm) : PS X (.Return none pos) (tS G W (ex P .rtn)) := ps_retN.imp fun D σ H h => by
  obtain ⟨B, U, env, fs, hs, g0, y⟩ := h
  exact y U H σ .non (g0.push (r := .fz .non) .non)
theorem ss_ife {c : Expr} {ec : E} {s1 s2 : List Stmt} {b : S} (hc : PT X c (tT G W (tb (ev P ec)))) (ha : PSs X s1 (tS G W (ex P a))) (hb : PSs X s2 (tS G W (ex P b))) : PS X (.If c s1 s2 pos) (tS G W (ex P (.ife ec a b))) :=
  (ps_if hc ha hb).imp fun D σ H h => tT_mono (tS_bl (k := fun env k s => if k = true then ex P a env s else ex P b env s) h) fun k H1 h1 => by
    by_cases hk : k = true
    · simp only [if_pos hk] at h1 ⊢
      exact h1
    · simp only [if_neg hk] at h1 ⊢
      exact h1

theorem ss_set {i : Nat} {x : Str} {q : Pos} (o : XOk G p n g X W) (hi : X.N[i]? = some x) (hx : Loc X.env.scope x) (hf : X.fn x = true ∨ X.env.scope.names.lookup x = some .local) (h : PE X e (tE G W (ev P ee))) (hs : swapsWith e (some (.Name x q)) pos.line X.env = pure false) :
    PS X (.Assign [.Name x q] e pos) (tS G W (ex P (.asg (.n i) ee))) :=
  (ps_set o.nd hi hx h hs hf).imp fun D σ H h => tE_mono (tS_val (k := fun env r s => .nx (env.set i (some r)) s) h) fun v H1 ⟨B, U, env, fs, hs, r, g1, y⟩ => y U H1 _ (g1.drop.store g1.top)
theorem ss_asgT {tg : Tg} {tgE : Expr} (o : XOk G p n g X W) (hex : ∀ (P : Prm) (env : Ev) (s : FS), ex P (.asg tg ee) env s = (ev P ee env s).st env fun r s => needS (fz s r) fun p => needS (asgT tg p.1 env) fun env => .nx env p.2) (hg : PG X tgE (gT G tg)) (h : PE X e (tE G W (ev P ee))) (hs : swapsWithSole [tgE] e pos.line X.env = pure false) (hw : swappedStores [tgE] e X.env = pure none) (ha : (assignEach [tgE] X.env).map (·.2) = [assign tgE X.env]) :
    PS X (.Assign [tgE] e pos) (tS G W (ex P (.asg tg ee))) := by
  rw [show ex P (.asg tg ee) = (fun env s => (ev P ee env s).st env fun r s => needS (fz s r) fun p => needS (asgT tg p.1 env) fun env => .nx env p.2) from funext fun env => funext fun s => hex P env s]
  exact (ps_asg h hg hs hw ha).imp fun D σ H h => tE_mono (tS_val (k := fun env r s => needS (fz s r) fun p => needS (asgT tg p.1 env) fun env => .nx env p.2) h) fun v H1 ⟨B, U, env, fs, hs, r, g1, y⟩ => by
    obtain ⟨⟨d, s2⟩, ef, y⟩ := needS_some y
    obtain ⟨env2, ea, y⟩ := needS_some y
    obtain ⟨U2, g2, r2, _⟩ := g1.fz g1.top ef
    exact ⟨B, U2, env, env2, s2, hs, d, g2.drop.push (r := .fz d) r2, ea, fun σ' g' _ => y U2 H1 σ' g'⟩
end
end
end Wv
namespace Wv
open PySem L2
section
variable {G : Cfg} {p : Pg} {n : Nat} {g : Bool} {X : Cx} {W : WX} {B : Bs} {U : Wd} {env : Ev} {fs fs' : FS} {hs hs' : List (V × R)} {σ : St} {H : Hp} {pos : Pos} {pins : List (Addr × Obj)} {s : Shared} {P : Prm}
theorem putF_reps (nd : G.nms.Nodup) {x : Nat} (hx : x < G.nms.length) {F : Addr → Prop} {mu : List Addr} {d : D} {yv : V} (r : Rep G F mu H yv d) : ∀ {ws : List (Str × V)} {ks : List Nat} {vs : List D}, G.Nm ws ks → Reps G F mu H (ws.map (·.2)) vs →
    G.Nm (putF (G.nm x) yv ws) (putFs ks vs x d).1 ∧ Reps G F mu H ((putF (G.nm x) yv ws).map (·.2)) (putFs ks vs x d).2
  | [], [], [], _, _ => ⟨⟨rfl, fun i hi => by rw [List.mem_singleton.mp hi]; exact hx⟩, .cons r .nil⟩
  | [], _ :: _, _, k, _ => by cases k.1
  | _ :: _, [], _, k, _ => by cases k.1
  | [], [], _ :: _, _, z => by cases z
  | (y, w) :: ws, j :: ks, [], _, z => by cases z
  | (y, w) :: ws, j :: ks, d' :: vs, k, z => by
    have z : Reps G F mu H (w :: ws.map (·.2)) (d' :: vs) := z
    cases z with
    | cons r1 r2 =>
      obtain ⟨k1, k2⟩ := k
      have k1 : y :: ws.map (·.1) = G.nm j :: ks.map G.nm := k1
      obtain ⟨k3, k4⟩ := List.cons.inj k1
      have e1 : putF (G.nm x) yv ((y, w) :: ws) = if y = G.nm x then (y, yv) :: ws else (y, w) :: putF (G.nm x) yv ws := rfl
      have e2 : putFs (j :: ks) (d' :: vs) x d = if j = x then (j :: ks, d :: vs) else (j :: (putFs ks vs x d).1, d' :: (putFs ks vs x d).2) := rfl
      by_cases q : j = x
      · subst q
        rw [e1, e2, if_pos k3, if_pos rfl]
        exact ⟨⟨by show y :: ws.map (·.1) = G.nm j :: ks.map G.nm; rw [k3, k4], k2⟩, .cons r r2⟩
      · have q2 : ¬ y = G.nm x := fun e => q (nm_inj nd (k2 j List.mem_cons_self) hx (k3.symm.trans e))
        rw [e1, e2, if_neg q2, if_neg q]
        obtain ⟨i1, i2⟩ := putF_reps nd hx r ⟨k4, fun i hi => k2 i (List.mem_cons_of_mem _ hi)⟩ r2
        refine ⟨⟨?_, fun i hi => ?_⟩, .cons r1 i2⟩
        · show y :: (putF (G.nm x) yv ws).map (·.1) = G.nm j :: (putFs ks vs x d).1.map G.nm
          rw [k3, i1.1]
        · rcases List.mem_cons.mp hi with e | e
          · rw [e]
            exact k2 j List.mem_cons_self
          · exact i1.2 i e
theorem put_ok (o : XOk G p n g X W) (h : Rel G B U env fs hs σ H) {ov yv : V} {q : R} {x : Nat} {d : D} (rq : RepR G U H ov q) (r : Rep G U.F U.mu H yv d) (e : putFld (prm p g n) fs q x d = some fs') :
    ∃ a C dx ws, ov = .ref a ∧ H a = some (.ins C dx ws) ∧ Cls X.K C ∧ NoAttr X.K C (G.nm x) ∧ ws.length < 1000 ∧ Rel G B U env fs' hs σ (upd H a (.ins C dx (putF (G.nm x) yv ws))) := by
  have nd : G.nms.Nodup := by rw [o.pg.nms]; exact o.pg.nnd
  have nl : ∀ {ws : List (Str × V)} {ks : List Nat}, G.Nm ws ks → ws.length = ks.length := fun k => by
    have z := congrArg List.length k.1
    rw [List.length_map, List.length_map] at z
    exact z
  cases q with
  | own k =>
    obtain ⟨a, e1, e2⟩ := rq
    obtain ⟨b, c, e3, e4, _⟩ := h.ownAt e1
    have e : (match fs.ol[k]? with
      | some (true, .ins c ks vs) => if ks.length < 1000 ∧ (prm p g n).fldOk c x = true then some (FS.mk (fs.ol.set k (true, .ins c (putFs ks vs x d).1 (putFs ks vs x d).2)) fs.st) else none
      | _ => none) = some fs' := e
    rw [e3] at e
    cases b with
    | false => cases e
    | true =>
      cases c with
      | lst xs => cases e
      | dic kvs => cases e
      | ins c ks vs =>
        have e : (if ks.length < 1000 ∧ (prm p g n).fldOk c x = true then some (FS.mk (fs.ol.set k (true, .ins c (putFs ks vs x d).1 (putFs ks vs x d).2)) fs.st) else none) = some fs' := e
        split at e
        · rename_i hc
          cases e
          obtain ⟨kc, hk, hm⟩ := fldOk_some hc.2
          have C := o.pg.cls c kc hk
          obtain ⟨na, hx⟩ := C.fld x hm
          obtain ⟨dx, ws, e5, k6, r6⟩ := e4
          have z := putF_reps nd hx r k6 r6
          refine ⟨a, G.ca c, dx, ws, e2, e5, o.K ▸ C.cls, o.K ▸ na, by rw [nl k6]; exact hc.1, ?_⟩
          exact h.ownSet e1 e3 fun H' e m => ⟨dx, _, e, z.1, z.2.imp m⟩
        · cases e
  | fz t =>
    cases t with
    | cel m =>
      have b : RepB G U H ov (.cel m) := .inl rq
      obtain ⟨a, e2, e1⟩ := b.cel
      obtain ⟨c, e3, e4⟩ := h.cellAt e1
      have e : (match fs.st[m]? with
        | some (.ins c ks vs) => if ks.length < 1000 ∧ (prm p g n).fldOk c x = true then some (FS.mk fs.ol (fs.st.set m (.ins c (putFs ks vs x d).1 (putFs ks vs x d).2))) else none
        | _ => none) = some fs' := e
      rw [e3] at e
      cases c with
      | lst xs => cases e
      | dic kvs => cases e
      | ins c ks vs =>
        have e : (if ks.length < 1000 ∧ (prm p g n).fldOk c x = true then some (FS.mk fs.ol (fs.st.set m (.ins c (putFs ks vs x d).1 (putFs ks vs x d).2))) else none) = some fs' := e
        split at e
        · rename_i hc
          cases e
          obtain ⟨kc, hk, hm⟩ := fldOk_some hc.2
          have C := o.pg.cls c kc hk
          obtain ⟨na, hx⟩ := C.fld x hm
          obtain ⟨dx, ws, e5, k6, r6⟩ := e4
          have z := putF_reps nd hx r k6 r6
          refine ⟨a, G.ca c, dx, ws, e2, e5, o.K ▸ C.cls, o.K ▸ na, by rw [nl k6]; exact hc.1, ?_⟩
          exact h.cellSet e1 fun H' e m => ⟨dx, _, e, z.1, z.2.imp m⟩
        · cases e
    | _ => cases e
section
variable {st : Stmt} {sts : List Stmt} {e ob : Expr} {ee eo : E}
theorem ss_sfl (o : XOk G p n g X W) {x : Nat} {f : Str} {q : Pos} (he : G.nm x = f) (ho : PE X ob (tE G W (ev (prm p g n) eo))) (h : PE X e (tE G W (ev (prm p g n) ee))) (hs : swapsWith e (some (.Attribute ob f q)) pos.line X.env = pure false) :
    PS X (.Assign [.Attribute ob f q] e pos) (tS G W (ex (prm p g n) (.sfl eo x ee))) :=
  (ps_fld ho h hs).imp fun D σ H h => by
    obtain ⟨B, U, env, fs, hs, g0, y⟩ := h
    refine ⟨B, U, env, fs, hs, g0, (st_post y).imp fun r s1 y v U1 H1 g1 => ⟨B, U1, env, s1, (v, r) :: hs, g1, ?_⟩⟩
    refine Post.imp (Post.less (st_post y) fun z hz => List.mem_cons_of_mem _ hz) fun q s2 y w U2 H2 g2 => ?_
    obtain ⟨⟨d, s3⟩, ef, y⟩ := needS_some y
    obtain ⟨s4, ep, y⟩ := needS_some y
    have g2' : Rel G B U2 env s2 ((v, r) :: (w, q) :: hs) σ H2 := g2.hold fun z hz => g2.held z (by
      rcases List.mem_cons.mp hz with e | e
      · exact e ▸ List.mem_cons_of_mem _ List.mem_cons_self
      · rcases List.mem_cons.mp e with e | e
        · exact e ▸ List.mem_cons_self
        · exact List.mem_cons_of_mem _ (List.mem_cons_of_mem _ e))
    obtain ⟨U3, g3, r3, _⟩ := g2'.fz g2'.top ef
    obtain ⟨a, C, dx, ws, e1, e2, c1, n1, l1, g4⟩ := put_ok o g3.drop.drop g3.drop.top r3 ep
    rw [he] at n1 g4
    exact ⟨a, C, dx, ws, e1, e2, c1, n1, l1, y U3 _ σ g4⟩
end
end
end Wv
namespace Wv
open PySem L2 PySem.AutoSeq1
theorem list_extend_tup (l : Addr) (items : Array Value) (n : Nat) (b : Addr) (items2 : Array Value) (n2 : Nat) (dd : Option Addr) (sl : Array (Option Value)) (hs0 : ¬(!items.isEmpty && Builtin.List.listTooLong (items.size + items2.size)) = true) (hs1 : items.size ≤ sizeLine) (hs2 : items.size + items2.size ≤ sizeLine + 1) :
    Meets (Builtin.«list.extend» ⟨[.ref l, .ref b], []⟩) (fun _ R s => s.heap.get? l = some { cls := .type "list", dict := none, data := .seq items n, slots := #[] } ∧ s.heap.get? b = some { cls := .type "tuple", dict := dd, data := .seq items2 n2, slots := sl } ∧ R (.ok (.ret Value.none)) { s with heap := s.heap.update l (Obj.mapSeq fun x => x ++ items2), toks := s.toks }) :=
  .of_wp fun prog w A R s h => by
    obtain ⟨hp, g, d, tk, os⟩ := s; obtain ⟨hl, hb, h⟩ := h; have f1 := idx_int; have f2 := sub_tuple_tuple; have f3 := sub_list_list; have f4 := sub_tuple_list; have f5 := sub_list_tuple;
    have hz' : (items ++ items2).size ≤ sizeLine + 1 := by rw [Array.size_append]; exact hs2
    wp_walk using (wpAny_updateSeq hl rfl (hz := hs1) (_hz' := hz')), wpAny_loadPart' hl, wpAny_loadPart' hb; exact ⟨_, rfl, h⟩
end Wv
namespace Wv
open PySem L2
def rExtendT (K : PySem.W.Frag) : V → List V → Hp → VK → Prop := fun x vs H Q => ∃ l b xs zs, x = .ref l ∧ vs = [.ref b] ∧ H l = some (.lst xs) ∧ SqT K H b zs ∧ xs.length + zs.length ≤ sizeLine ∧ Q .non (upd H l (.lst (xs ++ zs)))
theorem mt_extendT {X : Cx} : MtM X "list.extend" (rExtendT X.K) := by
  intro pins s σ H x vs v us Q I rx rv h
  obtain ⟨l, b, xs, zs, rfl, rfl, hH, hB, hz, q⟩ := h
  cases rx
  obtain ⟨u, rfl, ru⟩ := rv.one
  cases ru
  obtain ⟨z, its, n, r, hl, e⟩ := I.lstM hH
  obtain ⟨its2, r2, ⟨⟨cc, dd, dt, sl⟩, e2, hc, n2, hd⟩, hz2⟩ := I.tuple hB
  simp only at hc hd
  subst hc hd
  have hl2 := r2.length
  have hsz : its.toArray.size + its2.toArray.size ≤ sizeLine := by rw [List.size_toArray, List.size_toArray]; omega
  have hlong : ¬ (!its.toArray.isEmpty && Builtin.List.listTooLong (its.toArray.size + its2.toArray.size)) = true := by
    rw [notLongL hsz, Bool.and_false]
    exact Bool.false_ne_true
  refine call_meets F.slot_list_extend ⟨_, e, rfl⟩ F.entry_list_extend (F.args_list_extend_2 _ _)
    (list_extend_tup l its.toArray n b its2.toArray n2 dd sl hlong (by rw [List.size_toArray]; omega) (by omega)) ⟨e, e2, ?_⟩
  refine ⟨.non, _, I.lset (its' := its ++ its2) hH e (by simp) (r.append r2) ?_, rfl, q⟩
  rw [List.length_append]
  omega
theorem mt_extendA {X : Cx} : MtM X "list.extend" (fun x vs H Q => rExtend x vs H Q ∨ rExtendT X.K x vs H Q) := by
  intro pins s σ H x xs v us Q I rx rs q
  rcases q with q | q
  · exact mt_extend pins s σ H x xs v us Q I rx rs q
  · exact mt_extendT pins s σ H x xs v us Q I rx rs q
end Wv
namespace Wv
open PySem L2
section
variable {G : Cfg} {p : Pg} {n : Nat} {g : Bool} {X : Cx} {W : WX} {B : Bs} {U : Wd} {env : Ev} {fs fs' : FS} {hs hs' : List (V × R)} {σ : St} {H : Hp} {pos : Pos} {pins : List (Addr × Obj)} {s : Shared} {P : Prm}
theorem lst_at (h : Rel G B U env fs hs σ H) {v : V} {q : R} (r : RepR G U H v q) (e : isLst fs q = true) : ∃ a xs, v = .ref a ∧ H a = some (.lst xs) := by
  cases q with
  | own k =>
    obtain ⟨a, e1, e2⟩ := r
    obtain ⟨b, c, e3, e4, _⟩ := h.ownAt e1
    have e : (match fs.ol[k]? with
      | some (_, .lst _) => true
      | _ => false) = true := e
    rw [e3] at e
    cases c with
    | lst xs =>
      obtain ⟨vs, e5, _⟩ := e4
      exact ⟨a, vs, e2, e5⟩
    | ins c ks vs => cases e
    | dic kvs => cases e
  | fz t =>
    cases t with
    | cel m =>
      have b : RepB G U H v (.cel m) := .inl r
      obtain ⟨a, e2, e1⟩ := b.cel
      obtain ⟨c, e3, e4⟩ := h.cellAt e1
      have e : (match fs.st[m]? with
        | some (.lst _) => true
        | _ => false) = true := e
      rw [e3] at e
      cases c with
      | lst xs =>
        obtain ⟨vs, e5, _⟩ := e4
        exact ⟨a, vs, e2, e5⟩
      | ins c ks vs => cases e
      | dic kvs => cases e
    | _ => cases e
/-- the list of q as it stands, and how it is written -/
theorem lst_put (h : Rel G B U env fs hs σ H) {v : V} {q : R} {ds : List D} {ys : List V} (r : RepR G U H v q) (ry : Reps G U.F U.mu H ys ds) (e : putLst fs q ds = some fs') :
    ∃ a xs, v = .ref a ∧ H a = some (.lst xs) ∧ xs.length + ys.length ≤ sizeLine ∧ Rel G B U env fs' hs σ (upd H a (.lst (xs ++ ys))) := by
  cases q with
  | own k =>
    obtain ⟨a, e1, e2⟩ := r
    obtain ⟨b, c, e3, e4, _⟩ := h.ownAt e1
    have e : (match fs.ol[k]? with
      | some (true, .lst xs) => if xs.length + ds.length ≤ sizeLine then some (FS.mk (fs.ol.set k (true, .lst (xs ++ ds))) fs.st) else none
      | _ => none) = some fs' := e
    rw [e3] at e
    cases b with
    | false => cases e
    | true =>
      cases c with
      | ins c ks vs => cases e
      | dic kvs => cases e
      | lst xs =>
        have e : (if xs.length + ds.length ≤ sizeLine then some (FS.mk (fs.ol.set k (true, .lst (xs ++ ds))) fs.st) else none) = some fs' := e
        split at e
        · rename_i hz
          cases e
          obtain ⟨vs, e5, r5⟩ := e4
          exact ⟨a, vs, e2, e5, by rw [r5.length, ry.length]; exact hz, h.ownSet e1 e3 fun H' e m => ⟨vs ++ ys, e, (r5.imp m).app (ry.imp m)⟩⟩
        · cases e
  | fz t =>
    cases t with
    | cel m =>
      have b : RepB G U H v (.cel m) := .inl r
      obtain ⟨a, e2, e1⟩ := b.cel
      obtain ⟨c, e3, e4⟩ := h.cellAt e1
      have e : (match fs.st[m]? with
        | some (.lst xs) => if xs.length + ds.length ≤ sizeLine then some (FS.mk fs.ol (fs.st.set m (.lst (xs ++ ds)))) else none
        | _ => none) = some fs' := e
      rw [e3] at e
      cases c with
      | ins c ks vs => cases e
      | dic kvs => cases e
      | lst xs =>
        have e : (if xs.length + ds.length ≤ sizeLine then some (FS.mk fs.ol (fs.st.set m (.lst (xs ++ ds)))) else none) = some fs' := e
        split at e
        · rename_i hz
          cases e
          obtain ⟨vs, e5, r5⟩ := e4
          exact ⟨a, vs, e2, e5, by rw [r5.length, ry.length]; exact hz, h.cellSet e1 fun H' e m => ⟨vs ++ ys, e, (r5.imp m).app (ry.imp m)⟩⟩
        · cases e
    | _ => cases e
theorem at_put (h : Rel G B U env fs hs σ H) {v w yv : V} {q j : R} {d : D} (r : RepR G U H v q) (rj : RepR G U H w j) (ry : Rep G U.F U.mu H yv d) (e : putAt fs q j d = some fs') :
    ∃ a xs i k, v = .ref a ∧ w = .int i ∧ H a = some (.lst xs) ∧ ixN xs.length i = some k ∧ Rel G B U env fs' hs σ (upd H a (.lst (xs.set k yv))) := by
  cases j with
  | own k =>
    cases q with
    | own k => cases e
    | fz t => cases t <;> cases e
  | fz t2 =>
  cases t2 with
  | int i =>
    have ei : w = .int i := by
      cases rj
      rfl
    cases q with
    | own k =>
      obtain ⟨a, e1, e2⟩ := r
      obtain ⟨b, c, e3, e4, _⟩ := h.ownAt e1
      have e : (match fs.ol[k]? with
        | some (true, .lst xs) => (ixN xs.length i).map fun j => FS.mk (fs.ol.set k (true, .lst (xs.set j d))) fs.st
        | _ => none) = some fs' := e
      rw [e3] at e
      cases b with
      | false => cases e
      | true =>
        cases c with
        | ins c ks vs => cases e
        | dic kvs => cases e
        | lst xs =>
          have e : (ixN xs.length i).map (fun j => FS.mk (fs.ol.set k (true, .lst (xs.set j d))) fs.st) = some fs' := e
          obtain ⟨vs, e5, r5⟩ := e4
          cases z : ixN xs.length i with
          | none =>
            rw [z] at e
            cases e
          | some m =>
            rw [z] at e
            cases e
            exact ⟨a, vs, i, m, e2, ei, e5, by rw [r5.length]; exact z, h.ownSet e1 e3 fun H' e mm => ⟨vs.set m yv, e, (r5.imp mm).set (mm _ _ ry) _⟩⟩
    | fz t =>
      cases t with
      | cel m =>
        have b : RepB G U H v (.cel m) := .inl r
        obtain ⟨a, e2, e1⟩ := b.cel
        obtain ⟨c, e3, e4⟩ := h.cellAt e1
        have e : (match fs.st[m]? with
          | some (.lst xs) => (ixN xs.length i).map fun j => FS.mk fs.ol (fs.st.set m (.lst (xs.set j d)))
          | _ => none) = some fs' := e
        rw [e3] at e
        cases c with
        | ins c ks vs => cases e
        | dic kvs => cases e
        | lst xs =>
          have e : (ixN xs.length i).map (fun j => FS.mk fs.ol (fs.st.set m (.lst (xs.set j d)))) = some fs' := e
          obtain ⟨vs, e5, r5⟩ := e4
          cases z : ixN xs.length i with
          | none =>
            rw [z] at e
            cases e
          | some k =>
            rw [z] at e
            cases e
            exact ⟨a, vs, i, k, e2, ei, e5, by rw [r5.length]; exact z, h.cellSet e1 fun H' e mm => ⟨vs.set k yv, e, (r5.imp mm).set (mm _ _ ry) _⟩⟩
      | _ => cases e
  | _ =>
    cases q with
    | own k => cases e
    | fz t => cases t <;> cases e
section
variable {e ob ix : Expr} {ee eo ei : E}
theorem few_one {cpos : Pos} {env : Env} (hs : noStar e = true) : ((backTo cpos (starEach [e] env)).all (fun x => !x.1) && (backToKw cpos (keywordEach [] env)).all (fun x => x.1.isSome)
      && decide (([e] : List Expr).length + ([] : List Keyword).length + (if ([] : List Keyword).isEmpty then 0 else 1) < 30)) = true := by
  rw [star_no hs]
  rfl
theorem ss_app (o : XOk G p n g X W) {i : Nat} {x : Str} {q1 q2 q3 : Pos} (hN : X.N[i]? = some x) (hv : Vis X.env.scope x) (h1 : (x == ("__debug__" : Str)) = false) (h2 : (x == ("__classdict__" : Str)) = false) (h : PE X e (tE G W (ev P ee))) (hs : noStar e = true) (hl : (q2.endLine == q3.line) = true) :
    PS X (.Expr (.Call (.Attribute (.Name x q1) "append" q2) [e] [] q3) pos) (tS G W (ex P (.app i ee))) :=
  (ps_expr (pe_bm F.plainAttrs_list F.slot_list_append rfl mt_append (pe_var hN hv h1 h2) (pa_cons h pa_nil (star_no hs)) rfl (few_one hs) hl (star_no hs) rfl) rfl).imp fun D σ H h => by
    obtain ⟨B, U, env, fs, hs, g0, y⟩ := h
    have y : PostS G W B hs D (match env[i]? with
      | some (some q) => if isLst fs q = true then (ev P ee env fs).st env fun r s => needS (fz s r) fun p => needS (putLst p.2 q [p.1]) fun s => .nx env s else .bad
      | _ => .bad) := y
    cases z : env[i]? with
    | none =>
      rw [z] at y
      exact y.elim
    | some o =>
    cases o with
    | none =>
      rw [z] at y
      exact y.elim
    | some q =>
    rw [z] at y
    have y : PostS G W B hs D (if isLst fs q = true then (ev P ee env fs).st env fun r s => needS (fz s r) fun p => needS (putLst p.2 q [p.1]) fun s => .nx env s else .bad) := y
    split at y
    · rename_i hi
      obtain ⟨v, e1, rv⟩ := g0.env i q z
      obtain ⟨a, xs, e2, e3⟩ := lst_at g0 rv hi
      subst e2
      refine ⟨_, e1, .inl ⟨rfl, xs, .of e3⟩, B, U, env, fs, hs, g0, (st_post y).imp fun r s1 y w U1 H1 g1 => ?_⟩
      obtain ⟨⟨d, s2⟩, ef, y⟩ := needS_some y
      obtain ⟨s3, ep, y⟩ := needS_some y
      obtain ⟨U2, g2, r2, _⟩ := g1.fz g1.top ef
      obtain ⟨v2, e4, rv2⟩ := g2.env i q z
      rw [e1] at e4
      cases e4
      obtain ⟨a2, ys, e5, e6, hz, g3⟩ := lst_put g2.drop rv2 (.cons r2 .nil) ep
      cases e5
      exact ⟨a, ys, w, rfl, rfl, e6, hz, y U2 _ σ g3⟩
    · exact y.elim
theorem ss_ext (o : XOk G p n g X W) {i : Nat} {x : Str} {q1 q2 q3 : Pos} (hN : X.N[i]? = some x) (hv : Vis X.env.scope x) (h1 : (x == ("__debug__" : Str)) = false) (h2 : (x == ("__classdict__" : Str)) = false) (h : PE X e (tE G W (ev P ee))) (hs : noStar e = true) (hl : (q2.endLine == q3.line) = true) :
    PS X (.Expr (.Call (.Attribute (.Name x q1) "extend" q2) [e] [] q3) pos) (tS G W (ex P (.ext i ee))) :=
  (ps_expr (pe_bm F.plainAttrs_list F.slot_list_extend rfl mt_extendA (pe_var hN hv h1 h2) (pa_cons h pa_nil (star_no hs)) rfl (few_one hs) hl (star_no hs) rfl) rfl).imp fun D σ H h => by
    obtain ⟨B, U, env, fs, hs, g0, y⟩ := h
    have y : PostS G W B hs D (match env[i]? with
      | some (some q) => if isLst fs q = true then (ev P ee env fs).st env fun r s => needS (fz s r) fun p => (match p.1 with
        | .lst ys => needS (putLst p.2 q ys) fun s => .nx env s
        | .tup ys => needS (putLst p.2 q ys) fun s => .nx env s
        | _ => .bad) else .bad
      | _ => .bad) := y
    cases z : env[i]? with
    | none =>
      rw [z] at y
      exact y.elim
    | some o =>
    cases o with
    | none =>
      rw [z] at y
      exact y.elim
    | some q =>
    rw [z] at y
    have y : PostS G W B hs D (if isLst fs q = true then (ev P ee env fs).st env fun r s => needS (fz s r) fun p => (match p.1 with
        | .lst ys => needS (putLst p.2 q ys) fun s => .nx env s
        | .tup ys => needS (putLst p.2 q ys) fun s => .nx env s
        | _ => .bad) else .bad) := y
    split at y
    · rename_i hi
      obtain ⟨v, e1, rv⟩ := g0.env i q z
      obtain ⟨a, xs, e2, e3⟩ := lst_at g0 rv hi
      subst e2
      refine ⟨_, e1, .inl ⟨rfl, xs, .of e3⟩, B, U, env, fs, hs, g0, (st_post y).imp fun r s1 y w U1 H1 g1 => ?_⟩
      obtain ⟨⟨d, s2⟩, ef, y⟩ := needS_some y
      cases d with
      | lst zs =>
        obtain ⟨s3, ep, y⟩ := needS_some (hs := hs) (D := D) y
        obtain ⟨U2, g2, r2, _⟩ := g1.fz g1.top ef
        have b2 : RepB G U2 H1 w (.lst zs) := .inl r2
        obtain ⟨c, ws, e7, e8, r8⟩ := b2.lst
        obtain ⟨v2, e4, rv2⟩ := g2.env i q z
        rw [e1] at e4
        cases e4
        obtain ⟨a2, ys, e5, e6, hz, g3⟩ := lst_put g2.drop rv2 r8 ep
        cases e5
        subst e7
        exact .inl ⟨a, c, ys, ws, rfl, rfl, e6, e8, hz, y U2 _ σ g3⟩
      | tup zs =>
        obtain ⟨s3, ep, y⟩ := needS_some (hs := hs) (D := D) y
        obtain ⟨U2, g2, r2, _⟩ := g1.fz g1.top ef
        have b2 : RepB G U2 H1 w (.tup zs) := .inl r2
        obtain ⟨c, ws, e7, _, e8, r8⟩ := b2.tup
        obtain ⟨v2, e4, rv2⟩ := g2.env i q z
        rw [e1] at e4
        cases e4
        obtain ⟨a2, ys, e5, e6, hz, g3⟩ := lst_put g2.drop rv2 r8 ep
        cases e5
        subst e7
        exact .inr ⟨a, c, ys, ws, rfl, rfl, e6, .of e8, hz, y U2 _ σ g3⟩
      | _ => exact y.elim
    · exact y.elim
theorem sub_swap {q : Pos} {l : Nat} {env : Env} : swapsWithSole [.Subscript ob ix q] e l env = pure false := by cases e <;> rfl
theorem att_swap {f : Str} {q : Pos} {l : Nat} {env : Env} : swapsWith e (some (.Attribute ob f q)) l env = pure false := by cases e <;> rfl
theorem tup_swap {es : List Expr} {k : Nat} {q : Pos} {l : Nat} {env : Env} : swapsWithSole [.Tuple es k q] e l env = pure false := by cases e <;> rfl
theorem sub_stores {q : Pos} {env : Env} : swappedStores [.Subscript ob ix q] e env = pure none := rfl
theorem ss_sit (o : XOk G p n g X W) {q : Pos} (ho : PE X ob (tE G W (ev P eo))) (hi : PE X ix (tE G W (ev P ei))) (h : PE X e (tE G W (ev P ee))) (hs : noSlice ix = true) : PS X (.Assign [.Subscript ob ix q] e pos) (tS G W (ex P (.sit eo ei ee))) := by
  have ha : ∀ v, assign (.Subscript ob ix q) X.env v = (do
      let ov ← holding [v] (eval ob X.env)
      let iv ← holding [v, ov] (eval ix X.env)
      standAt q
      holding [v, ov, iv] (setItem ov iv v)
      release [v, ov, iv] []) := fun v => by
    cases ix <;> first | (cases hs; done) | rfl
  refine (ps_asg h (pg_sub ho hi set_list ha) sub_swap sub_stores rfl).imp fun D σ H h => ?_
  obtain ⟨B, U, env, fs, hs, g0, y⟩ := h
  refine ⟨B, U, env, fs, hs, g0, (st_post y).imp fun r s1 y v U1 H1 g1 => ?_⟩
  obtain ⟨⟨d, s2⟩, ef, y⟩ := needS_some y
  obtain ⟨U2, g2, r2, _⟩ := g1.fz g1.top ef
  refine ⟨B, U2, env, s2, (v, .fz d) :: hs, g2.drop.push (r := .fz d) r2, Post.imp (Post.less (st_post y) fun z hz => List.mem_cons_of_mem _ hz) fun q s3 y w U3 H3 g3 => ⟨B, U3, env, s3, (w, q) :: (v, .fz d) :: hs, g3, ?_⟩⟩
  refine Post.imp (Post.less (st_post y) fun z hz => List.mem_cons_of_mem _ (List.mem_cons_of_mem _ hz)) fun j s4 y u U4 H4 g4 => ?_
  obtain ⟨s5, ep, y⟩ := needS_some y
  obtain ⟨a, xs, i, k, e1, e2, e3, e4, g5⟩ := at_put g4.drop.drop.drop g4.drop.top g4.top g4.drop.drop.top ep
  exact ⟨a, xs, i, k, e1, e2, e3, e4, y U4 _ σ g5⟩
end
end
end Wv
namespace Wv
open PySem L2
section
variable {G : Cfg} {p : Pg} {n : Nat} {g : Bool} {X : Cx} {W : WX} {B : Bs} {U : Wd} {env : Ev} {fs fs' : FS} {hs hs' : List (V × R)} {σ : St} {H : Hp} {pos : Pos} {pins : List (Addr × Obj)} {s : Shared} {P : Prm}
def gAt (K : PySem.W.Frag) (to : TE) (f : Str) : TG := fun v σ H Q => to σ H fun x H1 => ∃ a C dx ws, x = .ref a ∧ H1 a = some (.ins C dx ws) ∧ Cls K C ∧ NoAttr K C f ∧ ws.length < 1000 ∧ Q σ (upd H1 a (.ins C dx (putF f v ws)))
theorem pg_at {o : Expr} {to : TE} {f : Str} (ho : PE X o to) : PG X (.Attribute o f pos) (gAt X.K to f) := by
  refine ⟨fun pins s σ H v u Q I r h => ?_⟩
  have ha : assign (.Attribute o f pos) X.env u = (do
      let ov ← holding [u] (eval o X.env)
      standAt pos.atName
      holding [u, ov] (setAttr ov f u)
      release [u, ov] []) := rfl
  rw [ha]
  refine wpAny_bind (wpAny_holding (thn (ho.run pins s σ H _ I h) fun ov s1 ⟨x, H1, I1, r1, a, C, dx, ws, ex, ea, c, n, l, q⟩ => ?_))
  subst ex
  obtain rfl : ov = Value.ref a := r1
  refine wpAny_bind (wpAny_standAt (wpAny_bind (wpAny_holding (setattr_ok I1 ea c n l r fun s2 I2 => ?_))))
  exact wpAny_release ⟨σ, _, I2, q⟩
/-- the attributes of one name -/
def atNames (G : Cfg) (X : Cx) (i : Nat) : List Nat → List Expr → Prop
  | [], [] => True
  | x :: xs, .Attribute (.Name y _) f _ :: es => G.nm x = f ∧ X.N[i]? = some y ∧ Vis X.env.scope y ∧ (y == ("__debug__" : Str)) = false ∧ (y == ("__classdict__" : Str)) = false ∧ atNames G X i xs es
  | _, _ => False
def gAts (G : Cfg) (K : PySem.W.Frag) (i : Nat) : List Nat → TGs
  | [] => gNil
  | x :: xs => gCons (gAt K (tVar i) (G.nm x)) (gAts G K i xs)
theorem sgs_ats {i : Nat} : ∀ {xs : List Nat} {es : List Expr}, atNames G X i xs es → PGs X es (gAts G X.K i xs) ∧ (assignEach es X.env).length = xs.length ∧ (assignEach es X.env).findIdx? (·.1) = none
  | [], [], _ => ⟨pgs_nil, rfl, rfl⟩
  | x :: xs, .Attribute (.Name y q) f q2 :: es, h => by
    obtain ⟨h1, h2, h3, h4, h5, h6⟩ := h
    obtain ⟨q1, q4, q3⟩ := sgs_ats h6
    subst h1
    refine ⟨pgs_cons (pg_at (pe_var h2 h3 h4 h5)) q1 rfl, congrArg (· + 1) q4, ?_⟩
    show List.findIdx? (·.1) ((false, assign (.Attribute (.Name y q) (G.nm x) q2) X.env) :: assignEach es X.env) = none
    rw [List.findIdx?_cons, q3]
    rfl
  | [], _ :: _, h => h.elim
  | _ :: _, [], h => h.elim
theorem gats_ok (o : XOk G p n g X W) {Q : St → Hp → Prop} {q : R} {i : Nat} (hq : env[i]? = some (some q)) : ∀ {xs : List Nat} {vs : List V} {ds : List D} {fs : FS} {H : Hp}, (vs.length = ds.length) → Rel G B U env fs (vs.zip (ds.map R.fz) ++ hs) σ H → xs.length = ds.length → putAll (prm p g n) q (xs.zip ds) fs = some fs' →
    (∀ H', Rel G B U env fs' hs σ H' → Q σ H') → gAts G X.K i xs vs σ H Q
  | [], [], [], fs, H, _, r, _, e, k => by
    have e : some fs = some fs' := e
    cases e
    exact ⟨rfl, k H r⟩
  | x :: xs, v :: vs, d :: ds, fs, H, hl, r, l, e, k => by
    have e : (putFld (prm p g n) fs q x d).bind (fun s => putAll (prm p g n) q (xs.zip ds) s) = some fs' := e
    cases z : putFld (prm p g n) fs q x d with
    | none =>
      rw [z] at e
      cases e
    | some s1 =>
      rw [z] at e
      obtain ⟨ov, e1, rv⟩ := r.env i q hq
      have r : Rel G B U env fs ((v, .fz d) :: (vs.zip (ds.map R.fz) ++ hs)) σ H := r
      obtain ⟨a, C, dx, ws, e2, e3, c1, n1, l1, g1⟩ := put_ok o r.drop rv r.top z
      refine ⟨v, vs, rfl, ov, e1, a, C, dx, ws, e2, e3, c1, n1, l1, ?_⟩
      have hl : vs.length + 1 = ds.length + 1 := hl
      have l : xs.length + 1 = ds.length + 1 := l
      exact gats_ok o hq (Nat.succ.inj hl) g1 (Nat.succ.inj l) e k
  | [], _, _ :: _, _, _, _, _, l, _, _ => nomatch l
  | [], _ :: _, [], _, _, hl, _, _, _, _ => nomatch hl
  | _ :: _, _, [], _, _, _, _, l, _, _ => nomatch l
  | _ :: _, [], _ :: _, _, _, hl, _, _, _, _ => nomatch hl
theorem at_stores {i : Nat} : ∀ {es : List Expr} {xs : List Nat}, atNames G X i xs es → ∀ (f : Expr → Option Str), (∀ o a q, f (.Attribute o a q) = none) → es.filterMap f = []
  | [], _, _, _, _ => rfl
  | e :: es, [], h, _, _ => h.elim
  | e :: es, x :: xs, h, f, hf => by
    cases e with
    | Attribute o a q2 =>
      cases o with
      | Name y q =>
        rw [List.filterMap_cons, hf]
        exact at_stores (xs := xs) h.2.2.2.2.2 f hf
      | _ => exact False.elim h
    | _ => exact False.elim h
theorem sw_ats {xs : List Nat} {es : List Expr} {i : Nat} (h : atNames G X i xs es) (hne : es ≠ []) {k : Nat} {q : Pos} {e : Expr} {env : Env} : swappedStores [.Tuple es k q] e env = pure none := by
  have z : ∀ (f : Expr → Option Str), (∀ o a q, f (.Attribute o a q) = none) → es.filterMap f = [] := fun f hf => at_stores h f hf
  have l : (0 : Nat) != es.length := by
    cases es with
    | nil => exact absurd rfl hne
    | cons a b => rfl
  cases e with
  | Tuple vs k2 q2 =>
    unfold swappedStores
    simp only [pure_bind]
    rw [z _ (fun _ _ _ => rfl)]
    split
    · rfl
    · split
      · rfl
      · simp only [List.length_nil, l, Bool.true_or, if_true]
  | _ => rfl
section
variable {e : Expr} {ee : E}
theorem ss_sfp (o : XOk G p n g X W) {xs : List Nat} {es : List Expr} {k : Nat} {q : Pos} (h : atNames G X 0 xs es) (hne : es ≠ []) (he : PE X e (tE G W (ev (prm p g n) ee))) : PS X (.Assign [.Tuple es k q] e pos) (tS G W (ex (prm p g n) (.sfp xs ee))) := by
  obtain ⟨h1, h2, h3⟩ := sgs_ats h
  refine (ps_asg he (pg_tup o.calm h1 h2 h3) tup_swap (sw_ats h hne) rfl).imp fun D σ H hh => tE_mono (tS_val (k := fun env r s => needS (fz s r) fun p1 => match p1.1 with
    | .tup ds => if xs.length = ds.length then (match env[0]? with
      | some (some q) => needS (putAll (prm p g n) q (xs.zip ds) p1.2) fun s => .nx env s
      | _ => .bad) else .bad
    | _ => .bad) hh) fun v H1 ⟨B, U, env, fs, hs, r, g1, y⟩ => ?_
  obtain ⟨⟨d, s2⟩, ef, y⟩ := needS_some y
  obtain ⟨U2, g2, r2, _⟩ := g1.fz g1.top ef
  cases d with
  | tup ds =>
    have y : PostS G W B hs D (if xs.length = ds.length then (match (generalizing := false) env[0]? with
      | some (some q) => needS (putAll (prm p g n) q (xs.zip ds) s2) fun s => .nx env s
      | _ => .bad) else .bad) := y
    split at y
    · rename_i hl
      cases z : env[0]? with
      | none =>
        rw [z] at y
        exact y.elim
      | some w =>
      cases w with
      | none =>
        rw [z] at y
        exact y.elim
      | some q0 =>
        rw [z] at y
        obtain ⟨s3, ep, y⟩ := needS_some (hs := hs) (D := D) y
        have b : RepB G U2 H1 v (.tup ds) := .inl r2
        obtain ⟨a, vs, e1, f, e2, r3⟩ := b.tup
        exact ⟨a, vs, e1, .of e2, by rw [r3.length]; exact hl.symm, gats_ok o z r3.length (g2.drop.holdAll (.of r3)) hl ep fun H' g3 => y U2 H' σ g3⟩
    · exact y.elim
  | _ => exact y.elim

theorem ss_par (o : XOk G p n g X W) {i j : Nat} {x y : Str} {a b : Expr} {es : E} {px py pt pt2 : Pos} {kt k2 : Nat} (hi : X.N[i]? = some x) (hj : X.N[j]? = some y) (hij : i ≠ j) (hx : X.env.scope.names.lookup x = some .local) (hy : X.env.scope.names.lookup y = some .local)
    (ha : PA X [a, b] (tA G W (evs P es))) (hw : swappedStores [.Tuple [.Name x px, .Name y py] kt pt] (.Tuple [a, b] k2 pt2) X.env = pure (some [x, y])) :
    PS X (.Assign [.Tuple [.Name x px, .Name y py] kt pt] (.Tuple [a, b] k2 pt2) pos) (tS G W (ex P (.par [i, j] es))) :=
  (ps_par o.calm o.nd hi hj hij hx hy ha hw tup_swap).imp fun D σ H h => by
    obtain ⟨B, U, env, fs, hs, g0, y⟩ := h
    refine ⟨B, U, env, fs, hs, g0, (st_post y).imp fun rs s1 y vs U1 H1 g1 hl => ?_⟩
    have y : PostS G W B hs D (if ([i, j] : List Nat).length = rs.length then .nx ((([i, j] : List Nat).zip rs).foldl (fun e p => e.set p.1 (some p.2)) env) s1 else .bad) := y
    split at y
    · rename_i hr
      have rr := g1.heldAll hl
      match rs, hr, vs, rr, y with
      | [r1, r2], _, _, .cons q1 (.cons q2 .nil), y => exact ⟨_, _, rfl, y U1 H1 _ ((g1.dropN.store q1).store q2)⟩
    · exact y.elim
theorem ss_par3 (o : XOk G p n g X W) {i j l : Nat} {x y z : Str} {a b c : Expr} {es : E} {px py pz pt pt2 : Pos} {kt k2 : Nat} (hi : X.N[i]? = some x) (hj : X.N[j]? = some y) (hk : X.N[l]? = some z) (hij : i ≠ j) (hil : i ≠ l) (hjl : j ≠ l) (hx : X.env.scope.names.lookup x = some .local) (hy : X.env.scope.names.lookup y = some .local)
    (hz : X.env.scope.names.lookup z = some .local) (ha : PA X [a, b, c] (tA G W (evs P es))) (hw : swappedStores [.Tuple [.Name x px, .Name y py, .Name z pz] kt pt] (.Tuple [a, b, c] k2 pt2) X.env = pure (some [x, y, z])) :
    PS X (.Assign [.Tuple [.Name x px, .Name y py, .Name z pz] kt pt] (.Tuple [a, b, c] k2 pt2) pos) (tS G W (ex P (.par [i, j, l] es))) :=
  (ps_par3 o.calm o.nd hi hj hk hij hil hjl hx hy hz ha hw tup_swap).imp fun D σ H h => by
    obtain ⟨B, U, env, fs, hs, g0, y⟩ := h
    refine ⟨B, U, env, fs, hs, g0, (st_post y).imp fun rs s1 y vs U1 H1 g1 hl => ?_⟩
    have y : PostS G W B hs D (if ([i, j, l] : List Nat).length = rs.length then .nx ((([i, j, l] : List Nat).zip rs).foldl (fun e p => e.set p.1 (some p.2)) env) s1 else .bad) := y
    split at y
    · rename_i hr
      have rr := g1.heldAll hl
      match rs, hr, vs, rr, y with
      | [r1, r2, r3], _, _, .cons q1 (.cons q2 (.cons q3 .nil)), y => exact ⟨_, _, _, rfl, y U1 H1 _ (((g1.dropN.store q1).store q2).store q3)⟩
    · exact y.elim
end
section
variable {elt tgE iter : Expr} {ifs : List Expr} {scope : Scope} {ownL : List (Str × Nat)} {tg : Tg} {it tt el : E}
theorem ss_setLc (o : XOk G p n g X W) {i : Nat} {y : Str} {py spos : Pos} (hi0 : X.N[i]? = some y) (hyl : X.env.scope.names.lookup y = some .local) (hk : X.env.scope.kind = .function) (hl : (py.line == pos.line) = true)
    (hsc : (scope.names.any fun (n, k) => n == y && (k == .local || k == .cell)) = false) (hto : ∀ i ∈ tg.ix, i ∈ ownL.map (·.2)) (hi : PI X tgE iter (tI G W (evX P it))) (ok : BlkOk X.N X.env.scope scope ownL)
    (hg : ∀ (s : Shared) (H : Hp) (C : Addr) (cl : List (Str × Addr)) (fp : List Addr), PG (X.blk s H scope (compEnvC scope cl C X.env) fp) tgE (gT G tg))
    (ht : ∀ (s : Shared) (H : Hp) (C : Addr) (cl : List (Str × Addr)) (fp : List Addr), PTs (X.blk s H scope (compEnvC scope cl C X.env) fp) ifs (tT G WN (evt P tt)))
    (he : ∀ (s : Shared) (H : Hp) (C : Addr) (cl : List (Str × Addr)) (fp : List Addr), PE (X.blk s H scope (compEnvC scope cl C X.env) fp) elt (tE G WN (ev P el))) (hs : noSet iter = true) :
    PS X (.Assign [.Name y py] (.ListComp elt [⟨tgE, iter, ifs, 0⟩] scope pos) spos) (tS G W (ex P (.alc i (ownL.map (·.2)) tg it tt el))) :=
  (ps_setLc o.calm o.nd hi0 hyl (sw_true hk hyl hl hsc) hi ok hg ht he (set_no hs)).imp fun D σ H h =>
    rd_com hto (tE_mono (tS_val (k := fun env r s => .nx (env.set i (some r)) s) h) fun v H1 ⟨B, U, env, fs, hs, r, g1, y⟩ => y U H1 _ (g1.drop.store g1.top))
end
end
end Wv
namespace Wv
open PySem L2
section
variable {G : Cfg} {p : Pg} {n : Nat} {g : Bool} {X : Cx} {W : WX} {B : Bs} {U : Wd} {env : Ev} {fs fs' : FS} {hs hs' : List (V × R)} {σ : St} {H : Hp} {pos : Pos} {pins : List (Addr × Obj)} {s : Shared} {P : Prm}
theorem fz_dv {r : R} {d : D} (h : fz fs r = some (d, fs')) : dv fs r = some d := by
  cases r with
  | fz d' =>
    have z : some (d', fs) = some (d, fs') := h
    cases z
    rfl
  | own k =>
    have z : (fs.get k).map (fun c => (c.d, (⟨fs.ol.set k (false, c), fs.st⟩ : FS))) = some (d, fs') := h
    cases y : fs.get k with
    | none =>
      rw [y] at z
      cases z
    | some c =>
      rw [y] at z
      cases z
      show (fs.get k).map Cl.d = some c.d
      rw [y]
      rfl
theorem fz_same {r t : R} {d : D} (h : fz fs r = some (d, fs')) : dv fs' t = dv fs t := by
  cases r with
  | fz d' =>
    have z : some (d', fs) = some (d, fs') := h
    cases z
    rfl
  | own k =>
    have z : (fs.get k).map (fun c => (c.d, (⟨fs.ol.set k (false, c), fs.st⟩ : FS))) = some (d, fs') := h
    cases y : fs.get k with
    | none =>
      rw [y] at z
      cases z
    | some c =>
      rw [y] at z
      cases z
      cases t with
      | fz d' => rfl
      | own j =>
        show ((FS.mk (fs.ol.set k (false, c)) fs.st).get j).map Cl.d = (fs.get j).map Cl.d
        unfold FS.get at y ⊢
        by_cases hj : k = j
        · subst hj
          cases w : fs.ol[k]? with
          | none =>
            rw [w] at y
            cases y
          | some q =>
            have hl := (List.getElem?_eq_some_iff.mp w).1
            rw [w] at y
            have y : some q.2 = some c := y
            cases y
            rw [show (fs.ol.set k (false, q.2))[k]? = some (false, q.2) from List.getElem?_set_self hl]
            rfl
        · rw [show (fs.ol.set k (false, c))[j]? = fs.ol[j]? from List.getElem?_set_ne hj]
theorem fz_sames {r : R} {d : D} (h : fz fs r = some (d, fs')) : ∀ rs : List R, dvs fs' rs = dvs fs rs
  | [] => rfl
  | t :: rs => by
    show (match dv fs' t with
      | some d => (dvs fs' rs).map (d :: ·)
      | none => none) = match dv fs t with
      | some d => (dvs fs rs).map (d :: ·)
      | none => none
    rw [fz_same h, fz_sames h rs]
theorem fzs_dvs {rs : List R} : ∀ {ds : List D} {s : FS}, fzs s rs = some (ds, fs') → dvs s rs = some ds := by
  induction rs with
  | nil =>
    intro ds s h
    have h : some (([] : List D), s) = some (ds, fs') := h
    cases h
    rfl
  | cons r rs ih =>
    intro ds s h
    have h : (match fz s r with
      | some (d, s1) => (fzs s1 rs).map fun p => (d :: p.1, p.2)
      | none => none) = some (ds, fs') := h
    cases y : fz s r with
    | none =>
      rw [y] at h
      cases h
    | some q =>
      obtain ⟨d, s1⟩ := q
      rw [y] at h
      have h : (fzs s1 rs).map (fun p => (d :: p.1, p.2)) = some (ds, fs') := h
      cases z : fzs s1 rs with
      | none =>
        rw [z] at h
        cases h
      | some q =>
        obtain ⟨es, s2⟩ := q
        rw [z] at h
        cases h
        have e := ih z
        rw [fz_sames y] at e
        show (match dv s r with
          | some d => (dvs s rs).map (d :: ·)
          | none => none) = some (d :: es)
        rw [fz_dv y, e]
        rfl
section
variable {it : E} {b : S} {tg : Tg} {tgE iter : Expr} {body : List Stmt} {c : Expr} {ec : E}
theorem rd_for {D : Ends} (hh : tS G W (ex P (.for tg it b)) D σ H) : tFor (tI G W (evX P it)) (gT G tg) (tS G W (ex P b)) D σ H := by
  obtain ⟨B, U, env, fs, hs, g0, y⟩ := hh
  refine ⟨B, U, env, fs, hs, g0, Post.unbnd ((st_post y).imp fun rs s1 y => ?_)⟩
  obtain ⟨⟨ds, s2⟩, ef, y⟩ := needS_some y
  obtain ⟨xs, ex, y⟩ := needS_some y
  rw [fzs_dvs ef]
  show Post G W B env hs σ _ (need (itD it ds) fun xs => .ok (rs, ds, xs) s1)
  rw [ex]
  intro U1 H1 vs J g1 rr _ hJ
  obtain ⟨U2, g2, r2, _⟩ := g1.fzAll rr ef
  let body : Wv.D → Ev → FS → SO := fun x env s => needS (asgT tg x env) fun env => Wv.ex P b env s
  let hs1 : List (V × R) := vs.zip (ds.map R.fz) ++ hs
  have hl : vs.length = (ds.map R.fz).length := by rw [List.length_map]; exact r2.length
  let Wi : Nat → Nat → L2.St → Hp → Prop := fun i m σ H => m = xs.length - i ∧ i ≤ xs.length ∧ ∃ U env fs, Rel G B U env fs hs1 σ H ∧ PostS G W B hs D (loopS body (xs.drop i) env fs)
  refine ⟨Wi, ⟨_, rfl, Nat.zero_le _, U2, env, s2, g2.holdAll (.of r2), y⟩, ?_⟩
  rintro i m σ3 H3 ⟨rfl, hi, U3, env3, s3, g3, y3⟩
  have rd : RepRs G U3 H3 vs (ds.map R.fz) := g3.heldAll hl
  have L : RepBs G U3 H3 vs ds := by
    refine g3.looks rd ?_
    have q : ∀ ds : List Wv.D, dvs s3 (ds.map R.fz) = some ds := fun ds => by
      induction ds with
      | nil => rfl
      | cons d ds ih =>
        show (dvs s3 (ds.map R.fz)).map (d :: ·) = some (d :: ds)
        rw [ih]
        rfl
    exact q ds
  obtain ⟨j1, j2⟩ := hJ U3 H3 L i
  by_cases hlt : i < xs.length
  · obtain ⟨jg, jy⟩ := j1 _ (List.getElem?_eq_getElem hlt)
    refine .inr ⟨jg, Wi (i + 1) (xs.length - (i + 1)), fun σ' H' z => ⟨_, by omega, z⟩, fun v H' yy => ?_⟩
    obtain ⟨U4, g4⟩ := jy v H' yy _ _ _ _ _ g3
    rw [List.drop_eq_getElem_cons hlt] at y3
    have y3 : PostS G W B hs D (match body xs[i] env3 s3 with
      | .nx e s1 => loopS body (xs.drop (i + 1)) e s1
      | .ct e s1 => loopS body (xs.drop (i + 1)) e s1
      | .bk e s1 => .nx e s1
      | o => o) := y3
    have eb : body xs[i] env3 s3 = needS (asgT tg xs[i] env3) fun env => Wv.ex P b env s3 := rfl
    rw [eb] at y3
    cases ea : asgT tg xs[i] env3 with
    | none =>
      rw [ea] at y3
      exact y3.elim
    | some env4 =>
      rw [ea] at y3
      have y3 : PostS G W B hs D (match Wv.ex P b env4 s3 with
        | .nx e s1 => loopS body (xs.drop (i + 1)) e s1
        | .ct e s1 => loopS body (xs.drop (i + 1)) e s1
        | .bk e s1 => .nx e s1
        | o => o) := y3
      refine ⟨B, U4, env3, env4, s3, hs1, xs[i], g4, ea, fun σ5 g5 _ => ⟨B, U4, env4, s3, hs1, g5, ?_⟩⟩
      have sub : ∀ q ∈ hs, q ∈ hs1 := fun q hq => List.mem_append_right _ hq
      have small : ∀ {env fs σ U H}, Rel G B U env fs hs1 σ H → Rel G B U env fs hs σ H := fun r => r.dropN
      cases z : Wv.ex P b env4 s3 with
      | bad =>
        rw [z] at y3
        exact y3
      | nx e s1 =>
        rw [z] at y3
        exact fun U6 H6 σ6 g6 => ⟨rfl, hlt, U6, e, s1, g6, y3⟩
      | ct e s1 =>
        rw [z] at y3
        exact fun U6 H6 σ6 g6 => ⟨rfl, hlt, U6, e, s1, g6, y3⟩
      | bk e s1 =>
        rw [z] at y3
        exact fun U6 H6 σ6 g6 => y3 U6 H6 σ6 (small g6)
      | rt r e s1 =>
        rw [z] at y3
        exact PostS.less (D := D) y3 sub
      | exc x e s1 =>
        rw [z] at y3
        exact PostS.less (D := D) y3 sub
  · have e : i = xs.length := by omega
    subst e
    rw [List.drop_length] at y3
    exact .inl ⟨j2 rfl, y3 U3 H3 σ3 g3.dropN⟩
theorem ss_for (o : XOk G p n g X W) (hp : PassesOwn (model X.prog X.w) X.A X.env X.xe) (hi : PI X tgE iter (tI G W (evX P it))) (hg : PG X tgE (gT G tg)) (hb : PSs X body (tS G W (ex P b))) (hs : noSet iter = true) :
    PS X (.For tgE iter body [] pos) (tS G W (ex P (.for tg it b))) := (ps_for hp o.calm hi hg hb (set_no hs)).imp fun D σ H h => rd_for h
theorem ss_whl {k : Nat} (hp : PassesOwn (model X.prog X.w) X.A X.env X.xe) (hc : PT X c (tT G W (tb (ev P ec)))) (hb : PSs X body (tS G W (ex P b))) : PS X (.While c body [] pos) (tS G W (ex P (.whl k ec b))) :=
  (ps_while hp hc hb).imp fun D σ H h => by
    obtain ⟨B, U, env, fs, hs, g0, y⟩ := h
    refine ⟨fun m σ H => ∃ U env fs, Rel G B U env fs hs σ H ∧ PostS G W B hs D (whlS (ev P ec) (ex P b) m env fs), ⟨k, U, env, fs, g0, y⟩, ?_⟩
    rintro m σ1 H1 ⟨U1, env1, s1, g1, y1⟩
    cases m with
    | zero => exact y1.elim
    | succ m =>
      have y1 : PostS G W B hs D ((ev P ec env1 s1).st env1 fun r s => needS (bl? r) fun b1 => if b1 = true then (match ex P b env1 s with
        | .nx e s1 => whlS (ev P ec) (ex P b) m e s1
        | .ct e s1 => whlS (ev P ec) (ex P b) m e s1
        | .bk e s1 => .nx e s1
        | o => o) else .nx env1 s) := y1
      refine ⟨B, U1, env1, s1, hs, g1, Post.unbnd ((st_post y1).imp fun r s2 y2 => ?_)⟩
      obtain ⟨k2, ek, y2⟩ := needS_some y2
      show Post G W B env1 hs σ1 _ (need (bl? r) fun k => .ok k s2)
      rw [ek]
      intro U2 H2 g2
      cases k2 with
      | false =>
        rw [if_neg Bool.false_ne_true]
        rw [if_neg Bool.false_ne_true] at y2
        exact y2 U2 H2 σ1 g2
      | true =>
        rw [if_pos rfl]
        rw [if_pos rfl] at y2
        refine ⟨fun σ H => ∃ U env fs, Rel G B U env fs hs σ H ∧ PostS G W B hs D (whlS (ev P ec) (ex P b) m env fs), fun σ' H' z => ⟨m, Nat.lt_succ_self _, z⟩, B, U2, env1, s2, hs, g2, ?_⟩
        cases z : ex P b env1 s2 with
        | bad =>
          rw [z] at y2
          exact y2
        | nx e s1 =>
          rw [z] at y2
          exact fun U6 H6 σ6 g6 => ⟨U6, e, s1, g6, y2⟩
        | ct e s1 =>
          rw [z] at y2
          exact fun U6 H6 σ6 g6 => ⟨U6, e, s1, g6, y2⟩
        | bk e s1 =>
          rw [z] at y2
          exact y2
        | rt r e s1 =>
          rw [z] at y2
          exact y2
        | exc x e s1 =>
          rw [z] at y2
          exact y2
end
end
end Wv
namespace Wv
open PySem L2
section
variable {p : Pg} {G : Cfg} {n : Nat} {g : Bool} {X : Cx} {W : WX} {B : Bs} {U : Wd} {env : Ev} {fs fs' : FS} {hs hs' : List (V × R)} {σ : St} {H : Hp} {pos : Pos} {P : Prm}
/-- no own lists among the names -/
def AllFz (env : Ev) : Prop := ∀ (i : Nat) r, env[i]? = some (some r) → ∃ d, r = .fz d
theorem allFz_hide {own : List Nat} : AllFz (wipeE (hideE env) own) := fun i r e => by
  obtain ⟨e1, _⟩ := wipeE_some e
  obtain ⟨d, e2, _⟩ := hide_some e1
  exact ⟨d, e2⟩
theorem allFz_set {env : Ev} (h : AllFz env) (i : Nat) (d : D) : AllFz (env.set i (some (.fz d))) := fun j r e => by
  by_cases hj : i = j
  · subst hj
    by_cases hl : i < env.length
    · rw [List.getElem?_set_self hl] at e
      cases e
      exact ⟨d, rfl⟩
    · rw [List.getElem?_eq_none (by rw [List.length_set]; omega)] at e
      cases e
  · rw [List.getElem?_set_ne hj] at e
    exact h j r e
theorem allFz_fold : ∀ {l : List (Nat × D)} {env : Ev}, AllFz env → AllFz (l.foldl (fun e p => e.set p.1 (some (.fz p.2))) env)
  | [], _, h => h
  | q :: l, env, h => allFz_fold (l := l) (allFz_set h q.1 q.2)
theorem allFz_asg {tg : Tg} {d : D} {env env' : Ev} (h : AllFz env) (e : asgT tg d env = some env') : AllFz env' := by
  cases tg with
  | n i =>
    cases e
    exact allFz_set h i d
  | t is =>
    cases d with
    | tup ds =>
      have e : (if is.length = ds.length then some ((is.zip ds).foldl (fun e p => e.set p.1 (some (.fz p.2))) env) else none) = some env' := e
      split at e
      · cases e
        exact allFz_fold h
      · cases e
    | _ => cases e
  | q i is =>
    obtain ⟨d1, ds, rfl, _, rfl⟩ := asgT_q e
    exact allFz_fold (allFz_set h i d1)
/-- the names' values, to be held -/
def nmHold : Ev → St → List (V × R)
  | some r :: env, some v :: σ => (v, r) :: nmHold env σ
  | _ :: env, _ :: σ => nmHold env σ
  | _, _ => []
theorem nmHold_of (q : ∀ (i : Nat) r, env[i]? = some (some r) → ∃ v, σ[i]? = some (some v) ∧ RepR G U H v r) : ∀ x ∈ nmHold env σ, RepR G U H x.1 x.2 := by
  induction env generalizing σ with
  | nil => intro x hx; cases hx
  | cons o env ih =>
    cases σ with
    | nil => intro x hx; cases o <;> cases hx
    | cons w σ =>
      have q2 : ∀ (i : Nat) r, env[i]? = some (some r) → ∃ v, σ[i]? = some (some v) ∧ RepR G U H v r := fun i r e => q (i + 1) r e
      cases o with
      | none =>
        intro x hx
        exact ih q2 x hx
      | some r =>
        obtain ⟨v, e1, e2⟩ := q 0 r rfl
        cases w with
        | none => cases e1
        | some w =>
          cases e1
          intro x hx
          rcases List.mem_cons.mp hx with e | e
          · subst e
            exact e2
          · exact ih q2 x e
theorem nmHold_mem : ∀ {env : Ev} {σ : St} {i : Nat} {r : R} {v : V}, env[i]? = some (some r) → σ[i]? = some (some v) → (v, r) ∈ nmHold env σ
  | [], _, i, r, v, e, _ => by simp at e
  | _ :: _, [], i, r, v, _, e => by simp at e
  | o :: env, w :: σ, 0, r, v, e, e' => by
    cases e
    cases e'
    exact List.mem_cons_self
  | o :: env, w :: σ, i + 1, r, v, e, e' => by
    have z := nmHold_mem (env := env) (σ := σ) (i := i) e e'
    cases o with
    | none => cases w <;> exact z
    | some r =>
      cases w with
      | none => exact z
      | some w => exact List.mem_cons_of_mem _ z
section
variable {tg tg1 : Tg} {it it1 tt el : E} {own own1 : List Nat}
theorem rd_co2 {Q : VK} (hto : ∀ i ∈ tg.ix, i ∈ own) (hto1 : ∀ i ∈ tg1.ix, i ∈ own1) (h : tE G W (ev P (.co2 own tg it own1 tg1 it1 tt el)) σ H Q) :
    tLc2 (tI G W (evX P it)) (gT G tg) (tT G WN (evt P .nil)) (tI G WN (evX P it1)) (gT G tg1) (tT G WN (evt P tt)) (tE G WN (ev P el)) own own1 σ H Q := by
  obtain ⟨B, U, env, fs, hs, g0, y⟩ := h
  refine ⟨B, U, env, fs, hs, g0, Post.unbnd (y.bnd.imp fun rs s1 y => ?_)⟩
  obtain ⟨ds, ed, y⟩ := y.need
  obtain ⟨xs, ex, y⟩ := y.need
  obtain ⟨r, er, y⟩ := y.need
  rw [ed]
  show Post G W B env hs σ _ (need (itD it ds) fun xs => .ok (rs, ds, xs) s1)
  rw [ex]
  intro U1 H1 vs J g1 rr _ hJ D0 hD
  obtain ⟨U2, g2⟩ := (g1.holdAll rr).begun (c0 := .lst []) (o := .lst []) hD fun H' e m => ⟨[], e, .nil⟩
  let body : Wv.D → List Wv.D → List Cl → Option (List Wv.D × List Cl) := fun x acc st => match asgT tg x (wipeE (hideE env) own) with
    | some env1 => (match evI P it1 env1 ⟨[], st⟩ with
      | .ok rs s1 => (fzs s1 rs).bind fun p => (itD it1 p.1).bind fun ys => turns (itBody P env1 own1 tg1 tt el) ys acc p.2.st
      | _ => none)
    | none => none
  have er : turns body xs [] s1.st = some r := er
  let hs1 : List (V × R) := vs.zip rs ++ hs
  let k := s1.ol.length
  let Wi : Nat → Nat → Hp → Prop := fun i m H => m = xs.length - i ∧ i ≤ xs.length ∧ ∃ U acc st, Rel G B U env ⟨s1.ol ++ [(true, .lst acc)], st⟩ ((.ref D0, .own k) :: hs1) σ H ∧ turns body (xs.drop i) acc st = some r
  refine ⟨Wi, ⟨_, rfl, Nat.zero_le _, U2, [], s1.st, g2, er⟩, ?_⟩
  rintro i m H3 ⟨rfl, hi, U3, acc, st, g3, ht⟩
  have L : RepBs G U3 H3 vs ds := g3.looks (g3.drop.heldAll rr.length) (dvs_app ed)
  obtain ⟨j1, j2⟩ := hJ U3 H3 L i
  by_cases hlt : i < xs.length
  · obtain ⟨jg, jy⟩ := j1 _ (List.getElem?_eq_getElem hlt)
    rw [List.drop_eq_getElem_cons hlt] at ht
    obtain ⟨acc', st', hb, ht⟩ := turns_cons ht
    refine .inr ⟨jg, Wi (i + 1) (xs.length - (i + 1)), fun H' z => ⟨_, by omega, z⟩, fun v H' yy => ?_⟩
    obtain ⟨U4, g4⟩ := jy v H' yy _ _ _ _ _ g3
    have hb : (match asgT tg xs[i] (wipeE (hideE env) own) with
      | some env1 => (match evI P it1 env1 ⟨[], st⟩ with
        | .ok rs s1 => (fzs s1 rs).bind fun p => (itD it1 p.1).bind fun ys => turns (itBody P env1 own1 tg1 tt el) ys acc p.2.st
        | _ => none)
      | none => none) = some (acc', st') := hb
    cases ea : asgT tg xs[i] (wipeE (hideE env) own) with
    | none =>
      rw [ea] at hb
      cases hb
    | some env1 =>
    rw [ea] at hb
    refine ⟨_, _, _, env1, _, [], xs[i], g4.block own (hs' := [(v, .fz xs[i])]) fun q hq => ?_, ea, fun σ2 g5 hw => ⟨by rw [hw own hto, wipe_twice], _, _, _, _, _, g5, fun U6 H6 g6 => ?_⟩⟩
    · rw [List.mem_singleton.mp hq]
      exact ⟨xs[i], rfl, g4.top⟩
    dsimp only
    rw [if_pos rfl]
    have hb : (match evI P it1 env1 ⟨[], st⟩ with
      | .ok rs s1 => (fzs s1 rs).bind fun p => (itD it1 p.1).bind fun ys => turns (itBody P env1 own1 tg1 tt el) ys acc p.2.st
      | _ => none) = some (acc', st') := hb
    refine ⟨_, U6, env1, ⟨[], st⟩, [], g6, ?_⟩
    unfold evX
    cases ei : evI P it1 env1 ⟨[], st⟩ with
    | bad =>
      rw [ei] at hb
      cases hb
    | exc x s2 =>
      rw [ei] at hb
      cases hb
    | ok rs1 s2 =>
      rw [ei] at hb
      have hb : (fzs s2 rs1).bind (fun p => (itD it1 p.1).bind fun ys => turns (itBody P env1 own1 tg1 tt el) ys acc p.2.st) = some (acc', st') := hb
      cases ef : fzs s2 rs1 with
      | none =>
        rw [ef] at hb
        cases hb
      | some q =>
        obtain ⟨ds1, s3⟩ := q
        rw [ef] at hb
        have hb : (itD it1 ds1).bind (fun ys => turns (itBody P env1 own1 tg1 tt el) ys acc s3.st) = some (acc', st') := hb
        cases ey : itD it1 ds1 with
        | none =>
          rw [ey] at hb
          cases hb
        | some ys =>
          rw [ey] at hb
          have hb : turns (itBody P env1 own1 tg1 tt el) ys acc s3.st = some (acc', st') := hb
          show Post G WN _ env1 [] σ2 _ (need (dvs s2 rs1) fun ds => need (itD it1 ds) fun xs => .ok (rs1, ds, xs) s2)
          rw [fzs_dvs ef]
          show Post G WN _ env1 [] σ2 _ (need (itD it1 ds1) fun xs => .ok (rs1, ds1, xs) s2)
          rw [ey]
          intro U7 H7 vs1 J1 g7 rr1 _ hJ1
          obtain ⟨U8, g8, r8, _⟩ := g7.fzAll rr1 ef
          have g9 := g4.back (g8.holdAll (.of r8))
          have fzE : AllFz env1 := allFz_asg allFz_hide ea
          -- the frame with the block's names
          let hs2 : List (V × R) := nmHold env σ ++ (vs1.zip (ds1.map R.fz) ++ hs1)
          have l1 : vs1.length = (ds1.map R.fz).length := by rw [List.length_map]; exact r8.length
          have g10 : Rel G B ⟨U8.F, U8.mu, U4.ml⟩ env1 ⟨s1.ol ++ [(true, .lst acc)], s3.st⟩ ((.ref D0, .own k) :: hs2) σ2 H7 := by
            have ghold : Rel G B ⟨U8.F, U8.mu, U4.ml⟩ env ⟨s1.ol ++ [(true, .lst acc)], s3.st⟩ ((.ref D0, .own k) :: hs2) σ H7 := g9.hold fun q hq => by
              rcases List.mem_cons.mp hq with e | e
              · rw [e]
                exact g9.drop.top
              · rcases List.mem_append.mp e with e | e
                · exact nmHold_of g9.env q e
                · rcases List.mem_append.mp e with e | e
                  · have z : Rel G B ⟨U8.F, U8.mu, U4.ml⟩ env ⟨s1.ol ++ [(true, .lst acc)], s3.st⟩ (vs1.zip (ds1.map R.fz)) σ H7 := by
                      have z2 : ∀ {vs : List V} {ds : List Wv.D}, Reps G U8.F U8.mu H7 vs ds → RepRs G ⟨U8.F, U8.mu, U4.ml⟩ H7 vs (ds.map R.fz) := fun r => RepRs.of (W := ⟨U8.F, U8.mu, U4.ml⟩) r
                      have z3 := (g9.hold (hs' := []) (fun _ e => nomatch e)).holdAll (z2 r8)
                      rw [List.append_nil] at z3
                      exact z3
                    exact z.held q e
                  · exact g9.held q (List.mem_cons_of_mem _ (List.mem_cons_of_mem _ e))
            refine ghold.names g8.elen fun j r e => ?_
            obtain ⟨d, e1⟩ := fzE j r e
            subst e1
            exact g8.env j _ e
          refine lc_turns (B := B) (env := env1) (ol := s1.ol) (hs := hs2) (own := own1) (r := (acc', st')) hJ1 hto1 g10 hb (fun acc st U H g => ?_) (fun U H g => ⟨rfl, hlt, U, acc', st', ?_, ht⟩)
          · have z : Rel G B U env1 ⟨s1.ol ++ [(true, .lst acc)], st⟩ (vs1.zip (ds1.map R.fz) ++ []) σ2 H := g.hold fun q hq => g.held q (List.mem_cons_of_mem _ (List.mem_append_right _ (List.mem_append_left _ (by rw [List.append_nil] at hq; exact hq))))
            refine z.looks (z.heldAll l1) ?_
            have q : ∀ ds : List Wv.D, dvs ⟨s1.ol ++ [(true, .lst acc)], st⟩ (ds.map R.fz) = some ds := fun ds => by
              induction ds with
              | nil => rfl
              | cons d ds ih =>
                show (dvs ⟨s1.ol ++ [(true, .lst acc)], st⟩ (ds.map R.fz)).map (d :: ·) = some (d :: ds)
                rw [ih]
                rfl
            exact q ds1
          · have z : Rel G B U env1 ⟨s1.ol ++ [(true, .lst acc')], st'⟩ ((.ref D0, .own k) :: hs1) σ2 H := g.hold fun q hq => g.held q (by
              rcases List.mem_cons.mp hq with e | e
              · exact e ▸ List.mem_cons_self
              · exact List.mem_cons_of_mem _ (List.mem_append_right _ (List.mem_append_right _ e)))
            refine z.names g3.elen fun j r e => ?_
            obtain ⟨w, e1, _⟩ := g3.env j r e
            exact ⟨w, e1, g.held (w, r) (List.mem_cons_of_mem _ (List.mem_append_left _ (nmHold_mem e e1)))⟩
  · have e : i = xs.length := by omega
    subst e
    rw [List.drop_length] at ht
    have ht : some (acc, st) = some r := ht
    cases ht
    exact .inl ⟨j2 rfl, y _ U3 H3 (g3.hold fun q hq => g3.held q (by
      rcases List.mem_cons.mp hq with e | e
      · exact e ▸ List.mem_cons_self
      · exact List.mem_cons_of_mem _ (List.mem_append_right _ e)))⟩
end
end
end Wv
namespace Wv
open PySem L2
section
variable {p : Pg} {G : Cfg} {n : Nat} {g : Bool} {X : Cx} {W : WX} {pos : Pos} {P : Prm}
theorem pts_yes : PTs X [] (tT G W (evt P .nil)) := ⟨fun pins s σ H Q I h => pts_nil.run pins s σ H Q I (by
  obtain ⟨B, U, env, fs, hs, r, y⟩ := h
  exact y U H r)⟩
variable {elt tgE iter tgE1 iter1 : Expr} {ifs1 : List Expr} {scope : Scope} {ownL : List (Str × Nat)} {own1 : List Nat} {tg tg1 : Tg} {it it1 tt el : E}
theorem sd_co2 (o : XOk G p n g X W) (hto : ∀ i ∈ tg.ix, i ∈ ownL.map (·.2)) (hto1 : ∀ i ∈ tg1.ix, i ∈ own1) (hv : ∀ i ∈ own1, i ∈ ownL.map (·.2)) (hi : PI X tgE iter (tI G W (evX P it))) (ok : BlkOk X.N X.env.scope scope ownL)
    (hg : ∀ (s : Shared) (H : Hp) (C : Addr) (cl : List (Str × Addr)) (fp : List Addr), PG (X.blk s H scope (compEnvC scope cl C X.env) fp) tgE (gT G tg))
    (hi1 : ∀ (s : Shared) (H : Hp) (C : Addr) (cl : List (Str × Addr)) (fp : List Addr), PI (X.blk s H scope (compEnvC scope cl C X.env) fp) tgE1 iter1 (tI G WN (evX P it1)))
    (hg1 : ∀ (s : Shared) (H : Hp) (C : Addr) (cl : List (Str × Addr)) (fp : List Addr), PG (X.blk s H scope (compEnvC scope cl C X.env) fp) tgE1 (gT G tg1))
    (ht : ∀ (s : Shared) (H : Hp) (C : Addr) (cl : List (Str × Addr)) (fp : List Addr), PTs (X.blk s H scope (compEnvC scope cl C X.env) fp) ifs1 (tT G WN (evt P tt)))
    (he : ∀ (s : Shared) (H : Hp) (C : Addr) (cl : List (Str × Addr)) (fp : List Addr), PE (X.blk s H scope (compEnvC scope cl C X.env) fp) elt (tE G WN (ev P el))) (hs : noSet iter = true) (hs1 : noSet iter1 = true) :
    PE X (.ListComp elt [⟨tgE, iter, [], 0⟩, ⟨tgE1, iter1, ifs1, 0⟩] scope pos) (tE G W (ev P (.co2 (ownL.map (·.2)) tg it own1 tg1 it1 tt el))) :=
  (pe_lc2 o.calm o.nd hi ok hv hg (fun _ _ _ _ _ => pts_yes) hi1 hg1 ht he (set_no hs) (fun _ => set_no hs1)).imp fun σ H Q h => rd_co2 hto hto1 h
theorem ss_setLc2 (o : XOk G p n g X W) {i : Nat} {y : Str} {py spos : Pos} (hi0 : X.N[i]? = some y) (hyl : X.env.scope.names.lookup y = some .local) (hk : X.env.scope.kind = .function) (hl : (py.line == pos.line) = true)
    (hsc : (scope.names.any fun (n, k) => n == y && (k == .local || k == .cell)) = false) (hto : ∀ i ∈ tg.ix, i ∈ ownL.map (·.2)) (hto1 : ∀ i ∈ tg1.ix, i ∈ own1) (hv : ∀ i ∈ own1, i ∈ ownL.map (·.2)) (hi : PI X tgE iter (tI G W (evX P it))) (ok : BlkOk X.N X.env.scope scope ownL)
    (hg : ∀ (s : Shared) (H : Hp) (C : Addr) (cl : List (Str × Addr)) (fp : List Addr), PG (X.blk s H scope (compEnvC scope cl C X.env) fp) tgE (gT G tg))
    (hi1 : ∀ (s : Shared) (H : Hp) (C : Addr) (cl : List (Str × Addr)) (fp : List Addr), PI (X.blk s H scope (compEnvC scope cl C X.env) fp) tgE1 iter1 (tI G WN (evX P it1)))
    (hg1 : ∀ (s : Shared) (H : Hp) (C : Addr) (cl : List (Str × Addr)) (fp : List Addr), PG (X.blk s H scope (compEnvC scope cl C X.env) fp) tgE1 (gT G tg1))
    (ht : ∀ (s : Shared) (H : Hp) (C : Addr) (cl : List (Str × Addr)) (fp : List Addr), PTs (X.blk s H scope (compEnvC scope cl C X.env) fp) ifs1 (tT G WN (evt P tt)))
    (he : ∀ (s : Shared) (H : Hp) (C : Addr) (cl : List (Str × Addr)) (fp : List Addr), PE (X.blk s H scope (compEnvC scope cl C X.env) fp) elt (tE G WN (ev P el))) (hs : noSet iter = true) (hs1 : noSet iter1 = true) :
    PS X (.Assign [.Name y py] (.ListComp elt [⟨tgE, iter, [], 0⟩, ⟨tgE1, iter1, ifs1, 0⟩] scope pos) spos) (tS G W (ex P (.alc2 i (ownL.map (·.2)) tg it own1 tg1 it1 tt el))) :=
  (ps_setLc2 o.calm o.nd hi0 hyl (sw_true hk hyl hl hsc) hi ok hv hg (fun _ _ _ _ _ => pts_yes) hi1 hg1 ht he (set_no hs) (fun _ => set_no hs1)).imp fun D σ H h =>
    rd_co2 hto hto1 (tE_mono (tS_val (k := fun env r s => .nx (env.set i (some r)) s) h) fun v H1 ⟨B, U, env, fs, hs, r, g1, y⟩ => y U H1 _ (g1.drop.store g1.top))
end
end Wv
namespace Wv
open PySem L2 PyProof.Rows HT
section
variable {prog : Program} {w : World} {A : Around} {E : Value → Shared → Prop} {s : Shared}
theorem rev_pick (xs : Array Value) : ((List.range xs.size).filterMap fun (k : Nat) => xs[(((xs.size : Int) - 1) + (k : Int) * (-1)).toNat]?).toArray = xs.toList.reverse.toArray := by
  have e : (fun (k : Nat) => xs[(((xs.size : Int) - 1) + (k : Int) * (-1)).toNat]?) = (xs[·]?) ∘ fun k => xs.size - 1 - k := by
    funext k
    have : (((xs.size : Int) - 1) + (k : Int) * (-1)).toNat = xs.size - 1 - k := by omega
    rw [this] <;> rfl
  rw [e, ← List.filterMap_map, PySem.W.krv_range, List.filterMap_reverse, PySem.W.krv_all]
theorem rev_adjust (n : Nat) : Builtin.Slice.sliceAdjust none none (-1) (n : Int) = ((n : Int) - 1, -1) := by
  simp [Builtin.Slice.sliceAdjust]
theorem rev_places (n : Nat) : Builtin.Slice.slicePlaces ((n : Int) - 1) (-1) (-1) = n := by
  unfold Builtin.Slice.slicePlaces
  rw [if_neg (by decide)]
  by_cases h : n = 0
  · subst h
    decide
  · rw [if_pos (by omega)]
    have : (((n : Int) - 1 - -1 - 1) / - -1) = (n : Int) - 1 := by
      rw [show (- -1 : Int) = 1 by decide, Int.ediv_one]
      omega
    rw [this]
    omega
theorem sliceApplied_rev {sl : Addr} {vs : Value} {n : Nat} {Q : Int × Int × Nat → Shared → Prop} (hs : s.heap.IsSliceOf sl .none .none vs) (ps : IsPart vs (some (-1)))
    (h : Q ((n : Int) - 1, -1, n) s) : wpAny (model prog w) A (Builtin.Slice.sliceApplied (.ref sl) (pure (n : Int))) Q E s := by
  obtain ⟨os, hos, hcs, hds⟩ := id hs
  unfold Builtin.Slice.sliceApplied Builtin.Slice.sliceFields
  refine wpAny_bind (wpAny_bind (wpAny_field hos hds (x := .none) rfl (wpAny_bind (wpAny_field hos hds (x := .none) rfl (wpAny_bind (wpAny_field hos hds (x := vs) rfl (wpAny_pure ?_)))))))
  refine wpAny_bind (slicePart_ ps ?_)
  show wpAny _ _ (if ((-1 : Int) == 0) = true then _ else _) _ _ s
  rw [if_neg (by decide)]
  refine wpAny_bind (slicePart_none (wpAny_bind (slicePart_none (wpAny_bind (wpAny_pure ?_)))))
  show wpAny _ _ (match Builtin.Slice.sliceAdjust none none (-1) (n : Int) with | (lo, hi) => pure (lo, (-1 : Int), Builtin.Slice.slicePlaces lo hi (-1))) _ _ s
  rw [rev_adjust n]
  show wpAny _ _ (pure ((n : Int) - 1, (-1 : Int), Builtin.Slice.slicePlaces ((n : Int) - 1) (-1) (-1))) _ _ s
  rw [rev_places]
  exact wpAny_pure h
theorem getItem_tuple_rev {t sl : Addr} {items : Array Value} {vs : Value} {Q : Value → Shared → Prop} (ht : IsTup s.heap t items) (hs : s.heap.IsSliceOf sl .none .none vs) (ps : IsPart vs (some (-1)))
    (h : Q (.ref s.heap.objs.size) { s with heap := s.heap.push { cls := .type "tuple", data := .seq items.toList.reverse.toArray } })
    (hsz : items.size ≤ sizeLine) : wpAny (model prog w) A (getItem (.ref t) (.ref sl)) Q E s := by
  have htake : sizeOk (.seq items.toList.reverse.toArray) := by
    show items.toList.reverse.toArray.size ≤ sizeLine
    rw [List.size_toArray, List.length_reverse, Array.length_toList]
    exact hsz
  obtain ⟨os, hos, hcs, hds⟩ := id hs
  have hTs : s.TypeIs (.ref sl) "slice" := ⟨os, hos, hcs⟩
  unfold getItem
  try with_reducible refine wpAny_holding ?_
  first | refine wpAny_bind (wpAny_pure ?_) | skip
  refine wpAny_bind (wpAny_sequenceKey ht.typeIs (by decide) ?_)
  refine wpAny_bind (wpAny_callSpecial?_slot (name := Str.ofString "__getitem__") ht.typeIs PyProof.Rows.slot_tuple_getitem
    (wpAny_call_entry PyProof.Rows.slot_tuple_getitem ht.typeIs entry_tuple_getitem ?_ (args_tuple_getitem _ _)))
  show wpAny _ _ (Builtin.Tuple.tupleItemsOf (.ref t) >>= _) _ _ s
  refine wpAny_bind (tupleItemsOf_ ht ?_)
  refine wpAny_bind (wpAny_typeOf hTs ?_)
  rw [if_pos (by decide)]
  refine wpAny_bind (sliceApplied_rev hs ps ?_)
  have hno : ¬ (((((items.size : Int) - 1) == 0) && ((-1 : Int) == 1) && (items.size == items.size)) = true) := by
    simp
  show wpAny _ _ (if ((((items.size : Int) - 1) == 0) && ((-1 : Int) == 1) && (items.size == items.size)) = true then _ else _) _ _ s
  rw [if_neg hno, rev_pick]
  first
    | exact wpAny_bind (m := Builtin.Tuple.tupleExact _) (wpAny_newObj_type (wpAny_pure ⟨_, rfl, wpAny_pure h⟩) htake)
    | exact wpAny_bind (m := Builtin.Tuple.tupleExact _) (wpAny_newObj_type (wpAny_bind (wpAny_pure (wpAny_pure ⟨_, rfl, wpAny_pure h⟩))) htake)
    | exact wpAny_bind (wpAny_bind (m := Builtin.Tuple.tupleExact _) (wpAny_newObj_type (wpAny_pure (wpAny_pure ⟨_, rfl, wpAny_pure h⟩)) htake))
    | exact wpAny_bind (wpAny_bind (m := Builtin.Tuple.tupleExact _) (wpAny_newObj_type (wpAny_pure ⟨_, rfl, wpAny_pure h⟩) htake))
end
section
variable {X : Cx}
def tRevA (K : PySem.W.Frag) (te : TE) : TE := fun σ H Q => te σ H fun x H1 => ∃ a xs, x = .ref a ∧ ((SqL K H1 a xs ∧ ∀ p, H1 p = none → Q (.ref p) (upd H1 p (.lst xs.reverse))) ∨ (SqT K H1 a xs ∧ ∀ p, H1 p = none → Q (.ref p) (upd H1 p (.tup xs.reverse))))
theorem pe_revA {e : Expr} {te : TE} {k : Nat} {p1 p2 p3 pos : Pos} (he : PE X e te) : PE X (.Subscript e (.Slice none none (some (.UnaryOp .USub (.Constant (.int 1) k p1) p2)) p3) pos) (tRevA X.K te) := by
  refine ⟨fun pins s σ H Q I h => ?_⟩
  refine Subscript_ (thn (he.run pins s σ H _ I h) fun v s1 ⟨x, H1, I1, r1, q1⟩ => ?_)
  obtain ⟨a, xs, ex, hx⟩ := q1
  subst ex
  cases r1
  have hst : PO X (some (.UnaryOp .USub (.Constant (.int 1) k p1) p2)) (tPart (tUn (rU fun i => .int (-i)) (tC (.int 1)))) := po_some (pe_un un_neg pe_int)
  refine wpAny_Slice (thn (po_none.run pins s1 σ H1 (fun o H2 => o = none ∧ H2 = H1) I1 ⟨rfl, rfl⟩) fun vl s2 ⟨l, H2, I2, pl, el, e2⟩ => ?_)
  subst el e2
  refine thn (po_none.run pins s2 σ H2 (fun o H3 => o = none ∧ H3 = H2) I2 ⟨rfl, rfl⟩) fun vu s3 ⟨u, H3, I3, pu, eu, e3⟩ => ?_
  subst eu e3
  refine thn (hst.run pins s3 σ H3 (fun o H4 => o = some (-1) ∧ H4 = H3) I3 ⟨1, rfl, -1, rfl, rfl, rfl⟩) fun vs s4 ⟨o, H4, I4, ps, eo, e4⟩ => ?_
  subst eo e4
  have I5 : Inv X pins σ H4 { s4 with heap := s4.heap.push { cls := .type "slice", data := .fields #[vl, vu, vs] } } := I4.kept (t' := s4.toks) fun b ob q => Heap.get?_push_of_some _ q
  show wpAny (model X.prog X.w) X.A (subscriptTail e (.Slice none none (some (.UnaryOp .USub (.Constant (.int 1) k p1) p2)) p3) (.ref a) (.ref s4.heap.objs.size)) (EP X pins σ Q) X.xe { s4 with heap := s4.heap.push { cls := .type "slice", data := .fields #[vl, vu, vs] } }
  rcases hx with ⟨hx, q⟩ | ⟨hx, q⟩
  · obtain ⟨its, r, ht, hz⟩ := I5.list hx
    have hlen := r.length
    refine tail_any (ops := [.ref a, .ref s4.heap.objs.size]) ht.isList.typeIs (PySem.slot_list_getitem.lookup) ?_ (by with_unfolding_all rfl)
    refine wpAny_getItem_list_slice ht.isList (Heap.IsSliceOf.new _ vl vu vs) pl pu ps (by decide) ?_ (by rw [List.size_toArray]; omega)
    rw [PySem.W.krv_pick]
    refine ⟨.ref _, _, I5.laid (t' := s4.toks) (o := .lst xs.reverse) (fun b ob q => Heap.get?_push_of_some _ q) (Nat.le_refl _) ?_, rfl, q _ (I5.hok.fresh (Nat.le_refl _))⟩
    exact ⟨by rw [List.length_reverse]; exact hz, _, 0, r.reverse, Heap.get?_push_size _ rfl⟩
  · obtain ⟨its, r, ht, hz⟩ := I5.tuple hx
    have hlen := r.length
    have el : vl = .none := by cases pl <;> rfl
    have eu : vu = .none := by cases pu <;> rfl
    subst el eu
    refine tail_any (ops := [.ref a, .ref s4.heap.objs.size]) ht.typeIs (PyProof.Rows.slot_tuple_getitem.lookup) ?_ (by with_unfolding_all rfl)
    refine getItem_tuple_rev ht (Heap.IsSliceOf.new _ .none .none vs) ps ?_ (by rw [List.size_toArray]; omega)
    refine ⟨.ref _, _, I5.laid (t' := s4.toks) (o := .tup xs.reverse) (fun b ob q => Heap.get?_push_of_some _ q) (Nat.le_refl _) ?_, rfl, q _ (I5.hok.fresh (Nat.le_refl _))⟩
    exact ⟨by rw [List.length_reverse]; exact hz, _, r.reverse, IsTup.new _ _⟩
end
section
variable {G : Cfg} {p : Pg} {n : Nat} {g : Bool} {X : Cx} {W : WX} {B : Bs} {U : Wd} {env : Ev} {fs : FS} {hs : List (V × R)} {σ : L2.St} {H : Hp} {P : Prm} {pos : Pos} {pins : List (Addr × Obj)} {s : Shared}
theorem sd_rev (o : XOk G p n g X W) {e : Expr} {ee : E} {k : Nat} {p1 p2 p3 : Pos} (he : PE X e (tE G W (ev P ee))) : PE X (.Subscript e (.Slice none none (some (.UnaryOp .USub (.Constant (.int 1) k p1) p2)) p3) pos) (tE G W (ev P (.rev ee))) :=
  (pe_revA he).imp fun σ H Q h => by
    obtain ⟨B, U, env, fs, hs, r, y⟩ := h
    refine ⟨B, U, env, fs, hs, r, y.bnd.imp fun a s1 y v U1 H1 g1 => ?_⟩
    obtain ⟨d, ed, y⟩ := y.need
    obtain ⟨z, ez, y⟩ := y.need
    have b := g1.look g1.top ed
    unfold revD at ez
    split at ez
    · cases ez
      obtain ⟨a, vs, e1, f1, h1, r1⟩ := b.tup
      exact ⟨a, vs, e1, .inr ⟨.of h1, fun q hq => RsP.tup (post_rs y) g1.drop r1.rev hq⟩⟩
    · cases ez
      obtain ⟨a, vs, e1, h1, r1⟩ := b.lst
      exact ⟨a, vs, e1, .inl ⟨.of h1, fun q hq => RsP.lst (post_rs y) g1.drop r1.rev hq⟩⟩
    · cases ez
theorem rngE_one {a : Expr} {ea : E} {q : Pos} (o : XOk G p n g X W) (hg : Gl X "range") (ha : PE X a (tE G W (ev P ea))) (hs : noStar a = true) : PRg X (.Call (.Name "range" q) [a] [] pos) (tRg1 (tE G W (ev P ea))) :=
  prg_1 hg (by rw [o.mg]; exact o.pg.free _ (by decide)) ha (by exact star_no hs)
theorem rg_reps {n : Int} {H : Hp} {F : Addr → Prop} {mu : List Addr} : Reps G F mu H (rgV 0 n) ((List.range n.toNat).map fun (i : Nat) => D.int (i : Int)) := by
  unfold rgV
  rw [show n - 0 = n from Int.sub_zero n]
  induction (List.range n.toNat) with
  | nil => exact .nil
  | cons x r ih => exact .cons (by show Rep G F mu H (V.int (0 + (x : Int))) (D.int x); rw [Int.zero_add]; exact .int _) ih
theorem rng_ev {ea : E} {k : List D → FS → Out R} {Q : VK} (h : tE G W (fun env s => (evs P (.cons ea .nil) env s).bnd fun rs s => need (dvs s rs) fun ds => need (rngD ds) fun xs => k xs s) σ H Q) :
    tRg1 (tE G W (ev P ea)) σ H fun a b H1 => ∃ B U env fs hs, Rel G B U env fs hs σ H1 ∧ a = 0 ∧ RgOk a b ∧ Post G W B env hs σ (KQ G B env hs σ Q) (k ((List.range b.toNat).map fun (i : Nat) => D.int (i : Int)) fs) := by
  obtain ⟨B, U, env, fs, hs, r, y⟩ := h
  have y : Post G W B env hs σ (KQ G B env hs σ Q) (((ev P ea env fs).bnd fun x s => (Out.ok [x] s : Out (List R))).bnd fun rs s => need (dvs s rs) fun ds => need (rngD ds) fun xs => k xs s) := by
    have e : evs P (.cons ea .nil) env fs = (ev P ea env fs).bnd fun x s => (Out.ok [x] s : Out (List R)) := by
      show ((ev P ea env fs).bnd fun x s => (evs P .nil env s).bnd fun xs s => Out.ok (x :: xs) s) = _
      rfl
    rw [← e]
    exact y
  refine ⟨B, U, env, fs, hs, r, y.bnd.bnd.imp fun a s1 y v U1 H1 g1 => ?_⟩
  obtain ⟨ds, ed, y⟩ := Post.need y
  obtain ⟨xs, ex, y⟩ := Post.need y
  have ed : (match Wv.dv s1 a with
    | some d => (dvs s1 []).map (d :: ·)
    | none => none) = some ds := ed
  cases z : Wv.dv s1 a with
  | none =>
    rw [z] at ed
    cases ed
  | some d =>
    rw [z] at ed
    cases ed
    have b := g1.look g1.top z
    cases d with
    | int i =>
      have ex : (if -(2 ^ 62) ≤ i ∧ i ≤ 1000000 then some ((List.range i.toNat).map fun (j : Nat) => D.int (j : Int)) else none) = some xs := ex
      split at ex
      · rename_i hc
        cases ex
        exact ⟨i, b.int, B, U1, env, s1, hs, g1.drop, rfl, ⟨by decide, by decide, by omega, by omega, by omega⟩, y⟩
      · cases ex
    | _ => cases ex
theorem sd_lstr (o : XOk G p n g X W) {a : Expr} {ea : E} {q q2 q3 : Pos} (hg : Gl X "list") (hg2 : Gl X "range") (ha : PE X a (tE G W (ev P ea))) (hs : noStar a = true) :
    PE X (.Call (.Name "list" q) [.Call (.Name "range" q2) [a] [] q3] [] pos) (tE G W (ev P (.lstr (.cons ea .nil)))) :=
  (pe_listRg o.calm hg (by rw [o.mg]; exact o.pg.free _ (by decide)) (rngE_one o hg2 ha hs)).imp fun σ H Q h => by
    obtain ⟨B, U, env, fs, hs, r, y⟩ := rng_ev (k := fun xs s => (Rs.l xs).out s) h
    refine ⟨B, U, env, fs, hs, r, y.imp fun a s1 y v U1 H1 g1 => ?_⟩
    obtain ⟨b, e1, B, U, env, fs, hs, r, e0, ok, y⟩ := y v U1 H1 g1
    exact ⟨b, e1, ok, fun q hq => by exact RsP.lst (post_rs (r := .l _) y) r rg_reps hq⟩
theorem sd_tupr (o : XOk G p n g X W) {a : Expr} {ea : E} {q q2 q3 : Pos} (hg : Gl X "tuple") (hg2 : Gl X "range") (ha : PE X a (tE G W (ev P ea))) (hs : noStar a = true) :
    PE X (.Call (.Name "tuple" q) [.Call (.Name "range" q2) [a] [] q3] [] pos) (tE G W (ev P (.tupr (.cons ea .nil)))) :=
  (pe_tupRg o.calm hg (by rw [o.mg]; exact o.pg.free _ (by decide)) (rngE_one o hg2 ha hs)).imp fun σ H Q h => by
    obtain ⟨B, U, env, fs, hs, r, y⟩ := rng_ev (k := fun xs s => .ok (.fz (.tup xs)) s) h
    refine ⟨B, U, env, fs, hs, r, y.imp fun a s1 y v U1 H1 g1 => ?_⟩
    obtain ⟨b, e1, B, U, env, fs, hs, r, e0, ok, y⟩ := y v U1 H1 g1
    exact ⟨b, e1, ok, fun q hq => by exact RsP.tup (post_rs (r := .t (.tup _)) y) r rg_reps hq⟩
theorem sd_pop (o : XOk G p n g X W) {i : Nat} {x : Str} {e : Expr} {ee : E} {q1 q2 q3 : Pos} (hN : X.N[i]? = some x) (hv : Vis X.env.scope x) (h1 : (x == ("__debug__" : Str)) = false) (h2 : (x == ("__classdict__" : Str)) = false) (h : PE X e (tE G W (ev P ee))) (hs : noStar e = true) (hl : (q2.endLine == q3.line) = true) :
    PE X (.Call (.Attribute (.Name x q1) "pop" q2) [e] [] q3) (tE G W (ev P (.pop i ee))) :=
  (pe_bm F.plainAttrs_list F.slot_list_pop rfl mt_popAt (pe_var hN hv h1 h2) (pa_cons h pa_nil (star_no hs)) rfl (few_one hs) hl (star_no hs) rfl).imp fun σ H Q h => by
    obtain ⟨B, U, env, fs, hs, g0, y⟩ := h
    have y : Post G W B env hs σ (KQ G B env hs σ Q) (match env[i]? with
      | some (some (.own k)) => if isLst fs (.own k) = true then (ev P ee env fs).bnd fun r s => popD k r s else .bad
      | _ => .bad) := y
    cases z : env[i]? with
    | none =>
      rw [z] at y
      exact y.elim
    | some o =>
    cases o with
    | none =>
      rw [z] at y
      exact y.elim
    | some q =>
    cases q with
    | fz d =>
      rw [z] at y
      exact y.elim
    | own k =>
    rw [z] at y
    obtain ⟨hi, y⟩ := ite_post y
    obtain ⟨v, e1, rv⟩ := g0.env i _ z
    obtain ⟨a, xs, e2, e3⟩ := lst_at g0 rv hi
    subst e2
    refine ⟨_, e1, .inl ⟨rfl, xs, .of e3⟩, B, U, env, fs, hs, g0, y.bnd.imp fun r s1 y w U1 H1 g1 => ?_⟩
    obtain ⟨v2, e4, rv2⟩ := g1.env i _ z
    rw [e1] at e4
    cases e4
    obtain ⟨a2, e5, e6⟩ := rv2
    cases e6
    unfold popD at y
    split at y
    · rename_i j ys ek
      obtain ⟨m, em, y⟩ := Post.need y
      obtain ⟨d, ed, y⟩ := Post.need y
      split at em
      · rename_i hlen
        obtain ⟨⟨vs, h3, r3⟩, _⟩ := g1.own k a true _ e5 ek
        have l3 : vs.length = ys.length := r3.length
        obtain ⟨k1, k2, k3, k4⟩ := ixN_seq em
        obtain ⟨u, h6, r6⟩ := r3.get' ed
        have tw := g1.top
        cases tw
        refine ⟨a, vs, j, m, u, rfl, rfl, h3, by omega, by omega, by rw [l3]; exact k1, h6, ?_⟩
        have g2 := Rel.ownSet (c1 := .lst (ys.eraseIdx m)) (o := .lst (vs.eraseIdx m)) (g1.drop.push (r := .fz d) r6) e5 ek fun H' e mm => ⟨_, e, (r3.erase m).imp mm⟩
        exact y u _ _ g2
      · cases em
    · exact y.elim
theorem sd_frz {x : Expr} {ee : E} (h : PE X x (tE G W (ev P ee))) : PE X x (tE G W (ev P (.frz ee))) := h.imp fun σ H Q h => by
  obtain ⟨B, U, env, fs, hs, r, y⟩ := h
  have y : Post G W B env hs σ (KQ G B env hs σ Q) ((ev P ee env fs).bnd fun r s => need (Wv.fz s r) fun p => .ok (.fz p.1) p.2) := y
  refine ⟨B, U, env, fs, hs, r, y.bnd.imp fun a s1 y v U1 H1 g1 => ?_⟩
  obtain ⟨⟨d, s2⟩, ed, y⟩ := y.need
  obtain ⟨U2, g2, r2, _⟩ := g1.fz g1.top ed
  exact y v U2 H1 (g2.drop.push (r := .fz d) r2)
end
end Wv
namespace Wv
open PySem L2
/-- v is the key k, by the abstract heap -/
inductive KAt (H : Hp) : NestedKey → V → Prop
  | none : KAt H .none .non
  | num (i : Int) : KAt H (.num i) (.int i)
  | nil {a : Addr} (h : H a = some (.tup [])) : KAt H (.tup []) (.ref a)
  | tup {a : Addr} {vs : List V} {ks : List NestedKey} (h : H a = some (.tup vs)) (l : vs.length = ks.length) (t : ∀ (i : Nat) v k, vs[i]? = some v → ks[i]? = some k → KAt H k v) : KAt H (.tup ks) (.ref a)
/-- the dict at a has the table xs -/
def XD (H : Hp) (a : Addr) (xs : List (NestedKey × Addr × Value)) : Prop :=
  H a = some (dctO a xs) ∧ (a == sysModules) = false ∧ (xs.map (·.1)).Nodup ∧ xs.length ≤ sizeLine ∧ ∀ x ∈ xs, x.1.depth ≤ 8 ∧ KAt H x.1 (.ref x.2.1)
/-- a key has no texts -/
theorem KAt.hash {H : Hp} {w : World} {k : NestedKey} {v : V} (h : KAt H k v) : k.hash w = hashK k := by
  induction h with
  | none => rfl
  | num i => rfl
  | nil h => rfl
  | @tup a vs ks h l t ih =>
    have e : ∀ (ks : List NestedKey), (∀ k ∈ ks, k.hash w = hashK k) → NestedKey.hashes w ks = hashKs ks := by
      intro ks
      induction ks with
      | nil => intro _; rfl
      | cons k r ih => intro q; rw [NestedKey.hashes, hashKs, q k List.mem_cons_self, ih fun k z => q k (List.mem_cons_of_mem _ z)]
    rw [NestedKey.hash, hashK, e ks]
    intro k hk
    obtain ⟨i, hi⟩ := mem_get hk
    have hl : i < vs.length := by rw [l]; exact (List.getElem?_eq_some_iff.mp hi).1
    exact ih i _ k (List.getElem?_eq_getElem hl) hi
theorem nested_all {h : Heap} : ∀ {ks : List NestedKey} {vs : List V} {us : List Value}, Vals vs us → vs.length = ks.length → (∀ (i : Nat) v k u, vs[i]? = some v → ks[i]? = some k → RelV v u → NestedIs h k u) → NestedAll h ks us
  | [], vs, us, r, l, _ => by
    cases r with
    | nil => exact .nil
    | cons a b => cases l
  | k :: ks, vs, us, r, l, q => by
    cases r with
    | nil => cases l
    | cons a b => exact .cons (q 0 _ _ _ rfl rfl a) (nested_all b (Nat.succ.inj l) fun i v k u e1 e2 => q (i + 1) v k u e1 e2)
/-- .. in the heap -/
theorem KAt.is {P : Program} {w : World} {H : Hp} {h : Heap} (ok : HOk P w H h) {k : NestedKey} {v : V} (x : KAt H k v) : ∀ {u : Value}, RelV v u → NestedIs h k u := by
  induction x with
  | none =>
    intro u r
    cases (show u = Value.none from r)
    exact .none
  | num i =>
    intro u r
    obtain ⟨t, e⟩ := (show ∃ t, u = Value.int i t from r)
    subst e
    exact .int i t
  | @nil a e =>
    intro u r
    cases (show u = Value.ref a from r)
    obtain ⟨_, its, r, o, h1, h2, n, h3⟩ := (show ObjOk P w H h a (.tup []) from ok a _ e)
    cases r
    exact .tup h1 h2 h3 .nil
  | @tup a vs ks e l t ih =>
    intro u r
    cases (show u = Value.ref a from r)
    obtain ⟨_, its, r, o, h1, h2, n, h3⟩ := (show ObjOk P w H h a (.tup vs) from ok a _ e)
    exact .tup h1 h2 h3 (by simpa using nested_all r l fun i v k u e1 e2 z => ih i v k e1 e2 z)
mutual
theorem Rep.key {G : Cfg} {F : Addr → Prop} {mu : List Addr} {H : Hp} : ∀ {v : V} {d : D} {k : NestedKey}, Rep G F mu H v d → keyD d = some k → KAt H k v
  | _, _, k, .non, e => by
    cases e
    exact .none
  | _, _, k, .int i, e => by
    cases e
    exact .num i
  | _, _, k, .tup (xs := xs) h r, e => by
    have e : (keyDs xs).map NestedKey.tup = some k := e
    cases q : keyDs xs with
    | none =>
      rw [q] at e
      cases e
    | some ks =>
      rw [q] at e
      cases e
      obtain ⟨l, t⟩ := Reps.keys r q
      exact .tup h.2 l t
  | _, _, k, .bl b, e => nomatch e
  | _, _, k, .str s, e => nomatch e
  | _, _, k, .lst h g r, e => nomatch e
  | _, _, k, .scr h, e => nomatch e
  | _, _, k, .dic h g hk hv r, e => nomatch e
  | _, _, k, .ins h g hk hv r, e => nomatch e
  | _, _, k, .cel h, e => nomatch e
  | _, _, k, .cls c, e => nomatch e
  | _, _, k, .opq, e => nomatch e
theorem Reps.keys {G : Cfg} {F : Addr → Prop} {mu : List Addr} {H : Hp} : ∀ {vs : List V} {ds : List D} {ks : List NestedKey}, Reps G F mu H vs ds → keyDs ds = some ks →
    vs.length = ks.length ∧ ∀ (i : Nat) v k, vs[i]? = some v → ks[i]? = some k → KAt H k v
  | _, _, ks, .nil, e => by
    cases e
    exact ⟨rfl, fun i v k e => by simp at e⟩
  | _, _, ks, .cons (d := d) (ds := ds) h t, e => by
    have e : (match keyD d with
      | some p => (keyDs ds).map (p :: ·)
      | none => none) = some ks := e
    cases q : keyD d with
    | none =>
      rw [q] at e
      cases e
    | some p =>
      rw [q] at e
      have e : (keyDs ds).map (p :: ·) = some ks := e
      cases q2 : keyDs ds with
      | none =>
        rw [q2] at e
        cases e
      | some ps =>
        rw [q2] at e
        cases e
        obtain ⟨l, y⟩ := Reps.keys t q2
        refine ⟨congrArg (· + 1) l, fun i v k e1 e2 => ?_⟩
        cases i with
        | zero =>
          cases e1
          cases e2
          exact Rep.key h q
        | succ i => exact y i v k e1 e2
end
theorem DK.xd {G : Cfg} {F : Addr → Prop} {mu : List Addr} {H : Hp} : ∀ {kvs : List (NestedKey × D)} {xs : List (NestedKey × Addr × Value)}, DK G F mu H kvs xs → kvs.length = xs.length ∧ ∀ x ∈ xs, x.1.depth ≤ 8 ∧ KAt H x.1 (.ref x.2.1)
  | _, _, .nil => ⟨rfl, fun _ h => nomatch h⟩
  | _, _, .cons h1 h2 h3 h4 h5 t => by
    obtain ⟨l, q⟩ := t.xd
    refine ⟨congrArg (· + 1) l, fun x hx => ?_⟩
    rcases List.mem_cons.mp hx with e | e
    · subst e
      exact ⟨h1, h3.key h2⟩
    · exact q x e
theorem DK.get {G : Cfg} {F : Addr → Prop} {mu : List Addr} {H : Hp} (k : NestedKey) : ∀ {kvs : List (NestedKey × D)} {xs : List (NestedKey × Addr × Value)}, DK G F mu H kvs xs →
    (dgt kvs k = none ∧ atKey xs k = none) ∨ ∃ e a u v, dgt kvs k = some e ∧ atKey xs k = some (a, u) ∧ RelV v u ∧ Rep G F mu H v e
  | _, _, .nil => .inl ⟨rfl, rfl⟩
  | _, _, .cons (k := j) (a := a) (u := u) (v := v) (e := e) (kvs := kvs) (xs := xs) h1 h2 h3 h4 h5 t => by
    by_cases q : j = k
    · refine .inr ⟨e, a, u, v, ?_, ?_, h4, h5⟩
      · simp [dgt, q]
      · simp [atKey, q]
    · rcases t.get k with ⟨y1, y2⟩ | ⟨e', a', u', v', y1, y2, y3, y4⟩
      · refine .inl ⟨?_, ?_⟩
        · unfold dgt at y1 ⊢
          rw [List.find?_cons_of_neg (by simpa using q)]
          exact y1
        · unfold atKey at y2 ⊢
          rw [List.find?_cons_of_neg (by simpa using q)]
          exact y2
      · refine .inr ⟨e', a', u', v', ?_, ?_, y3, y4⟩
        · unfold dgt at y1 ⊢
          rw [List.find?_cons_of_neg (by simpa using q)]
          exact y1
        · unfold atKey at y2 ⊢
          rw [List.find?_cons_of_neg (by simpa using q)]
          exact y2
theorem DK.rep {G : Cfg} {F : Addr → Prop} {mu : List Addr} {H : Hp} (k : NestedKey) {u : Value} {v : V} {e : D} (r : RelV v u) (q : Rep G F mu H v e) : ∀ {kvs : List (NestedKey × D)} {xs : List (NestedKey × Addr × Value)}, DK G F mu H kvs xs →
    DK G F mu H (kvs.map fun x => if x.1 = k then (x.1, e) else x) (xs.map (PySem.putAt k u))
  | _, _, .nil => .nil
  | _, _, .cons (k := j) h1 h2 h3 h4 h5 t => by
    rw [List.map_cons, List.map_cons]
    unfold PySem.putAt
    by_cases z : j = k
    · rw [if_pos z, if_pos z]
      exact .cons h1 h2 h3 r q (t.rep k r q)
    · rw [if_neg z, if_neg z]
      exact .cons h1 h2 h3 h4 h5 (t.rep k r q)
theorem DK.snoc {G : Cfg} {F : Addr → Prop} {mu : List Addr} {H : Hp} {k : NestedKey} {a : Addr} {u : Value} {v : V} {d e : D} (h1 : k.depth ≤ 8) (h2 : keyD d = some k) (h3 : Rep G F mu H (.ref a) d) (h4 : RelV v u) (h5 : Rep G F mu H v e) :
    ∀ {kvs : List (NestedKey × D)} {xs : List (NestedKey × Addr × Value)}, DK G F mu H kvs xs → DK G F mu H (kvs ++ [(k, e)]) (xs ++ [(k, a, u)])
  | _, _, .nil => .cons h1 h2 h3 h4 h5 .nil
  | _, _, .cons q1 q2 q3 q4 q5 t => .cons q1 q2 q3 q4 q5 (DK.snoc h1 h2 h3 h4 h5 t)
theorem DK.put {G : Cfg} {F : Addr → Prop} {mu : List Addr} {H : Hp} {k : NestedKey} {a : Addr} {u : Value} {v : V} {d e : D} (h1 : k.depth ≤ 8) (h2 : keyD d = some k) (h3 : Rep G F mu H (.ref a) d) (h4 : RelV v u) (h5 : Rep G F mu H v e)
    {kvs : List (NestedKey × D)} {xs : List (NestedKey × Addr × Value)} (t : DK G F mu H kvs xs) : DK G F mu H (dpt kvs k e) (storedH xs k a u) := by
  unfold dpt storedH
  rcases t.get k with ⟨y1, y2⟩ | ⟨e', a', u', v', y1, y2, y3, y4⟩
  · rw [y1, y2]
    simp only [Option.isSome_none, Bool.false_eq_true, if_false]
    exact t.snoc h1 h2 h3 h4 h5
  · rw [y1, y2]
    simp only [Option.isSome_some, if_true]
    exact t.rep k h4 h5
theorem dpt_len {kvs : List (NestedKey × D)} {k : NestedKey} {d : D} : (dpt kvs k d).length ≤ kvs.length + 1 := by
  unfold dpt
  split
  · rw [List.length_map]
    omega
  · rw [List.length_append]
    exact Nat.le_refl _
theorem stored_len {xs : List (NestedKey × Addr × Value)} {k : NestedKey} {a : Addr} {u : Value} : (storedH xs k a u).length ≤ xs.length + 1 := by
  unfold storedH
  split
  · rw [List.length_map]
    omega
  · rw [List.length_append]
    exact Nat.le_refl _
section
variable {P : Program} {w : World} {H : Hp} {h : Heap} {a : Addr} {xs : List (NestedKey × Addr × Value)}
theorem ent_eq (q : ∀ x ∈ xs, x.1.depth ≤ 8 ∧ KAt H x.1 (.ref x.2.1)) : xs.map (entryOfKey (nestedKind P w)) = xs.map entK :=
  List.map_congr_left fun x hx => by
    show DictEntry.mk (x.1.hash w) _ _ = DictEntry.mk (hashK x.1) _ _
    rw [(q x hx).2.hash]
theorem XD.dict (ok : HOk P w H h) (x : XD H a xs) : h.DictOfH (nestedKind P w) a xs := by
  obtain ⟨e, _, nd, _, q⟩ := x
  obtain ⟨⟨o, es, ep, h1, h2, h3, h4⟩, _⟩ := (show ObjOk P w H h a (dctO a xs) from ok a _ e)
  exact ⟨o, es, ep, h1, h2, h3, h4.trans (ent_eq q).symm, fun x hx => ⟨(q x hx).2.is ok rfl, (q x hx).1⟩, nd⟩
theorem dct_ok {xs : List (NestedKey × Addr × Value)} {H' : Hp} (q : ∃ o es ep, h.get? a = some o ∧ o.ExactDict ∧ o.data = .dict es ep ∧ es.toList = xs.map entK) : ObjOk P w H' h a (dctO a xs) := by
  obtain ⟨o, es, ep, h1, h2, h3, h4⟩ := q
  refine ⟨⟨o, es, ep, h1, h2, h3, h4⟩, ⟨o, h1⟩, fun g1 g2 y st => ?_⟩
  obtain ⟨o', es', ep', y1, y2, y3, y4⟩ := y
  exact ⟨o', es', ep', st o' y1, y2, y3, y4⟩
end
def r2In (neg : Bool) : R2 := fun x y H Q => ∃ a b xs k, x = .ref b ∧ y = .ref a ∧ XD H a xs ∧ k.depth ≤ 8 ∧ KAt H k (.ref b) ∧ Q (.bl (neg ^^ (atKey xs k).isSome)) H
def r2Get : R2 := fun x y H Q => ∃ a b xs k p v, x = .ref a ∧ y = .ref b ∧ XD H a xs ∧ k.depth ≤ 8 ∧ KAt H k (.ref b) ∧ atKey xs k = some p ∧ RelV v p.2 ∧ Q v H
section
variable {X : Cx} {o i value : Expr} {pos pos' : Pos} {td ty tv : TE}
theorem op_xin (hu : X.A.units + 64 < cLine) : OpR X (compareOp .In) (r2In false) := by
  intro pins s σ H x y v u Q I rx ry h
  obtain ⟨a, b, xs, k, e1, e2, x1, d1, k1, q⟩ := h
  subst e1 e2
  cases (show v = Value.ref b from rx)
  cases (show u = Value.ref a from ry)
  refine wpAny_in_heap (knd := nestedKind X.prog X.w) (k := k) (xs := xs) (show X.A.in1.units + 8 < cLine by rw [Around.in1_units]; omega) ⟨k1.is I.hok rfl, d1⟩ x1.2.1 (x1.dict I.hok) ?_
  exact ⟨.bl (atKey xs k).isSome, H, I.tok _, rfl, by simpa using q⟩
theorem op_xni (hu : X.A.units + 64 < cLine) : OpR X (compareOp .NotIn) (r2In true) := by
  intro pins s σ H x y v u Q I rx ry h
  obtain ⟨a, b, xs, k, e1, e2, x1, d1, k1, q⟩ := h
  subst e1 e2
  cases (show v = Value.ref b from rx)
  cases (show u = Value.ref a from ry)
  refine PyProof.Rows.wpAny_notIn_heap (knd := nestedKind X.prog X.w) (k := k) (xs := xs) (show X.A.in1.units + 8 < cLine by rw [Around.in1_units]; omega) ⟨k1.is I.hok rfl, d1⟩ x1.2.1 (x1.dict I.hok) ?_
  exact ⟨.bl (!(atKey xs k).isSome), H, I.tok _, rfl, by simpa using q⟩
def tXGet (td ty : TE) : TE := fun σ H Q => td σ H fun x H1 => ty σ H1 fun y H2 => r2Get x y H2 Q
theorem pe_xget (hu : X.A.units + 64 < cLine) (ho : PE X o td) (hi : PE X i ty) (hs : NoSl i) : PE X (.Subscript o i pos) (tXGet td ty) := by
  refine ⟨fun pins s σ H Q I h => ?_⟩
  refine subD_of PySem.F.slot_dict_getitem.lookup hs (thn (ho.run pins s σ H _ I h) fun u s1 ⟨x, H1, I1, rx, q1⟩ => thn (hi.run pins s1 σ H1 _ I1 q1) fun iv s2 ⟨y, H2, I2, ry, q2⟩ => ?_)
  obtain ⟨a, b, xs, k, p, v, e1, e2, x1, d1, k1, hp, rv, q⟩ := q2
  subst e1 e2
  cases (show u = Value.ref a from rx)
  cases (show iv = Value.ref b from ry)
  have dd := x1.dict I2.hok
  refine ⟨dd.typeIs, ?_⟩
  exact wpAny_getItem_heap (knd := nestedKind X.prog X.w) (k := k) (xs := xs) (show X.A.in1.units + 8 < cLine by rw [Around.in1_units]; omega) ⟨k1.is I2.hok rfl, d1⟩ dd hp ⟨v, H2, I2.tok _, rv, q⟩
def sXPut (td ty tv : TE) : TS := fun D σ H => tv σ H fun v H1 => td σ H1 fun x H2 => ty σ H2 fun y H3 => ∃ a b xs k, x = .ref a ∧ y = .ref b ∧ XD H3 a xs ∧ k.depth ≤ 8 ∧ KAt H3 k (.ref b) ∧ xs.length < sizeLine ∧
  ∀ u, RelV v u → ((storedH xs k b u).map (·.1)).Nodup → D.nx σ (upd H3 a (dctO a (storedH xs k b u)))
theorem ps_xput (hu : X.A.units + 64 < cLine) (ho : PE X o td) (hi : PE X i ty) (hv : PE X value tv) (hs : swapsWith value (some (.Subscript o i pos')) pos.line X.env = pure false) :
    PS X (.Assign [.Subscript o i pos'] value pos) (sXPut td ty tv) := by
  refine ⟨fun pins s σ H D I h => ?_⟩
  refine wpAny_Assign_Subscript (thn (hv.run pins s σ H _ I h) fun r s1 ⟨v, H1, I1, rv, q1⟩ => thn (ho.run pins s1 σ H1 _ I1 q1) fun u s2 ⟨x, H2, I2, rx, q2⟩ => thn (hi.run pins s2 σ H2 _ I2 q2) fun iv s3 ⟨y, H3, I3, ry, q3⟩ => ?_) hs
  obtain ⟨a, b, xs, k, e1, e2, x1, d1, k1, l1, q⟩ := q3
  subst e1 e2
  cases (show u = Value.ref a from rx)
  cases (show iv = Value.ref b from ry)
  refine wpAny_setItem_heap (knd := nestedKind X.prog X.w) (k := k) (xs := xs) (hsz := Nat.le_of_lt l1) (show X.A.in1.units + 8 < cLine by rw [Around.in1_units]; omega) ⟨k1.is I3.hok rfl, d1⟩ (x1.dict I3.hok) fun h' dd' hs => ?_
  obtain ⟨ob, es, ep, hq, h2, h3, h4, h6, h5⟩ := dd'
  have hx : ∀ x ∈ storedH xs k b r, x.1.depth ≤ 8 ∧ KAt H3 x.1 (.ref x.2.1) := fun x hx => by
    unfold storedH at hx
    split at hx
    · obtain ⟨z, hz, e⟩ := List.mem_map.mp hx
      subst e
      unfold PySem.putAt
      split
      · exact x1.2.2.2.2 z hz
      · exact x1.2.2.2.2 z hz
    · rcases List.mem_append.mp hx with z | z
      · exact x1.2.2.2.2 x z
      · rw [List.mem_singleton.mp z]
        exact ⟨d1, k1⟩
  exact ⟨σ, _, d_write I3 (by rw [x1.1]; exact True.intro) hs ⟨ob, hq⟩ (dct_ok ⟨ob, es, ep, hq, h2, h3, h4.trans (ent_eq hx)⟩), q r rv h5⟩
def tXNew : TE := fun _ H Q => ∀ p, H p = none → (p == sysModules) = false → Q (.ref p) (upd H p (dctO p []))
theorem pe_xnew : PE X (.Dict [] [] pos) tXNew := ⟨fun pins s σ H Q I h =>
  wpAny_Dict_empty ⟨.ref s.heap.objs.size, _, I.laid (a := s.heap.objs.size) (o := dctO s.heap.objs.size []) (t' := s.toks) (fun _ _ q => Heap.get?_push_of_some _ q) (Nat.le_refl _) (dct_ok ⟨_, #[], 0, Heap.get?_push_size _ rfl, ⟨rfl, rfl, rfl⟩, rfl, rfl⟩), rfl,
    h _ (I.hok.fresh (Nat.le_refl _)) (beq_eq_false_iff_ne.mpr (Ne.symm (Nat.ne_of_lt I.big)))⟩⟩
end
section
variable {G : Cfg} {p : Pg} {n : Nat} {g : Bool} {X : Cx} {W : WX} {B : Bs} {U : Wd} {env : Ev} {fs : FS} {hs : List (V × R)} {σ : St} {H : Hp} {pos : Pos} {P : Prm}
theorem dic_at (h : Rel G B U env fs hs σ H) {v : V} {d : D} {kvs : List (NestedKey × D)} (b : RepB G U H v d) (e : dicAt fs d = some kvs) :
    ∃ m a xs, d = .cel m ∧ v = .ref a ∧ U.mu[m]? = some a ∧ DK G U.F U.mu H kvs xs ∧ XD H a xs := by
  unfold dicAt at e
  split at e
  · rename_i m
    obtain ⟨a, e1, e2⟩ := b.cel
    obtain ⟨cl, e3, e4⟩ := h.cellAt e2
    rw [e3] at e
    cases cl with
    | lst xs => cases e
    | ins c ks vs => cases e
    | dic kvs' =>
      cases e
      obtain ⟨xs, q1, q2, q3, q4, q5⟩ := e4
      exact ⟨m, a, xs, rfl, e1, e2, q2, q1, q5, q3, by rw [← q2.xd.1]; exact q4, q2.xd.2⟩
  · cases e
theorem key_at {v : V} {d : D} {k : NestedKey} (b : RepB G U H v d) (e : keyT d = some k) : ∃ b, v = .ref b ∧ k.depth ≤ 8 ∧ keyD d = some k ∧ Rep G U.F U.mu H (.ref b) d ∧ KAt H k (.ref b) := by
  unfold keyT at e
  split at e
  · rename_i xs
    cases q : keyD (.tup xs) with
    | none =>
      rw [q] at e
      cases e
    | some k' =>
      rw [q] at e
      have e : (if k'.depth ≤ 8 then some k' else none) = some k := e
      split at e
      · rename_i hd
        cases e
        rcases b with b | ⟨a, c, e1, e2, _⟩
        · cases b with
          | tup h r => exact ⟨_, rfl, hd, rfl, .tup h r, Rep.key (.tup h r) q⟩
        · cases c <;> cases e2
      · cases e
  · cases e
theorem sd_dnew : PE X (.Dict [] [] pos) (tE G W (ev P .dnew)) := pe_xnew.imp fun σ H Q h q hq hs => by
  obtain ⟨B, U, env, fs, hs', g, y⟩ := h
  obtain ⟨U2, g2⟩ := g.cellNew (c := .dic []) (o := dctO q []) hq fun H' e m => ⟨[], e, .nil, List.nodup_nil, Nat.zero_le _, hs⟩
  exact y _ _ _ g2
variable {a b : Expr} {ea eb : E}
theorem rd_din {neg : Bool} {Q : VK} (h : tE G W (ev P (.din neg ea eb)) σ H Q) : tOp (r2In neg) (tE G W (ev P ea)) (tE G W (ev P eb)) σ H Q :=
  tE_mono (tE_two h) fun v H1 h1 => tE_mono h1 fun w H2 h2 => by
    obtain ⟨B, U, env, fs, hs, r, t, g2, y⟩ := h2
    obtain ⟨d, ed, y⟩ := y.need
    obtain ⟨e, ee, y⟩ := y.need
    obtain ⟨kvs, ek, y⟩ := y.need
    obtain ⟨q, eq, y⟩ := y.need
    obtain ⟨bb, e1, d1, _, _, k1⟩ := key_at (g2.look g2.drop.top ed) eq
    obtain ⟨m, aa, xs, e2, e3, e4, dk, xd⟩ := dic_at g2 (g2.look g2.top ee) ek
    refine ⟨aa, bb, xs, q, e1, e3, xd, d1, k1, ?_⟩
    have z : (dgt kvs q).isSome = (atKey xs q).isSome := by
      rcases dk.get q with ⟨y1, y2⟩ | ⟨e', a', u', v', y1, y2, _, _⟩
      · rw [y1, y2] <;> rfl
      · rw [y1, y2] <;> rfl
    rw [← z]
    exact post_val y g2.drop.drop (.bl _)
theorem sd_din (o : XOk G p n g X W) (ha : PE X a (tE G W (ev P ea))) (hb : PE X b (tE G W (ev P eb))) (hs : noSet b = true) : PE X (.Compare a [.In] [b] pos) (tE G W (ev P (.din false ea eb))) :=
  (pe_cmpR (op_xin o.units) ha hb (set_marks hs)).imp fun _ _ _ h => rd_din h
theorem sd_dni (o : XOk G p n g X W) (ha : PE X a (tE G W (ev P ea))) (hb : PE X b (tE G W (ev P eb))) (hs : noSet b = true) : PE X (.Compare a [.NotIn] [b] pos) (tE G W (ev P (.din true ea eb))) :=
  (pe_cmpR (op_xni o.units) ha hb (set_marks hs)).imp fun _ _ _ h => rd_din h
theorem st_din (o : XOk G p n g X W) (ha : PE X a (tE G W (ev P ea))) (hb : PE X b (tE G W (ev P eb))) (hs : noSet b = true) : PT X (.Compare a [.In] [b] pos) (tT G W (tb (ev P (.din false ea eb)))) :=
  (pt_cmpR (op_xin o.units) ha hb (set_marks hs)).imp fun _ _ _ h => rd_din (tT_val h)
theorem st_dni (o : XOk G p n g X W) (ha : PE X a (tE G W (ev P ea))) (hb : PE X b (tE G W (ev P eb))) (hs : noSet b = true) : PT X (.Compare a [.NotIn] [b] pos) (tT G W (tb (ev P (.din true ea eb)))) :=
  (pt_cmpR (op_xni o.units) ha hb (set_marks hs)).imp fun _ _ _ h => rd_din (tT_val h)
theorem sd_dget (o : XOk G p n g X W) (ha : PE X a (tE G W (ev P ea))) (hb : PE X b (tE G W (ev P eb))) (hs : noSlice b = true) : PE X (.Subscript a b pos) (tE G W (ev P (.dget ea eb))) :=
  (pe_xget o.units ha hb (slice_no hs)).imp fun σ H Q h => tE_mono (tE_two h) fun v H1 h1 => tE_mono h1 fun w H2 h2 => by
    obtain ⟨B, U, env, fs, hs, r, t, g2, y⟩ := h2
    obtain ⟨e, ee, y⟩ := y.need
    obtain ⟨d, ed, y⟩ := y.need
    obtain ⟨kvs, ek, y⟩ := y.need
    obtain ⟨q, eq, y⟩ := y.need
    obtain ⟨z, ez, y⟩ := y.need
    obtain ⟨bb, e1, d1, _, _, k1⟩ := key_at (g2.look g2.top ed) eq
    obtain ⟨m, aa, xs, e2, e3, e4, dk, xd⟩ := dic_at g2 (g2.look g2.drop.top ee) ek
    rcases dk.get q with ⟨y1, y2⟩ | ⟨e', a', u', v', y1, y2, y3, y4⟩
    · rw [y1] at ez
      cases ez
    · rw [y1] at ez
      cases ez
      exact ⟨aa, bb, xs, q, (a', u'), v', e3, e1, xd, d1, k1, y2, y3, post_val y g2.drop.drop y4⟩
theorem ss_dput (o : XOk G p n g X W) {e : Expr} {ee : E} {q : Pos} (ha : PE X a (tE G W (ev P ea))) (hb : PE X b (tE G W (ev P eb))) (h : PE X e (tE G W (ev P ee))) (hs : noLc e = true) : PS X (.Assign [.Subscript a b q] e pos) (tS G W (ex P (.dput ea eb ee))) := by
  refine (ps_xput o.units ha hb h (lc_no hs)).imp fun D σ H h => ?_
  obtain ⟨B, U, env, fs, hs, g0, y⟩ := h
  refine ⟨B, U, env, fs, hs, g0, (st_post y).imp fun r s1 y v U1 H1 g1 => ?_⟩
  obtain ⟨⟨d, s2⟩, ef, y⟩ := needS_some y
  obtain ⟨U2, g2, r2, _⟩ := g1.fz g1.top ef
  refine ⟨B, U2, env, s2, (v, .fz d) :: hs, g2.drop.push (r := .fz d) r2, Post.imp (Post.less (st_post y) fun z hz => List.mem_cons_of_mem _ hz) fun q s3 y w U3 H3 g3 => ⟨B, U3, env, s3, (w, q) :: (v, .fz d) :: hs, g3, ?_⟩⟩
  refine Post.imp (Post.less (st_post y) fun z hz => List.mem_cons_of_mem _ (List.mem_cons_of_mem _ hz)) fun j s4 y u U4 H4 g4 => ?_
  obtain ⟨d1, ed1, y⟩ := needS_some y
  obtain ⟨d2, ed2, y⟩ := needS_some y
  obtain ⟨kvs, ek, y⟩ := needS_some y
  obtain ⟨key, ey, y⟩ := needS_some y
  obtain ⟨bb, e1, dp, k0, rk, k1⟩ := key_at (g4.look g4.top ed2) ey
  obtain ⟨m, aa, xs, e2, e3, e4, dk, xd⟩ := dic_at g4 (g4.look g4.drop.top ed1) ek
  subst e2
  have y : PostS G W B hs D (if kvs.length < sizeLine then .nx env ⟨s4.ol, s4.st.set m (.dic (dpt kvs key d))⟩ else .bad) := y
  split at y
  · rename_i hl
    have rv : Rep G U4.F U4.mu H4 v d := g4.drop.drop.top
    have lx : xs.length < sizeLine := by rw [← dk.xd.1]; exact hl
    refine ⟨aa, bb, xs, key, e3, e1, xd, dp, k1, lx, fun uu ru nd => ?_⟩
    refine y U4 _ σ (g4.drop.drop.drop.cellSet e4 fun H' eH mm => ?_)
    exact ⟨_, eH, ((DK.imp mm dk).put dp k0 (mm _ _ rk) ru (mm _ _ rv)), nd, by have := @dpt_len kvs key d; omega, xd.2.1⟩
  · exact y.elim
end
end Wv
namespace Wv
open PySem L2
section
variable {G : Cfg} {p : Pg} {n : Nat} {g : Bool} {X : Cx} {W : WX} {B : Bs} {U : Wd} {env : Ev} {fs : FS} {hs : List (V × R)} {σ : L2.St} {H : Hp} {P : Prm} {pos : Pos} {pins : List (Addr × Obj)} {s : Shared}
theorem Reps.strs {F : Addr → Prop} {mu : List Addr} : ∀ ss : List Str, Reps G F mu H (ss.map V.str) (ss.map D.str)
  | [] => .nil
  | s :: r => .cons (.str s) (Reps.strs r)
theorem RepB.strs {w : V} {z : List D} {ss : List Str} (b : RepB G U H w (.lst z)) (e : strs? z = some ss) : ∃ a, w = .ref a ∧ H a = some (.lst (ss.map V.str)) := by
  have q : ∀ {z : List D} {ss : List Str}, strs? z = some ss → z = ss.map D.str := fun {z} => by
    induction z with
    | nil =>
      intro ss e
      cases e
      rfl
    | cons x r ih =>
      intro ss e
      cases x with
      | str i =>
        have y : (strs? r).map (i :: ·) = some ss := e
        cases k : strs? r with
        | none =>
          rw [k] at y
          cases y
        | some ms =>
          rw [k] at y
          cases y
          rw [ih k] <;> rfl
      | _ => cases e
  have e2 := q e
  subst e2
  obtain ⟨a, vs, e1, h1, r⟩ := b.lst
  rw [Reps.strs' r] at h1
  exact ⟨a, e1, h1⟩
theorem RepB.intsL {w : V} {z : List D} {ns : List Int} (b : RepB G U H w (.lst z)) (e : ints? z = some ns) : ∃ a, w = .ref a ∧ H a = some (.lst (ns.map V.int)) := by
  have e2 := ints_eq e
  subst e2
  obtain ⟨a, vs, e1, h1, r⟩ := b.lst
  rw [Reps.ints' r] at h1
  exact ⟨a, e1, h1⟩
theorem bm_core {T id : String} {m : Bm} {name : Str} {r : V → List V → Hp → VK → Prop} {y e : Expr} {eo ee : E} {q q2 : Pos} (pa : PlainAttrs T) (slot : Slot T name id) (hty : typeOf (.builtin id) = pure (.type "method_descriptor")) (hm : MtR X id r)
    (ho : PE X y (tE G W (ev P eo))) (he : PE X e (tE G W (ev P ee))) (hs : noStar e = true) (hc : noCall y = true) (hl : (q.endLine == q2.line) = true)
    (hTy : ∀ (U : Wd) (H : Hp) (v : V) (d : D), RepB G U H v d → bmTy m d = true → tyV X.K T v H)
    (hr : ∀ (B : Bs) (U : Wd) (env : Ev) (fs : FS) (hs : List (V × R)) (σ : L2.St) (H : Hp) (v w : V) (d z : D) (res : Rs) (Q : VK), Rel G B U env fs hs σ H → RepB G U H v d → RepB G U H w z → bmD m d z = some res → RsP G B env hs σ fs res Q → r v [w] H Q) :
    PE X (.Call (.Attribute y name q) [e] [] q2) (tE G W (ev P (.bm m eo ee))) :=
  (pe_bm pa slot hty hm ho (pa_cons he pa_nil (star_no hs)) (call_no hc) (few_one hs) hl (star_no hs) rfl).imp fun σ H Q h => by
    obtain ⟨B, U, env, fs, hs, g0, y⟩ := h
    refine ⟨B, U, env, fs, hs, g0, y.bnd.imp fun x s1 y v U1 H1 g1 => ?_⟩
    obtain ⟨d0, ed, y⟩ := Post.need y
    obtain ⟨ht, y⟩ := ite_post y
    refine ⟨hTy U1 H1 v d0 (g1.look g1.top ed) ht, B, U1, env, s1, (v, x) :: hs, g1, (y.bnd.imp fun t s2 y w U2 H2 g2 => ?_).less fun z hz => List.mem_cons_of_mem _ hz⟩
    obtain ⟨d, e1, y⟩ := Post.need y
    obtain ⟨z, e2, y⟩ := Post.need y
    obtain ⟨res, e3, y⟩ := Post.need y
    exact hr B U2 env s2 hs σ H2 v w d z res Q g2.drop.drop (g2.look g2.drop.top e1) (g2.look g2.top e2) e3 (post_rs y)
theorem ty_list (U : Wd) (H : Hp) (v : V) (d : D) (b : RepB G U H v d) (h : ∃ xs, d = .lst xs) : tyV X.K "list" v H := by
  obtain ⟨xs, rfl⟩ := h
  obtain ⟨a, vs, e1, h1, r⟩ := b.lst
  subst e1
  exact .inl ⟨rfl, vs, .of h1⟩
theorem ty_str (U : Wd) (H : Hp) (v : V) (d : D) (b : RepB G U H v d) (h : ∃ xs, d = .str xs) : tyV X.K "str" v H := by
  obtain ⟨xs, rfl⟩ := h
  rw [b.str]
  exact rfl
theorem idx_at : ∀ {ns : List Int} {i : Int}, i ∈ ns → ns[ns.idxOf i]? = some i ∧ ∀ m z, m < ns.idxOf i → ns[m]? = some z → (z == i) = false
  | [], i, h => nomatch h
  | n :: r, i, h => by
    by_cases q : n = i
    · subst q
      rw [List.idxOf_cons_self]
      exact ⟨rfl, fun m z hm _ => absurd hm (Nat.not_lt_zero m)⟩
    · rw [List.idxOf_cons, beq_false_of_ne q, cond_false]
      have hm : i ∈ r := by
        rcases List.mem_cons.mp h with z | z
        · exact absurd z.symm q
        · exact z
      obtain ⟨h1, h2⟩ := idx_at hm
      refine ⟨by simpa using h1, fun m z hm hz => ?_⟩
      cases m with
      | zero =>
        have : n = z := by simpa using hz
        rw [← this]
        exact beq_false_of_ne q
      | succ m => exact h2 m z (by omega) (by simpa using hz)
theorem sd_bm (o : XOk G p n g X W) {m : Bm} {y e : Expr} {eo ee : E} {q q2 : Pos} {nm : Str} (hn : m.nm = nm) (hk : bmOk m = true) (ho : PE X y (tE G W (ev P eo))) (he : PE X e (tE G W (ev P ee))) (hs : noStar e = true) (hc : noCall y = true) (hl : (q.endLine == q2.line) = true) :
    PE X (.Call (.Attribute y nm q) [e] [] q2) (tE G W (ev P (.bm m eo ee))) := by
  subst hn
  cases m with
  | idx =>
    refine bm_core F.plainAttrs_list F.slot_list_index rfl mt_index ho he hs hc hl (fun U H v d b t => ty_list U H v d b (by cases d <;> first | exact ⟨_, rfl⟩ | cases t)) fun B U env fs hs σ H v w d z res Q g b c e r => ?_
    cases d with
    | lst xs =>
      cases z with
      | int i =>
        have e : ((ints? xs).bind fun ns => if i ∈ ns then some (Rs.t (.int (ns.idxOf i))) else none) = some res := e
        cases k : ints? xs with
        | none =>
          rw [k] at e
          cases e
        | some ns =>
          rw [k] at e
          have e : (if i ∈ ns then some (Rs.t (.int (ns.idxOf i))) else none) = some res := e
          split at e
          · rename_i hi
            cases e
            obtain ⟨a, e1, h1⟩ := b.intsL k
            obtain ⟨q1, q2⟩ := idx_at hi
            exact ⟨a, ns.map V.int, .int i, ns.idxOf i, .int i, e1, by rw [c.int], .of h1, rfl, by rw [List.all_map]; exact List.all_eq_true.mpr fun _ _ => rfl, by rw [List.getElem?_map, q1]; rfl, beq_self_eq_true i, fun m z' hm hz => by
              rw [List.getElem?_map] at hz
              obtain ⟨z0, hz0, rfl⟩ := Option.map_eq_some_iff.mp hz
              exact q2 m z0 hm hz0, r.val g (.int _)⟩
          · cases e
      | _ => cases e
    | _ => cases e
  | join =>
    refine bm_core F.plainAttrs_str F.slot_str_join rfl mt_join ho he hs hc hl (fun U H v d b t => ty_str U H v d b (by cases d <;> first | exact ⟨_, rfl⟩ | cases t)) fun B U env fs hs σ H v w d z res Q g b c e r => ?_
    cases d with
    | str a =>
      cases z with
      | lst xs =>
        have e : ((strs? xs).bind fun ss => if (ss.map (·.length)).sum + ss.length * a.length ≤ 16777216 then some (Rs.t (.str (Txt.join a ss))) else none) = some res := e
        cases k : strs? xs with
        | none =>
          rw [k] at e
          cases e
        | some ss =>
          rw [k] at e
          have e : (if (ss.map (·.length)).sum + ss.length * a.length ≤ 16777216 then some (Rs.t (.str (Txt.join a ss))) else none) = some res := e
          split at e
          · rename_i hz
            cases e
            obtain ⟨p, e1, h1⟩ := c.strs k
            exact ⟨a, p, ss, b.str, by rw [e1], .inl (.of h1), hz, r.val g (.str _)⟩
          · cases e
      | _ => cases e
    | _ => cases e
  | stw =>
    refine bm_core F.plainAttrs_str F.slot_str_startswith rfl mt_startswith ho he hs hc hl (fun U H v d b t => ty_str U H v d b (by cases d <;> first | exact ⟨_, rfl⟩ | cases t)) fun B U env fs hs σ H v w d z res Q g b c e r => ?_
    cases d with
    | str a =>
      cases z with
      | str a2 =>
        cases e
        exact ⟨a, a2, b.str, by rw [c.str], r.val g (.bl _)⟩
      | _ => cases e
    | _ => cases e
  | enw =>
    refine bm_core F.plainAttrs_str F.slot_str_endswith rfl mt_endswith ho he hs hc hl (fun U H v d b t => ty_str U H v d b (by cases d <;> first | exact ⟨_, rfl⟩ | cases t)) fun B U env fs hs σ H v w d z res Q g b c e r => ?_
    cases d with
    | str a =>
      cases z with
      | str a2 =>
        cases e
        exact ⟨a, a2, b.str, by rw [c.str], r.val g (.bl _)⟩
      | _ => cases e
    | _ => cases e
  | find =>
    refine bm_core F.plainAttrs_str F.slot_str_find rfl mt_find ho he hs hc hl (fun U H v d b t => ty_str U H v d b (by cases d <;> first | exact ⟨_, rfl⟩ | cases t)) fun B U env fs hs σ H v w d z res Q g b c e r => ?_
    cases d with
    | str a =>
      cases z with
      | str a2 =>
        cases e
        exact ⟨a, a2, b.str, by rw [c.str], r.val g (.int _)⟩
      | _ => cases e
    | _ => cases e
  | split =>
    refine bm_core F.plainAttrs_str F.slot_str_split rfl mt_split ho he hs hc hl (fun U H v d b t => ty_str U H v d b (by cases d <;> first | exact ⟨_, rfl⟩ | cases t)) fun B U env fs hs σ H v w d z res Q g b c e r => ?_
    cases d with
    | str a =>
      cases z with
      | str a2 =>
        have e : (if (a2.length == 0) = false ∧ a.length + 2 ≤ sizeLine then some (Rs.l ((Txt.split a a2).map D.str)) else none) = some res := e
        split at e
        · rename_i hz
          cases e
          exact ⟨a, a2, b.str, by rw [c.str], hz.1, hz.2, fun p hp => r.lst g (Reps.strs _) hp⟩
        · cases e
      | _ => cases e
    | _ => cases e
  | _ => cases hk
theorem meth_call (o : XOk G p n g X W) (I : Inv X pins σ H s) {a : Addr} {d : D} {ds : List D} {us : List Value} {ws : List V} {Q : VK} (rv : Vals ws us) (h : Rel G B U env fs hs σ H) (b : Rep G U.F U.mu H (.ref a) d) (r : Reps G U.F U.mu H ws ds)
    (q : Post G W B env hs σ (KQ G B env hs σ Q) ((prm p g n).meth d mCall ds fs)) : (∃ C ox od, PySem.W.InstAt s.heap a ox C od ∧ ox.data = .plain) ∧ wpAny (model X.prog X.w) X.A (call (.ref a) us) (EP X pins σ Q) X.xe s := by
  unfold Prm.meth at q
  cases ec : clsOf d fs.st with
  | none =>
    rw [ec] at q
    exact q.elim
  | some w =>
    obtain ⟨c, ks, vs⟩ := w
    rw [ec] at q
    dsimp only at q
    cases ef : (prm p g n).methOf c mCall with
    | none =>
      rw [ef] at q
      exact q.elim
    | some f =>
      rw [ef] at q
      dsimp only at q
      obtain ⟨fn, hf⟩ := call_has q
      obtain ⟨k, fn', hk, hl, M, _⟩ := meth_at o ef
      obtain ⟨a', dx, ws', e1, e2, k3, r3⟩ := cls_at h (RepB.of b) ec
      cases e1
      obtain ⟨od, J⟩ := inst_of I e2
      rw [nm_sp o.pg (by decide), ← o.K] at M
      refine ⟨⟨_, _, _, J, rfl⟩, wpAny_call (PySem.W.kco_code I.kIn J rfl M.at_ M.fn (by rw [o.K]; exact o.pg.fin f fn hf) ?_)⟩
      exact run_gA (us := .ref a :: us) (vs := .ref a :: ws) (o.fn f fn hf) o.room0 o.gd rfl o.tk I (.cons rfl rv) ⟨U.F, U.mu, d :: ds, fs.st, h.enter, .cons b r, ocp_of h q⟩
theorem sd_cin (o : XOk G p n g X W) {fe e : Expr} {es : List Expr} {eo ees : E} (ho : PE X fe (tE G W (ev (prm p g n) eo))) (ha : PA X (e :: es) (tA G W (evs (prm p g n) ees))) (hi : isNm fe = true) (hst : noStar e = true) (hss : es.all noStar = true) :
    PE X (.Call fe (e :: es) [] pos) (tE G W (ev (prm p g n) (.cin eo ees))) := by
  refine ⟨fun pins s σ H Q I h => ?_⟩
  obtain ⟨B, U, env, fs, hs, r, y⟩ := h
  refine PyProof.Rows.Call_ (thn (ho.run pins s σ H (fun v H1 => ∃ a U1 s2 d, v = .ref a ∧ Rel G B U1 env s2 ((v, .fz d) :: hs) σ H1 ∧
    Post G W B env hs σ (KQ G B env hs σ Q) ((evs (prm p g n) ees env s2).bnd fun rs s => need (fzs s rs) fun z => (prm p g n).meth d mCall z.1 z.2)) I ?_) fun u s1 hh => ?_) (by cases fe <;> first | rfl | cases hi)
  · refine ⟨B, U, env, fs, hs, r, y.bnd.imp fun t s1 y v U1 H1 g1 => ?_⟩
    obtain ⟨⟨d, s2⟩, ez, y⟩ := Post.need y
    obtain ⟨⟨c, ks, vs⟩, ec, y⟩ := Post.need y
    obtain ⟨U2, g2, r2, _⟩ := g1.fz g1.top ez
    obtain ⟨a, dx, ws, e1, _⟩ := cls_at g2 (.inl r2) ec
    exact ⟨a, U2, s2, d, e1, g2.drop.push (r := .fz d) r2, y⟩
  · obtain ⟨v, H1, I1, rv1, a, U1, s2, d, e1, g1, y⟩ := hh
    subst e1
    obtain rfl : u = Value.ref a := rv1
    have h2 : tA G W (evs (prm p g n) ees) σ H1 fun ws H2 => ∃ B U env fs hs ds, Rel G B U env fs hs σ H2 ∧ Rep G U.F U.mu H2 (.ref a) d ∧ Reps G U.F U.mu H2 ws ds ∧ Post G W B env hs σ (KQ G B env hs σ Q) ((prm p g n).meth d mCall ds fs) := by
      refine ⟨B, U1, env, s2, (.ref a, .fz d) :: hs, g1, (y.bnd.imp fun rs s3 y ws U3 H3 g3 hl => ?_).less fun z hz => List.mem_cons_of_mem _ hz⟩
      obtain ⟨⟨ds, s4⟩, ez, y⟩ := Post.need y
      have q0 := g3.dropN.top
      obtain ⟨U4, g4, r4, m4⟩ := g3.dropN.fzAll (g3.heldAll hl) ez
      exact ⟨B, U4, env, s4, hs, ds, g4.drop, m4 _ (.fz d) q0, r4, y⟩
    refine StX.callO_with (thn (ha.run pos pins s1 σ H1 _ I1 h2) fun us s3 ⟨ws, H3, I3, rv, q3⟩ => ?_) (star_no hst) (any_back hss)
    obtain ⟨B, U, env, fs, hs, ds, g5, b5, r5, y⟩ := q3
    exact meth_call o I3 rv g5 b5 r5 y
end
end Wv
namespace Wv
open PySem L2
section
variable {prog : Program} {w : World} {A : Around} {E : Value → Shared → Prop} {s : Shared} {K : PySem.W.Frag} {x C f : Addr} {od : Option Obj} {dx : Addr}
theorem isn_of (X : K.In s.heap) (I : PySem.W.InstAt s.heap x (PySem.W.instObj C dx) C od) {T : String} (e : PySem.W.kitOne K (.ref C) (.type T) = some false) : PySem.W.Looks (model prog w) s.heap (isInstance (.ref x) (.type T)) false := by
  have z : PySem.W.kitCls K (.ref C) (.type T) = some false := e
  exact I.type.andThen (PySem.W.kit_cls X z).2.2
theorem dec_none (l : Addr) : Gives (Builtin.«NoneType.__eq__» ⟨[.none, .ref l], []⟩) (.val (Value.notImplemented)) := SeqAt.NoneType___eq___none_ref_0 l
theorem dec_bool (b : Bool) (l C dx : Addr) : Meets (Builtin.«int.__eq__» ⟨[.bool b, .ref l], []⟩) (fun _ R s => s.heap.get? l = some (PySem.W.instObj C dx) ∧ R (.ok (.ret .notImplemented)) s) :=
  .of_wp fun prog w A R s h => by obtain ⟨hp, g, d, tk, os⟩ := s; obtain ⟨hl, h⟩ := h; wp_walk using AutoSeq1.wpAny_loadPart' hl, wpAny_load hl; exact ⟨_, rfl, h⟩
theorem dec_int (b : Int) (u : Tok) (l C dx : Addr) : Meets (Builtin.«int.__eq__» ⟨[.int b u, .ref l], []⟩) (fun _ R s => s.heap.get? l = some (PySem.W.instObj C dx) ∧ R (.ok (.ret .notImplemented)) s) :=
  .of_wp fun prog w A R s h => by obtain ⟨hp, g, d, tk, os⟩ := s; obtain ⟨hl, h⟩ := h; wp_walk using AutoSeq1.wpAny_loadPart' hl, wpAny_load hl; exact ⟨_, rfl, h⟩
theorem dec_str (b : Str) (u : Tok) (l C dx : Addr) : Meets (Builtin.«str.__eq__» ⟨[.str b u, .ref l], []⟩) (fun _ R s => s.heap.get? l = some (PySem.W.instObj C dx) ∧ R (.ok (.ret .notImplemented)) s) :=
  .of_wp fun prog w A R s h => by obtain ⟨hp, g, d, tk, os⟩ := s; obtain ⟨hl, h⟩ := h; wp_walk using AutoSeq1.wpAny_loadPart' hl, wpAny_load hl; exact ⟨_, rfl, h⟩
theorem dec_list {a : Addr} {items : Array Value} {n : Nat} {dd : Option Addr} {sl : Array (Option Value)} {Q : Value → Shared → Prop} (X : K.In s.heap) (I : PySem.W.InstAt s.heap x (PySem.W.instObj C dx) C od) (e : PySem.W.kitOne K (.ref C) (.type "list") = some false)
    (hl : s.heap.get? a = some { cls := .type "list", dict := dd, data := .seq items n, slots := sl }) (q : Q .notImplemented s) : wpAny (model prog w) A (call (.builtin "list.__eq__") [.ref a, .ref x]) Q E s := by
  have L : PySem.W.Looks (model prog w) s.heap (isInstance (.ref x) (.type "list")) false := isn_of X I e
  refine wpAny_call (codeAny_call_builtin F.slot_list_eq.plain F.entry_list_eq (F.slot_list_eq.check _ _ _ _ _ _ _ _ ⟨_, hl, rfl⟩ (F.args_list_eq_2 _ _) ?_))
  unfold Builtin.«list.__eq__»
  k_delta "listCompare"
  refine wpAny_bind (m := slotArgs _ _ _) (wpAny_pure ?_)
  refine wpAny_bind (L.here ?_)
  simp only [Bool.not_false, if_true]
  exact wpAny_pure q
theorem dec_tup {a : Addr} {items : Array Value} {n : Nat} {dd : Option Addr} {sl : Array (Option Value)} {Q : Value → Shared → Prop} (X : K.In s.heap) (I : PySem.W.InstAt s.heap x (PySem.W.instObj C dx) C od) (e : PySem.W.kitOne K (.ref C) (.type "tuple") = some false)
    (hl : s.heap.get? a = some { cls := .type "tuple", dict := dd, data := .seq items n, slots := sl }) (q : Q .notImplemented s) : wpAny (model prog w) A (call (.builtin "tuple.__eq__") [.ref a, .ref x]) Q E s := by
  have L : PySem.W.Looks (model prog w) s.heap (isInstance (.ref x) (.type "tuple")) false := isn_of X I e
  refine wpAny_call (codeAny_call_builtin F.slot_tuple_eq.plain F.entry_tuple_eq (F.slot_tuple_eq.check _ _ _ _ _ _ _ _ ⟨_, hl, rfl⟩ (F.args_tuple_eq_2 _ _) ?_))
  unfold Builtin.«tuple.__eq__»
  k_delta "compare"
  refine wpAny_bind (m := slotArgs _ _ _) (wpAny_pure ?_)
  refine wpAny_bind (L.here ?_)
  simp only [Bool.not_false, if_true]
  exact wpAny_pure q
theorem dec_dict {a : Addr} {o : Obj} {Q : Value → Shared → Prop} (X : K.In s.heap) (I : PySem.W.InstAt s.heap x (PySem.W.instObj C dx) C od) (e : PySem.W.kitOne K (.ref C) (.type "dict") = some false)
    (hl : s.heap.get? a = some o) (hc : o.cls = .type "dict") (q : Q .notImplemented s) : wpAny (model prog w) A (call (.builtin "dict.__eq__") [.ref a, .ref x]) Q E s := by
  have L : PySem.W.Looks (model prog w) s.heap (isInstance (.ref x) (.type "dict")) false := isn_of X I e
  refine wpAny_call (codeAny_call_builtin F.slot_dict_eq.plain F.entry_dict_eq (F.slot_dict_eq.check _ _ _ _ _ _ _ _ ⟨_, hl, hc⟩ (F.args_dict_eq_2 _ _) ?_))
  unfold Builtin.«dict.__eq__»
  k_delta "equality"
  refine wpAny_bind (m := Builtin.Dict.dictSlotArgs _ _) (wpAny_pure ?_)
  refine wpAny_bind (L.here ?_)
  simp only [Bool.not_false, if_true]
  refine wpAny_bind (wpAny_rule ?_)
  exact wpAny_pure q
/-- a == o: a's type declines, o's own == is asked -/
theorem rc_refl {a : Value} {Ta ida : String} {Q : Value → Shared → Prop} (hu : A.units < cLine) (ha : s.TypeIs a Ta) (X : K.In s.heap) (I : PySem.W.InstAt s.heap x (PySem.W.instObj C dx) C od) (e : PySem.W.kitOne K (.ref C) (.type Ta) = some false) (h1 : Slot Ta (cmpInfo .Eq).2.1 ida)
    (hc1 : ∀ Q' : Value → Shared → Prop, Q' .notImplemented s → wpAny (model prog w) A (call (.builtin ida) [a, .ref x]) Q' E s)
    (hs : PySem.W.findIn K (.ref C) "__eq__" = some (some (.ref f))) (hf : PySem.W.isFn K (.ref f) = true)
    (h : wpAny (model prog w) A (call (.ref f) [.ref x, a]) (PySem.W.CmpBack Q) E s) : wpAny (model prog w) A (richCompare .Eq a (.ref x)) Q E s := by
  have one : wpAny (model prog w) A (tryCompare (.ref x) "__eq__" a) (fun r s' => ∃ v, r = some v ∧ Q v s') E s := by
    unfold tryCompare
    refine wpAny_bind (PySem.W.ifBound_K X I hs hf (wpAny_mono h (fun v s' hv => ?_) fun _ _ e => e))
    cases v <;> first | exact hv.elim | exact wpAny_pure ⟨_, rfl, hv⟩
  have z : PySem.W.kitCls K (.ref C) (.type Ta) = some false := e
  simp only [richCompare, ha.oneThing_none]
  try with_reducible refine wpAny_holding ?_
  refine wpAny_bind (wpAny_cRoomFor_or (.inr hu) ?_)
  refine wpAny_bind (wpAny_typeOf ha (wpAny_bind (I.type.here ?_)))
  rw [if_pos (show (Value.type Ta != Value.ref C) = true from rfl)]
  refine wpAny_bind ((PySem.W.kit_cls X z).2.2.here ?_)
  simp only [Bool.false_eq_true, if_false]
  refine wpAny_bind (m := tryCompare a _ _) (wpAny_tryCompare_declines ha h1 (hc1 _ ⟨rfl, ?_⟩))
  simp only [Bool.not_false, if_true]
  refine wpAny_bind (m := tryCompare _ _ a) (wpAny_mono one (fun r s' z => ?_) fun _ _ e => e)
  obtain ⟨v, rfl, hq⟩ := z
  exact wpAny_pure hq
/-- o != b by object.__ne__, which asks o's own == -/
theorem rc_ne {b : Value} {tb : Value} {Q : Value → Shared → Prop} (hu : A.units + 1 < cLine) (X : K.In s.heap) (I : PySem.W.InstAt s.heap x (PySem.W.instObj C dx) C od) (hb : PySem.W.Looks (model prog w) s.heap (typeOf b) tb) (hn : PySem.W.notFirst K C tb = true)
    (hne : PySem.W.findIn K (.ref C) "__ne__" = some (some (.builtin "object.__ne__"))) (ob : PySem.W.Looks (model prog w) s.heap (isInstance (.ref x) (.type "object")) true)
    (hs : PySem.W.findIn K (.ref C) "__eq__" = some (some (.ref f))) (hf : PySem.W.isFn K (.ref f) = true)
    (h : wpAny (model prog w) A.in1 (call (.ref f) [.ref x, b]) (fun v s' => ∃ r, v = .bool r ∧ Q (.bool (!r)) s') E s) : wpAny (model prog w) A (richCompare .NotEq (.ref x) b) Q E s := by
  have one : wpAny (model prog w) A (tryCompare (.ref x) "__ne__" b) (fun r s' => ∃ v, r = some v ∧ Q v s') E s := by
    unfold tryCompare
    have cal : wpAny (model prog w) A (call (.builtin "object.__ne__") [.ref x, b]) (fun v s' => ∃ r, v = .bool r ∧ Q (.bool r) s') E s := by
      refine wpAny_call (codeAny_call_builtin F.slot_object_ne.plain F.cmpEntry_ne (PySem.W.check_slot F.cmpKind_ne F.cmpSplit_ne ob (F.cmpArgs_ne _ _) ?_))
      unfold Builtin.«object.__ne__»
      refine wpAny_bind (m := slotArgs _ _ _) (wpAny_pure ?_)
      refine wpAny_bind (wpAny_cRoomFor (by rw [Around.in1_units]; exact hu) ?_)
      refine wpAny_bind (PySem.W.ifBound_K X I hs hf (wpAny_mono h (fun v s' hv => ?_) fun _ _ e => e))
      obtain ⟨r, rfl, hq⟩ := hv
      refine wpAny_bind (wpAny_truthy_bool ?_)
      exact wpAny_pure ⟨_, rfl, hq⟩
    refine wpAny_bind ?_
    simp only [callSpecialIfBound?, bindSpecialIfBound?]
    refine wpAny_holding (wpAny_bind (wpAny_bind (wpAny_bind (I.type.here ((PySem.W.looks_findIn X hne).here ?_)))))
    refine wpAny_bind (wpAny_askSetting (wpAny_ite ?_))
    have fin : wpAny (model prog w) A (call (.builtin "object.__ne__") ([.ref x] ++ [b]) >>= fun v => pure (some v)) (fun a s => wpAny (model prog w) A (match a with
          | some .notImplemented => pure none
          | none => pure none
          | some v => pure (some v)) (fun r s' => ∃ v, r = some v ∧ Q v s') E s) E s := wpAny_bind (wpAny_mono cal (fun v s' h' => by
        obtain ⟨r, rfl, hq⟩ := h'
        exact wpAny_pure (wpAny_pure ⟨_, rfl, hq⟩)) fun _ _ h' => h')
    simp only [F.slot_object_ne.bind]
    split
    · exact wpAny_bind (wpAny_pure (wpAny_pure fin))
    · exact wpAny_tryCatch (wpAny_bind (wpAny_pure (wpAny_pure fin)))
  unfold richCompare
  simp only [oneThing_ref]
  refine wpAny_holding (wpAny_bind (wpAny_cRoomFor (Nat.lt_of_succ_lt hu) ?_))
  refine wpAny_bind (I.type.here (wpAny_bind (hb.here ?_)))
  have fin : wpAny (model prog w) A (tryCompare (.ref x) "__ne__" b) (fun r s' => ∃ v, r = some v ∧ Q v s') E s := one
  split
  · rename_i q
    have e : PySem.W.subIn K tb (.ref C) = some false := by
      rcases Bool.or_eq_true_iff.mp hn with e | e
      · rw [beq_iff_eq.mp e] at q; simp at q
      · exact beq_iff_eq.mp e
    refine wpAny_bind ((PySem.W.looks_subIn X e).here ?_)
    simp only [Bool.false_eq_true, if_false]
    refine wpAny_bind (wpAny_mono one (fun r s' z => ?_) fun _ _ e => e)
    obtain ⟨v, rfl, hq⟩ := z
    exact wpAny_pure hq
  · refine wpAny_bind (wpAny_pure ?_)
    simp only [Bool.false_eq_true, if_false]
    refine wpAny_bind (wpAny_mono one (fun r s' z => ?_) fun _ _ e => e)
    obtain ⟨v, rfl, hq⟩ := z
    exact wpAny_pure hq
end
end Wv
namespace Wv
open PySem L2
section
variable {G : Cfg} {p : Pg} {n : Nat} {g : Bool} {X : Cx} {W : WX} {B : Bs} {U : Wd} {env : Ev} {fs : FS} {hs : List (V × R)} {σ : St} {H : Hp} {pins : List (Addr × Obj)} {s : Shared} {pos : Pos}
def Ob.op : Ob → CmpOp
  | .le => .LtE
  | .isin => .In
  | .notin => .NotIn
  | .eq => .Eq
  | .ne => .NotEq
theorem obj_le (o : XOk G p n g X W) (I : Inv X pins σ H s) {x y : V} {v u : Value} {d e : D} {Q : VK} (rx : RelV x v) (ry : RelV y u) (h : Rel G B U env fs hs σ H) (bx : Rep G U.F U.mu H x d) (bY : Rep G U.F U.mu H y e)
    (q : Post G W B env hs σ (KQ G B env hs σ Q) ((prm p g n).leO d e fs)) : wpAny (model X.prog X.w) X.A (compareOp .LtE v u) (EP X pins σ Q) X.xe s := by
  unfold Prm.leO Prm.meth at q
  cases ec : clsOf d fs.st with
  | none =>
    rw [ec] at q
    exact q.elim
  | some w =>
    obtain ⟨c, ks, vs⟩ := w
    rw [ec] at q
    dsimp only at q
    cases ec2 : clsOf e fs.st with
    | none =>
      rw [ec2] at q
      exact q.elim
    | some w2 =>
      obtain ⟨c2, ks2, vs2⟩ := w2
      rw [ec2] at q
      have z := ite_post0 q
      clear q
      obtain ⟨hc, q⟩ := z
      subst hc
      cases ef : (prm p g n).methOf c mLe with
      | none =>
        rw [ef] at q
        exact q.elim
      | some f =>
        rw [ef] at q
        dsimp only at q
        obtain ⟨fn, hf⟩ := call_has q
        obtain ⟨k, fn', hk, hl, M, _⟩ := meth_at o ef
        obtain ⟨a, dx, ws, e1, e2, k3, r3⟩ := cls_at h (RepB.of bx) ec
        obtain ⟨a2, dx2, ws2, e4, e5, k6, r6⟩ := cls_at h (RepB.of bY) ec2
        subst e1
        subst e4
        obtain rfl : v = Value.ref a := rx
        obtain rfl : u = Value.ref a2 := ry
        obtain ⟨od, J⟩ := inst_of I e2
        obtain ⟨od2, J2⟩ := inst_of I e5
        rw [nm_sp o.pg (by decide), ← o.K] at M
        obtain ⟨m, hF⟩ := I.fr
        show wpAny (model X.prog X.w) X.A (richCompare .LtE (.ref a) (.ref a2)) (EP X pins σ Q) X.xe s
        refine PySem.W.cmp_K (op := .LtE) (tb := .ref (G.ca c)) (by have := o.units; omega) hF I.ok.mod.kin J J2.type (by simp [PySem.W.notFirst]) M.at_ M.fn ?_
        exact wpAny_mono (call_ds o hf I (vs := [.ref a, .ref a2]) (us := [.ref a, .ref a2]) (ds := [d, e]) (.cons rfl (.cons rfl .nil)) h (.cons bx (.cons bY .nil)) q) (fun _ _ z => cmpBack_ep z) fun _ _ z => z
theorem obj_in (o : XOk G p n g X W) (neg : Bool) (I : Inv X pins σ H s) {x y : V} {v u : Value} {d e : D} {Q : VK} (rx : RelV x v) (ry : RelV y u) (h : Rel G B U env fs hs σ H) (bx : Rep G U.F U.mu H x d) (bY : Rep G U.F U.mu H y e)
    (q : Post G W B env hs σ (KQ G B env hs σ Q) (((prm p g n).meth e mIn [d] fs).bnd (blO neg))) : wpAny (model X.prog X.w) X.A (compareOp (if neg = true then .NotIn else .In) v u) (EP X pins σ Q) X.xe s := by
  unfold Prm.meth at q
  cases ec : clsOf e fs.st with
  | none =>
    rw [ec] at q
    exact q.elim
  | some w =>
    obtain ⟨c, ks, vs⟩ := w
    rw [ec] at q
    dsimp only at q
    cases ef : (prm p g n).methOf c mIn with
    | none =>
      rw [ef] at q
      exact q.elim
    | some f =>
      rw [ef] at q
      dsimp only at q
      obtain ⟨fn, hf⟩ := call_has q.bnd
      obtain ⟨k, fn', hk, hl, M, _⟩ := meth_at o ef
      obtain ⟨a, dx, ws, e1, e2, k3, r3⟩ := cls_at h (RepB.of bY) ec
      subst e1
      obtain rfl : u = Value.ref a := ry
      obtain ⟨od, J⟩ := inst_of I e2
      rw [nm_sp o.pg (by decide), ← o.K] at M
      obtain ⟨m, hF⟩ := I.fr
      have run := call_ds (Q := fun v H' => ∃ b, v = .bl b ∧ Q (.bl (neg ^^ b)) H') o hf I (vs := [.ref a, x]) (us := [.ref a, v]) (ds := [e, d]) (.cons rfl (.cons rx .nil)) h (.cons bY (.cons bx .nil)) (q.bnd.imp fun r s1 y v U1 H1 g1 => by
        cases r with
        | own k => exact y.elim
        | fz d' =>
          cases d' with
          | bl b =>
            have t : Rep G U1.F U1.mu H1 v (.bl b) := g1.top
            cases t
            exact ⟨b, rfl, y _ _ _ (g1.drop.push (r := .fz (.bl (neg ^^ b))) (.bl _))⟩
          | _ => exact y.elim)
      cases neg with
      | false =>
        refine PySem.W.in_K hF I.ok.mod.kin J M.at_ M.fn (wpAny_mono run (fun u1 s' hr => ?_) fun _ _ z => z)
        obtain ⟨v1, H1, I1, rv, b, e, qv⟩ := hr
        subst e
        cases rv
        refine wpAny_truthy_bool ⟨.bl b, H1, I1, rfl, ?_⟩
        rwa [Bool.false_xor] at qv
      | true =>
        refine PySem.W.notIn_K hF I.ok.mod.kin J M.at_ M.fn (wpAny_mono run (fun u1 s' hr => ?_) fun _ _ z => z)
        obtain ⟨v1, H1, I1, rv, b, e, qv⟩ := hr
        subst e
        cases rv
        refine wpAny_truthy_bool ⟨.bl (!b), H1, I1, rfl, ?_⟩
        rwa [Bool.true_xor] at qv
theorem kit_no {K : PySem.W.Frag} {T : Value} {C : Addr} (e : PySem.W.kitOne K T (.ref C) = some false) : PySem.W.subIn K T (.ref C) = some false := by
  unfold PySem.W.kitOne at e
  split at e
  · cases e
  · unfold PySem.W.kitCls at e
    dsimp only at e
    split at e
    · exact e
    · cases e
theorem obj_eqL (o : XOk G p n g X W) (neg : Bool) (I : Inv X pins σ H s) {x y : V} {v u : Value} {d e : D} {Q : VK} {c : Nat} {ks : List Nat} {vs : List D} (rx : RelV x v) (ry : RelV y u) (h : Rel G B U env fs hs σ H) (bx : Rep G U.F U.mu H x d) (bY : Rep G U.F U.mu H y e)
    (ec : clsOf d fs.st = some (c, ks, vs)) (hb : (prm p g n).besD c e fs.st = true) (q : Post G W B env hs σ (KQ G B env hs σ Q) (((prm p g n).meth d mEq [e] fs).bnd (blO neg))) :
    wpAny (model X.prog X.w) X.A (richCompare (if neg = true then .NotEq else .Eq) v u) (EP X pins σ Q) X.xe s := by
  unfold Prm.meth at q
  rw [ec] at q
  dsimp only at q
  cases ef : (prm p g n).methOf c mEq with
  | none =>
    rw [ef] at q
    exact q.elim
  | some f =>
    rw [ef] at q
    dsimp only at q
    obtain ⟨fn, hf⟩ := call_has q.bnd
    obtain ⟨k, fn', hk, hl, M, _⟩ := meth_at o ef
    have C := o.pg.cls c k hk
    obtain ⟨a, dx, ws, e1, e2, k3, r3⟩ := cls_at h (RepB.of bx) ec
    subst e1
    obtain rfl : v = Value.ref a := rx
    obtain ⟨od, J⟩ := inst_of I e2
    rw [nm_sp o.pg (by decide), ← o.K] at M
    have tyl : ∃ tb, PySem.W.Looks (model X.prog X.w) s.heap (typeOf u) tb ∧ PySem.W.notFirst X.K (G.ca c) tb = true := by
      unfold Prm.besD at hb
      rcases Bool.or_eq_true_iff.mp hb with z | z
      · cases ec2 : clsOf e fs.st with
        | none =>
          rw [ec2] at z
          cases z
        | some w2 =>
          obtain ⟨c2, ks2, vs2⟩ := w2
          rw [ec2] at z
          have z : decide (c2 = c) = true := z
          obtain rfl : c2 = c := of_decide_eq_true z
          obtain ⟨a2, dx2, ws2, e4, e5, k6, r6⟩ := cls_at h (RepB.of bY) ec2
          subst e4
          obtain rfl : u = Value.ref a2 := ry
          obtain ⟨od2, J2⟩ := inst_of I e5
          exact ⟨_, J2.type, by simp [PySem.W.notFirst]⟩
      · have z : (prm p g n).isi fs.st e (.own c) = some false := of_decide_eq_true z
        obtain ⟨T, h1, h2⟩ := isi_ok (t := .own c) (x := k.nm) o h (RepB.of bY) (by show (p.cls[c]?).map (·.nm) = some k.nm; rw [hk] <;> rfl) z
        obtain ⟨P, Z, hp, _⟩ := kit_of I ry h1
        refine ⟨T, Z.ty _ _ I.kIn hp, ?_⟩
        unfold PySem.W.notFirst
        rw [show PySem.W.subIn X.K T (.ref (G.ca c)) = some false from kit_no h2]
        simp
    obtain ⟨tb, L, hn⟩ := tyl
    obtain ⟨m, hF⟩ := I.fr
    have q2 : Post G W B env hs σ (fun r fs' => ∀ v W' H', Rel G B W' env fs' ((v, r) :: hs) σ H' → ∃ b, v = .bl b ∧ Q (.bl (neg ^^ b)) H') (((prm p g n).call f [d, e] fs.st).out fs.ol) := q.bnd.imp fun r s1 y v U1 H1 g1 => by
      cases r with
      | own k => exact y.elim
      | fz d' =>
        cases d' with
        | bl b =>
          have t : Rep G U1.F U1.mu H1 v (.bl b) := g1.top
          cases t
          exact ⟨b, rfl, y _ _ _ (g1.drop.push (r := .fz (.bl (neg ^^ b))) (.bl _))⟩
        | _ => exact y.elim
    cases neg with
    | false =>
      have run := call_ds (Q := fun v H' => ∃ b, v = .bl b ∧ Q (.bl (false ^^ b)) H') o hf I (vs := [.ref a, y]) (us := [.ref a, u]) (ds := [d, e]) (.cons rfl (.cons ry .nil)) h (.cons bx (.cons bY .nil)) q2
      show wpAny (model X.prog X.w) X.A (richCompare .Eq (.ref a) u) (EP X pins σ Q) X.xe s
      refine PySem.W.cmp_K (op := .Eq) (by have := o.units; omega) hF I.ok.mod.kin J L hn M.at_ M.fn ?_
      refine wpAny_mono run (fun u1 s' hr => ?_) fun _ _ z => z
      obtain ⟨v1, H1, I1, rv, b, e, qv⟩ := hr
      subst e
      cases rv
      exact ⟨.bl b, H1, I1, rfl, by rwa [Bool.false_xor] at qv⟩
    | true =>
      have ob : PySem.W.Looks (model X.prog X.w) s.heap (isInstance (.ref a) (.type "object")) true := J.type.andThen (PySem.W.looks_mroIn I.kIn (o.K ▸ C.klass.2))
      show wpAny (model X.prog X.w) X.A (richCompare .NotEq (.ref a) u) (EP X pins σ Q) X.xe s
      refine rc_ne (by have := o.units; omega) I.kIn J L hn (o.K ▸ C.ne) ob M.at_ M.fn ?_
      refine wpAny_mono (run_gA (A := X.A.in1) (Q := fun v H' => ∃ b, v = .bl b ∧ Q (.bl (true ^^ b)) H') (o.fn f fn hf) (o.room.mono (show 4 * n + 1 ≤ 4 * n + 3 by omega)).in1 o.gd rfl o.tk I (vs := [.ref a, y]) (us := [.ref a, u]) (.cons rfl (.cons ry .nil)) ⟨U.F, U.mu, [d, e], fs.st, h.enter, .cons bx (.cons bY .nil), ocp_of h q2⟩ |> wpAny_call) (fun u1 s' hr => ?_) fun _ _ z => z
      obtain ⟨v1, H1, I1, rv, b, e, qv⟩ := hr
      subst e
      cases rv
      exact ⟨b, rfl, .bl (!b), H1, I1, rfl, by rwa [Bool.true_xor] at qv⟩
theorem obj_eqR (o : XOk G p n g X W) (I : Inv X pins σ H s) {x y : V} {v u : Value} {d e : D} {Q : VK} (rx : RelV x v) (ry : RelV y u) (h : Rel G B U env fs hs σ H) (bx : Rep G U.F U.mu H x d) (bY : Rep G U.F U.mu H y e) (hp : plainD d = true)
    (q : Post G W B env hs σ (KQ G B env hs σ Q) (((prm p g n).meth e mEq [d] fs).bnd (blO false))) :
    wpAny (model X.prog X.w) X.A (richCompare .Eq v u) (EP X pins σ Q) X.xe s := by
  unfold Prm.meth at q
  cases ec : clsOf e fs.st with
  | none =>
    rw [ec] at q
    exact q.elim
  | some w =>
    obtain ⟨c, ks, vs⟩ := w
    rw [ec] at q
    dsimp only at q
    cases ef : (prm p g n).methOf c mEq with
    | none =>
      rw [ef] at q
      exact q.elim
    | some f =>
      rw [ef] at q
      dsimp only at q
      obtain ⟨fn, hf⟩ := call_has q.bnd
      obtain ⟨k, fn', hk, hl, M, _⟩ := meth_at o ef
      have C := o.pg.cls c k hk
      obtain ⟨a, dx, ws, e1, e2, k3, r3⟩ := cls_at h (RepB.of bY) ec
      subst e1
      obtain rfl : u = Value.ref a := ry
      obtain ⟨mA, O, _, _, _, _⟩ := ins_get I.hok e2
      obtain ⟨od, J, _⟩ := O.look
      rw [nm_sp o.pg (by decide), ← o.K] at M
      have run := call_ds (Q := fun v H' => ∃ b, v = .bl b ∧ Q (.bl (false ^^ b)) H') o hf I (vs := [.ref a, x]) (us := [.ref a, v]) (ds := [e, d]) (.cons rfl (.cons rx .nil)) h (.cons bY (.cons bx .nil)) (q.bnd.imp fun r s1 y v U1 H1 g1 => by
        cases r with
        | own k => exact y.elim
        | fz d' =>
          cases d' with
          | bl b =>
            have t : Rep G U1.F U1.mu H1 v (.bl b) := g1.top
            cases t
            exact ⟨b, rfl, y _ _ _ (g1.drop.push (r := .fz (.bl (false ^^ b))) (.bl _))⟩
          | _ => exact y.elim)
      have run2 : wpAny (model X.prog X.w) X.A (call (.ref (G.fa f)) [.ref a, v]) (PySem.W.CmpBack (EP X pins σ Q)) X.xe s := wpAny_mono run (fun u1 s' hr => by
        obtain ⟨v1, H1, I1, rv, b, e, qv⟩ := hr
        subst e
        cases rv
        exact ⟨.bl b, H1, I1, rfl, by rwa [Bool.false_xor] at qv⟩) fun _ _ z => z
      have hu : X.A.units < cLine := by have := o.units; omega
      have hx : s.heap.get? a = some (PySem.W.instObj (G.ca c) dx) := J.at_
      have ty : ∀ T, T ∈ (["NoneType", "int", "bool", "str", "tuple", "list", "dict"] : List String) → PySem.W.kitOne X.K (.ref (G.ca c)) (.type T) = some false := fun T hT => by rw [o.K]; exact C.isTy T hT
      cases d with
      | non =>
        cases bx
        obtain rfl : v = Value.none := rx
        exact rc_refl hu rfl I.kIn J (ty "NoneType" (by decide)) F.slot_NoneType_eq (fun _ hq => call_gives F.slot_NoneType_eq rfl F.entry_NoneType_eq (F.args_NoneType_eq_2 _ _) (dec_none _) hq) M.at_ M.fn run2
      | bl b =>
        cases bx
        obtain rfl : v = Value.bool b := rx
        exact rc_refl hu rfl I.kIn J (ty "bool" (by decide)) F.slot_bool_eq (fun _ hq => call_meets F.slot_bool_eq rfl F.entry_int_eq (F.args_int_eq_2 _ _) (dec_bool b a _ _) ⟨hx, hq⟩) M.at_ M.fn run2
      | int i =>
        cases bx
        obtain ⟨t, rfl⟩ := (show ∃ t, v = Value.int i t from rx)
        exact rc_refl hu (typeIs_int s i t) I.kIn J (ty "int" (by decide)) F.slot_int_eq (fun _ hq => call_meets F.slot_int_eq (typeIs_int s i t) F.entry_int_eq (F.args_int_eq_2 _ _) (dec_int i t a _ _) ⟨hx, hq⟩) M.at_ M.fn run2
      | str i =>
        cases bx
        obtain ⟨t, rfl⟩ := (show ∃ t, v = Value.str i t from rx)
        exact rc_refl hu (typeIs_str s i t) I.kIn J (ty "str" (by decide)) F.slot_str_eq (fun _ hq => call_meets F.slot_str_eq (typeIs_str s i t) F.entry_str_eq (F.args_str_eq_2 _ _) (dec_str i t a _ _) ⟨hx, hq⟩) M.at_ M.fn run2
      | tup w =>
        obtain ⟨b, vs, e3, _, e4, _⟩ := (RepB.of (U := U) bx).tup
        subst e3
        obtain rfl : v = Value.ref b := rx
        obtain ⟨_, its, _, ob, h1, h2, nn, h3⟩ := (show ObjOk X.prog X.w H s.heap b (.tup vs) from I.hok b _ e4)
        obtain ⟨cls, dd, data, sl⟩ := ob
        simp only at h2 h3
        subst h2 h3
        exact rc_refl hu ⟨_, h1, rfl⟩ I.kIn J (ty "tuple" (by decide)) F.slot_tuple_eq (fun _ hq => dec_tup I.kIn J (ty "tuple" (by decide)) h1 hq) M.at_ M.fn run2
      | lst w =>
        obtain ⟨b, vs, e3, e4, _⟩ := (RepB.of (U := U) bx).lst
        subst e3
        obtain rfl : v = Value.ref b := rx
        obtain ⟨_, its, nn, _, h1⟩ := (show ObjOk X.prog X.w H s.heap b (.lst vs) from I.hok b _ e4)
        exact rc_refl hu ⟨_, h1, rfl⟩ I.kIn J (ty "list" (by decide)) F.slot_list_eq (fun _ hq => dec_list I.kIn J (ty "list" (by decide)) h1 hq) M.at_ M.fn run2
      | dic ks w =>
        obtain ⟨b, kvs, e3, e4, _⟩ := (RepB.of (U := U) bx).dic
        subst e3
        obtain rfl : v = Value.ref b := rx
        obtain ⟨_, _, vs, _, ob, es, ep, h1, h2, _⟩ := (show ObjOk X.prog X.w H s.heap b (.dK kvs) from I.hok b _ e4)
        exact rc_refl hu ⟨ob, h1, h2.1⟩ I.kIn J (ty "dict" (by decide)) F.slot_dict_eq (fun _ hq => dec_dict I.kIn J (ty "dict" (by decide)) h1 h2.1 hq) M.at_ M.fn run2
      | _ => cases hp
theorem obj_eq (o : XOk G p n g X W) (neg : Bool) (I : Inv X pins σ H s) {x y : V} {v u : Value} {d e : D} {Q : VK} (rx : RelV x v) (ry : RelV y u) (h : Rel G B U env fs hs σ H) (bx : Rep G U.F U.mu H x d) (bY : Rep G U.F U.mu H y e)
    (q : Post G W B env hs σ (KQ G B env hs σ Q) ((prm p g n).eqO neg d e fs)) : wpAny (model X.prog X.w) X.A (compareOp (if neg = true then .NotEq else .Eq) v u) (EP X pins σ Q) X.xe s := by
  unfold Prm.eqO at q
  have go : wpAny (model X.prog X.w) X.A (richCompare (if neg = true then .NotEq else .Eq) v u) (EP X pins σ Q) X.xe s := by
    cases ec : clsOf d fs.st with
    | some w =>
      obtain ⟨c, ks, vs⟩ := w
      rw [ec] at q
      obtain ⟨hb, q⟩ := ite_post0 q
      exact obj_eqL o neg I rx ry h bx bY ec hb q
    | none =>
      rw [ec] at q
      dsimp only at q
      have z := ite_post0 q
      clear q
      obtain ⟨⟨hn, hp⟩, q1⟩ := z
      subst hn
      exact obj_eqR o I rx ry h bx bY hp q1
  cases neg <;> exact go
theorem obj_own (o : XOk G p n g X W) {k : Ob} (I : Inv X pins σ H s) {x y : V} {v u : Value} {d e : D} {Q : VK} (rx : RelV x v) (ry : RelV y u) (h : Rel G B U env fs hs σ H) (bx : Rep G U.F U.mu H x d) (bY : Rep G U.F U.mu H y e)
    (q : Post G W B env hs σ (KQ G B env hs σ Q) ((prm p g n).own2 k d e fs)) : wpAny (model X.prog X.w) X.A (compareOp k.op v u) (EP X pins σ Q) X.xe s := by
  cases k with
  | eq => exact obj_eq o false I rx ry h bx bY q
  | ne => exact obj_eq o true I rx ry h bx bY q
  | le => exact obj_le o I rx ry h bx bY q
  | isin => exact obj_in o false I rx ry h bx bY q
  | notin => exact obj_in o true I rx ry h bx bY q
variable {k : Ob} {a b : Expr} {ea eb : E}
theorem sd_oop (o : XOk G p n g X W) (ha : PE X a (tE G W (ev (prm p g n) ea))) (hb : PE X b (tE G W (ev (prm p g n) eb))) (hm : noSet b = true) : PE X (.Compare a [k.op] [b] pos) (tE G W (ev (prm p g n) (.oop k ea eb))) := by
  refine ⟨fun pins s σ H Q I h => ?_⟩
  refine wpAny_Compare1 (binT ha hb I (tE_two h) fun v u s2 x y H2 I2 rx ry q => ?_) (set_marks hm)
  obtain ⟨B, U, env, fs, hs, r, t, g2, q⟩ := q
  obtain ⟨z0, ez0, q⟩ := q.need
  obtain ⟨z, ez, q⟩ := q.need
  obtain ⟨U2, g4, r4, m4⟩ := g2.fz g2.drop.top ez0
  obtain ⟨U3, g5, r5, m5⟩ := g4.fz (m4 y t g2.top) ez
  exact obj_own o I2 rx ry g5.drop.drop (m5 x (.fz _) r4) r5 q
theorem st_oop (o : XOk G p n g X W) (ha : PE X a (tE G W (ev (prm p g n) ea))) (hb : PE X b (tE G W (ev (prm p g n) eb))) (hm : noSet b = true) : PT X (.Compare a [k.op] [b] pos) (tT G W (tb (ev (prm p g n) (.oop k ea eb)))) := by
  refine ⟨fun pins s σ H Q I h => ?_⟩
  refine wpAny_isTrue_Compare1 (thn (ha.run pins s σ H _ I (tE_two (tT_val h))) fun v s1 ⟨x, H1, I1, rx, q1⟩ => thn (hb.run pins s1 σ H1 _ I1 q1) fun u s2 ⟨y, H2, I2, ry, q⟩ => ?_) (set_marks hm)
  obtain ⟨B, U, env, fs, hs, r, t, g2, q⟩ := q
  obtain ⟨z0, ez0, q⟩ := q.need
  obtain ⟨z, ez, q⟩ := q.need
  obtain ⟨U2, g4, r4, m4⟩ := g2.fz g2.drop.top ez0
  obtain ⟨U3, g5, r5, m5⟩ := g4.fz (m4 y t g2.top) ez
  refine thn (obj_own o I2 rx ry g5.drop.drop (m5 x (.fz _) r4) r5 q) fun c s3 ⟨z, H3, I3, r3, k, e, q3⟩ => ?_
  subst e
  cases r3
  exact wpAny_truthy_bool ⟨H3, I3, q3⟩
end
end Wv
namespace Wv
open PySem L2
section
variable {G : Cfg} {p : Pg} {n : Nat} {g : Bool} {X : Cx} {W : WX} {pos : Pos}
theorem b_list' : bootBuiltins "list" = some (.type "list") := by decide +kernel
theorem sd_lsg (o : XOk G p n g X W) {c m i : Nat} {k : Cla} {q : Gn} {mn : Str} {ob : Expr} {eo : E} {p1 apos pos' : Pos} (hk : p.cls[c]? = some k) (hm : k.gmeth.lookup m = some i) (hq : p.gens[i]? = some q) (he : G.nm m = mn) (hg : Gl X "list")
    (ho : PE X ob (tE G W (ev (prm p g n) eo))) {pl : Sem Bool} (ht : eval (.Call (.Attribute ob mn apos) [] [] pos') X.env = (do
      let ov ← eval ob X.env
      standAt apos.atName
      let (f, first) ← holding [ov] (getMethod ov mn pl)
      callWith pos' f first (backTo pos' (starEach [] X.env)) (backToKw pos' (keywordEach [] X.env)))) :
    PE X (.Call (.Name "list" p1) [.Call (.Attribute ob mn apos) [] [] pos'] [] pos) (tE G W (ev (prm p g n) (.lsg c eo m))) := by
  obtain ⟨fd, ps, F, hb⟩ := o.gen i q hq
  have C := o.pg.cls c k hk
  obtain ⟨M, hx⟩ := C.gmeth m i hm
  have Mx := M
  rw [he, ← o.K] at Mx
  refine (pe_listG (E := fun _ _ _ => False) (pgen_meth0 (E := fun _ _ _ => False) ho (o.K ▸ C.cls) Mx F o.room0 hb .nil ht) (fun pins σ H s e s' I cx => ?_) (fun _ _ _ z => z.elim) o.room hg (by rw [o.mg]; exact o.pg.free _ (by decide)) b_list').imp fun σ H Q h => ?_
  · obtain ⟨_, _, _, _, _, _, _, _, _, _, _, _, z⟩ := cx
    exact z.elim
  · obtain ⟨B, U, env, fs, hs, r, y⟩ := h
    refine ⟨B, U, env, fs, hs, r, y.bnd.imp fun t s1 y v U1 H1 g1 => ?_⟩
    obtain ⟨⟨d, s2⟩, ez, y1⟩ := y.need
    obtain ⟨⟨c', ks, vs⟩, ec, y2⟩ := y1.need
    obtain ⟨⟨hc, hno⟩, y3⟩ := ite_post y2
    obtain ⟨i', ei, y4⟩ := y3.need
    have hi : i' = i := by
      unfold Prm.gmOf at ei
      rw [prm_cs, hk] at ei
      have ei : k.gmeth.lookup m = some i' := ei
      rw [hm] at ei
      exact (Option.some.inj ei).symm
    subst hi
    obtain ⟨⟨acc, st'⟩, eg, y5⟩ := y4.need
    obtain ⟨U2, g2, r2, _⟩ := g1.fz g1.top ez
    obtain ⟨a, dx, ws, e1, e2, kk, rr⟩ := cls_at g2 (.inl r2) ec
    have hc : c' = c := hc
    subst hc
    have l := fld_no (by rw [o.pg.nms]; exact o.pg.nnd) hx kk hno
    rw [he] at l
    refine ⟨a, dx, ws, e1, e2, l, ?_⟩
    show SpGD G ((prm p g n).gens i') [v] H1 (fun out H2 => ∀ p, H2 p = none → Q (.ref p) (upd H2 p (.lst out))) fun _ _ _ => False
    refine ⟨U2.F, U2.mu, [d], s2.st, acc, st', g2.drop.enter, .cons r2 .nil, eg, fun U' env' fs' hs' σ' H' ys g' ry est pp hp => ?_⟩
    have b := g2.drop.back g'
    rw [est] at b
    exact (post_rs y5).lst b ry hp
end
end Wv
namespace Wv
open PySem L2
section
variable {G : Cfg} {p : Pg} {n : Nat} {g : Bool} {X : Cx} {W : WX} {B : Bs} {U : Wd} {env : Ev} {fs : FS} {hs : List (V × R)} {σ : St} {H : Hp} {pos : Pos} {pins : List (Addr × Obj)} {s : Shared}
theorem obj_repr (o : XOk G p n g X W) (I : Inv X pins σ H s) {x : V} {v : Value} {d : D} {Q : VK} (rx : RelV x v) (h : Rel G B U env fs hs σ H) (bx : Rep G U.F U.mu H x d)
    (q : Post G W B env hs σ (KQ G B env hs σ Q) (((prm p g n).meth d mRepr [] fs).bnd strO)) : wpAny (model X.prog X.w) X.A (call (.builtin "repr") [v]) (EP X pins σ Q) X.xe s := by
  unfold Prm.meth at q
  cases ec : clsOf d fs.st with
  | none =>
    rw [ec] at q
    exact q.elim
  | some w =>
    obtain ⟨c, ks, vs⟩ := w
    rw [ec] at q
    dsimp only at q
    cases ef : (prm p g n).methOf c mRepr with
    | none =>
      rw [ef] at q
      exact q.elim
    | some f =>
      rw [ef] at q
      obtain ⟨k, fn, hk, hl, M, hf⟩ := meth_at o ef
      rcases hf with hf | hf
      · obtain ⟨a, dx, ws, e1, e2, k3, r3⟩ := cls_at h (RepB.of bx) ec
        subst e1
        obtain rfl : v = Value.ref a := rx
        obtain ⟨od, J⟩ := inst_of I e2
        rw [nm_sp o.pg (by decide), ← o.K] at M
        refine Calls.call_function_entry PySem.F.kind_repr PySem.F.plain_repr PySem.F.entry_repr (PySem.F.args_repr1 _) ?_
        unfold Builtin.«repr»
        refine wpAny_bind (m := oneArg "repr" _) (wpAny_pure ?_)
        have hu : X.A.in1.units < cLine := by
          have := o.units
          rw [Around.in1_units]
          omega
        refine wpAny_bind (wpAny_cRoomFor hu ?_)
        refine wpAny_bind (wpAny_bind (J.type.here ((PySem.W.looks_findIn I.kIn M.at_).here ?_)))
        show wpAny _ _ (if (some (Value.ref (G.fa f))).isNone = true then _ else _) _ _ _
        rw [if_neg (by simp)]
        refine wpAny_bind (m := callSpecialIfBound? (.ref a) (Str.ofString "__repr__") _) (PySem.W.ifBound_K I.kIn J M.at_ M.fn (wpAny_mono (run_gA (A := X.A.in1) (Q := fun v H' => ∃ r : Str, v = .str r ∧ Q v H') (o.fn f fn hf) (o.room.mono (show 4 * n + 1 ≤ 4 * n + 3 by omega)).in1 o.gd rfl o.tk I (vs := [.ref a]) (us := [.ref a]) (.cons rfl .nil) ⟨U.F, U.mu, [d], fs.st, h.enter, .cons bx .nil, ocp_of h (q.bnd.imp fun r s1 y v U1 H1 g1 => ?_)⟩ |> wpAny_call) (fun u s' hr => ?_) fun _ _ y => y))
        · cases r with
          | own k => exact y.elim
          | fz d' =>
            cases d' with
            | str i =>
              have t : Rep G U1.F U1.mu H1 v (.str i) := g1.top
              cases t
              exact ⟨i, rfl, y _ _ _ g1⟩
            | _ => exact y.elim
        · obtain ⟨v, H1, I1, rv, i, e, qv⟩ := hr
          subst e
          obtain ⟨t, e⟩ := rv
          subst e
          refine wpAny_bind (wpAny_isInstance (typeIs_str _ _ _) isSubtype_str_str ?_)
          first
            | exact wpAny_pure ⟨_, rfl, .str i, H1, I1, ⟨_, rfl⟩, qv⟩
            | (rw [if_pos rfl]; exact wpAny_pure ⟨_, rfl, .str i, H1, I1, ⟨_, rfl⟩, qv⟩)
            | (simp only [if_true]; exact wpAny_pure ⟨_, rfl, .str i, H1, I1, ⟨_, rfl⟩, qv⟩)
      · have e : (prm p g n).call f (d :: []) fs.st = .bad := by
          cases n with
          | zero => rfl
          | succ n =>
            show (match p.fns[f]? with
              | some f => runF (prm p g n) f (d :: []) fs.st
              | none => .bad) = _
            rw [hf]
        have q : Post G W B env hs σ (KQ G B env hs σ Q) ((((prm p g n).call f (d :: []) fs.st).out fs.ol).bnd strO) := q
        rw [e] at q
        exact q.elim
theorem b_repr' : bootBuiltins "repr" = some (.builtin "repr") := by decide +kernel
theorem sd_rpo (o : XOk G p n g X W) {a : Expr} {ea : E} {q1 : Pos} (hg : Gl X "repr") (ha : PE X a (tE G W (ev (prm p g n) ea))) (hs : noStar a = true) :
    PE X (.Call (.Name "repr" q1) [a] [] pos) (tE G W (ev (prm p g n) (.rpo ea))) := by
  refine ⟨fun pins s σ H Q I h => ?_⟩
  have hq : tCons (tE G W (ev (prm p g n) ea)) tNil σ H (fun vs H1 => ∃ v B U env fs hs d, vs = [v] ∧ Rel G B U env fs hs σ H1 ∧ Rep G U.F U.mu H1 v d ∧ Post G W B env hs σ (KQ G B env hs σ Q) (((prm p g n).meth d mRepr [] fs).bnd strO)) := by
    obtain ⟨B, U, env, fs, hs, r, y⟩ := h
    refine ⟨B, U, env, fs, hs, r, y.bnd.imp fun t s1 y v U1 H1 g1 => ?_⟩
    obtain ⟨⟨d, s2⟩, ez, y1⟩ := y.need
    obtain ⟨U2, g2, r2, _⟩ := g1.fz g1.top ez
    exact ⟨v, B, U2, env, s2, hs, d, rfl, g2.drop, r2, y1⟩
  refine wpAny_Call_Name_kw (ld_blt I hg (by rw [o.mg]; exact o.pg.free _ (by decide)) b_repr' (PyProof.Rows.callWith_builtin1 (thn ((pa_cons ha pa_nil (star_no hs)).run pos pins s σ H _ I hq) fun us s1 ⟨vs, H1, I1, rv, v, B, U, env, fs, hs', d, e1, g1, r1, q1⟩ => ?_) (star_no hs) rfl) (by decide) (by decide))
  subst e1
  obtain ⟨u, e2, ru⟩ := vals1 rv
  subst e2
  exact obj_repr o I1 ru g1 r1 q1
/-- a field of an f-string -/
theorem sd_fmt (o : XOk G p n g X W) {a : Expr} {ea : E} (ha : PE X a (tE G W (ev (prm p g n) ea))) : PE X (.FormattedValue a (-1) none pos) (tE G W (ev (prm p g n) (.fmt ea))) :=
  (pe_fmt ha).imp fun σ H Q h => by
    obtain ⟨B, U, env, fs, hs, r, y⟩ := h
    refine ⟨B, U, env, fs, hs, r, y.bnd.imp fun t s1 y v U1 H1 g1 => ?_⟩
    cases t with
    | own k => exact y.elim
    | fz d =>
      cases d with
      | str z =>
        obtain ⟨hc, y⟩ := ite_post y
        have t : Rep G U1.F U1.mu H1 v (.str z) := g1.top
        cases t
        exact .inl ⟨z, rfl, hc, post_val y g1.drop (.str _)⟩
      | int z =>
        obtain ⟨hc, y⟩ := ite_post y
        have t : Rep G U1.F U1.mu H1 v (.int z) := g1.top
        cases t
        exact .inr ⟨z, rfl, hc, post_val y g1.drop (.str _)⟩
      | _ => exact y.elim
/-- the parts of an f-string, each kept -/
inductive PJs (G : Cfg) (W : WX) (P : Prm) (X : Cx) : E → List Expr → Prop
  | nil : PJs G W P X .nil []
  | cons {a r : E} {x : Expr} {xs : List Expr} (h : PE X x (tE G W (ev P a))) (t : PJs G W P X r xs) : PJs G W P X (.cons a r) (x :: xs)
theorem PJs.go {P : Prm} {es : E} {xs : List Expr} (h : PJs G W P X es xs) : ∃ ts, PJ X xs ts ∧ ∀ (acc : Str) (B : Bs) (U : Wd) (env : Ev) (fs : FS) (hs : List (V × R)) (σ : St) (H : Hp) (Q : VK), Rel G B U env fs hs σ H → Post G W B env hs σ (KQ G B env hs σ Q) (evJ P es acc env fs) → tJs ts acc σ H fun out H1 => Q (.str out) H1 := by
  induction h with
  | nil => exact ⟨[], .nil, fun acc B U env fs hs σ H Q r y => post_val y r (.str _)⟩
  | @cons a r x xs h t ih =>
    obtain ⟨ts, j, k⟩ := ih
    refine ⟨_ :: ts, .cons h j, fun acc B U env fs hs σ H Q r y => ?_⟩
    refine ⟨B, U, env, fs, hs, r, y.bnd.imp fun t s1 y v U1 H1 g1 => ?_⟩
    obtain ⟨z, ez, y1⟩ := y.need
    cases t with
    | own k => cases ez
    | fz d =>
      cases d with
      | str w =>
        have t : Rep G U1.F U1.mu H1 v (.str w) := g1.top
        cases t
        have ez : (if (acc ++ w).length ≤ sizeLine then some (acc ++ w) else none) = some z := ez
        split at ez
        · rename_i hc
          cases ez
          exact ⟨w, rfl, hc, k _ _ _ _ _ _ _ _ _ g1.drop y1⟩
        · cases ez
      | _ => cases ez
theorem sd_fst {es : E} {x1 x2 : Expr} {xs : List Expr} (h : PJs G W (prm p g n) X es (x1 :: x2 :: xs)) : PE X (.JoinedStr (x1 :: x2 :: xs) pos) (tE G W (ev (prm p g n) (.fst es))) := by
  obtain ⟨ts, j, k⟩ := h.go
  exact (pe_joined j).imp fun σ H Q h => by
    obtain ⟨B, U, env, fs, hs, r, y⟩ := h
    exact k _ _ _ _ _ _ _ _ _ r y
end
end Wv
namespace Wv
open PySem L2
theorem sub_py {slice : Expr} (h : noSlice slice = true) (x i : Value) : subscripted slice true x i = runValue (.builtin "lifetime.subscript" ⟨[x, i], []⟩) := by
  cases slice <;> first | (cases h; done) | rfl
section
variable {G : Cfg} {p : Pg} {n : Nat} {g : Bool} {X : Cx} {W : WX} {B : Bs} {U : Wd} {env : Ev} {fs : FS} {hs : List (V × R)} {σ : St} {H : Hp} {pos : Pos} {pins : List (Addr × Obj)} {s : Shared}
theorem obj_gix (o : XOk G p n g X W) (I : Inv X pins σ H s) {x y : V} {v u : Value} {d e : D} {Q : VK} (rx : RelV x v) (ry : RelV y u) (h : Rel G B U env fs hs σ H) (bx : Rep G U.F U.mu H x d) (bY : Rep G U.F U.mu H y e) {value slice : Expr} (hsl : noSlice slice = true)
    (q : Post G W B env hs σ (KQ G B env hs σ Q) ((prm p g n).meth d mIx [e] fs)) : wpAny (model X.prog X.w) X.A (PyProof.Rows.subscriptTail value slice v u) (EP X pins σ Q) X.xe s := by
  unfold Prm.meth at q
  cases ec : clsOf d fs.st with
  | none =>
    rw [ec] at q
    exact q.elim
  | some w =>
    obtain ⟨c, ks, vs⟩ := w
    rw [ec] at q
    dsimp only at q
    cases ef : (prm p g n).methOf c mIx with
    | none =>
      rw [ef] at q
      exact q.elim
    | some f =>
      rw [ef] at q
      dsimp only at q
      obtain ⟨fn, hf⟩ := call_has q
      obtain ⟨k, fn', hk, hl, M, _⟩ := meth_at o ef
      obtain ⟨a, dx, ws, e1, e2, k3, r3⟩ := cls_at h (RepB.of bx) ec
      subst e1
      obtain rfl : v = Value.ref a := rx
      obtain ⟨od, J⟩ := inst_of I e2
      rw [nm_sp o.pg (by decide), ← o.K] at M
      obtain ⟨m, hF⟩ := I.fr
      refine PySem.W.sub_K hF I.ok.mod.kin J M.at_ (by rw [o.K]; exact o.pg.fin f fn hf) M.fn ?_ (sub_py hsl _ _)
      exact (run_gA (A := X.A.in1) (Q := Q) (o.fn f fn hf) (o.room.mono (show 4 * n + 1 ≤ 4 * n + 3 by omega)).in1 o.gd rfl o.tk I (vs := [.ref a, y]) (us := [.ref a, u]) (.cons rfl (.cons ry .nil)) ⟨U.F, U.mu, [d, e], fs.st, h.enter, .cons bx (.cons bY .nil), ocp_of h q⟩) |> wpAny_call
variable {a b : Expr} {ea eb : E}
theorem sd_gix (o : XOk G p n g X W) (ha : PE X a (tE G W (ev (prm p g n) ea))) (hb : PE X b (tE G W (ev (prm p g n) eb))) (hm : noSlice b = true) : PE X (.Subscript a b pos) (tE G W (ev (prm p g n) (.gix ea eb))) := by
  refine ⟨fun pins s σ H Q I h => ?_⟩
  refine PyProof.Rows.Subscript_ (binT ha hb I (tE_two h) fun v u s2 x y H2 I2 rx ry q => ?_)
  obtain ⟨B, U, env, fs, hs, r, t, g2, q⟩ := q
  obtain ⟨z0, ez0, q⟩ := q.need
  obtain ⟨z, ez, q⟩ := q.need
  obtain ⟨U2, g4, r4, m4⟩ := g2.fz g2.drop.top ez0
  obtain ⟨U3, g5, r5, m5⟩ := g4.fz (m4 y t g2.top) ez
  exact obj_gix o I2 rx ry g5.drop.drop (m5 x (.fz _) r4) r5 hm q
theorem sd_orl (o : XOk G p n g X W) (ha : PE X a (tE G W (ev (prm p g n) ea))) (hb : PE X (.BoolOp .Or [b] pos) (tE G W (ev (prm p g n) eb))) : PE X (.BoolOp .Or [a, b] pos) (tE G W (ev (prm p g n) (.orl ea eb))) :=
  (pe_orT ha hb).imp fun σ H Q h => by
    obtain ⟨B, U, env, fs, hs, r, y⟩ := h
    refine ⟨B, U, env, fs, hs, r, y.bnd.imp fun t s1 y v U1 H1 g1 => ?_⟩
    obtain ⟨d, ed, y1⟩ := y.need
    obtain ⟨xs, ex, y2⟩ := y1.need
    have bl := g1.look g1.top ed
    cases d with
    | lst ys =>
      cases ex
      obtain ⟨l, vs, e1, h1, r1⟩ := bl.lst
      subst e1
      refine ⟨!vs.isEmpty, .inl ⟨vs, .of h1, rfl⟩, ?_⟩
      have el : vs.isEmpty = xs.isEmpty := by cases r1 <;> rfl
      rw [el]
      cases hx : xs.isEmpty with
      | true =>
        rw [hx] at y2
        exact ⟨B, U1, env, s1, hs, g1.drop, y2⟩
      | false =>
        rw [hx] at y2
        exact y2 (.ref l) U1 H1 g1
    | _ => cases ex
end
end Wv
namespace Wv
open PySem L2
section
variable {G : Cfg} {p : Pg} {n : Nat} {g : Bool} {X : Cx} {W : WX} {B : Bs} {U : Wd} {env : Ev} {fs : FS} {hs : List (V × R)} {σ : St} {H H' : Hp} {pos : Pos} {pins : List (Addr × Obj)} {s : Shared}
/-- an object that nobody tells of may change -/
theorem Rel.upd1 {q : Addr} (h : Rel G B U env fs hs σ H) (n0 : B.H q = none) (n1 : q ∉ U.mu) (n2 : q ∉ U.ml) (n3 : ¬ U.F q) (e : ∀ a, a ≠ q → H' a = H a) : Rel G B U env fs hs σ H' := by
  have f : ∀ a, U.F a → U.F a ∧ H' a = H a := fun a z => ⟨z, e a fun y => n3 (y ▸ z)⟩
  refine ⟨fun a o z hq => ?_, h.fsub, h.fnew, h.mpre, h.mnew, h.lnew, h.nd, h.muF, fun a z => ?_, h.stl, fun n a c e1 e2 => ?_, h.oll, fun k a b c e1 e2 => ?_, h.elen, fun i r z => ?_, fun z hz => ?_⟩
  · rw [e a fun y => by rw [y, n0] at z; cases z]
    exact h.keep a o z hq
  · rw [(f a z).2]
    exact h.fdom a z
  · exact (h.cell n a c e1 e2).mono f (fun _ _ q => q) (e a fun z => n1 (z ▸ get_mem e1))
  · obtain ⟨z, m⟩ := h.own k a b c e1 e2
    exact ⟨z.mono f (fun _ _ q => q) (e a fun z => n2 (z ▸ get_mem e1)), m⟩
  · obtain ⟨v, e1, e2⟩ := h.env i r z
    exact ⟨v, e1, e2.mono f (fun _ _ q => q) fun _ _ q => q⟩
  · exact (h.held z hz).mono f (fun _ _ q => q) fun _ _ q => q
theorem sd_dic0 {P : Prm} : PE X (.Dict [] [] pos) (tE G W (ev P (.dic [] .nil))) :=
  (pe_dnewK).imp fun σ H Q h => by
    obtain ⟨B, U, env, fs, hs, r, y⟩ := h
    have y : Post G W B env hs σ (KQ G B env hs σ Q) (.ok (.fz (.dic [] [])) fs) := y
    intro q hq
    obtain ⟨W', g1⟩ := r.made (o := .dK []) (d := .dic [] []) hq fun F' f fp m => .dic fp upd_same rfl rfl .nil
    exact y _ _ _ g1
theorem keyK_V {k : Key} {F : Addr → Prop} {mu : List Addr} {v : V} (h : Rep G F mu H v (keyK k).d) : v = kV k := by
  cases k with
  | inl i => cases h; rfl
  | inr x => cases h; rfl
theorem sd_dic1 {P : Prm} {k : Key} {e : E} {ke ve : Expr} (hk : PE X ke (tE G W (ev P (.con (keyK k))))) (hv : PE X ve (tE G W (ev P e))) : PE X (.Dict [some ke] [ve] pos) (tE G W (ev P (.dic [k] (.cons e .nil)))) :=
  (pe_disp (pps_cons hk hv pps_nil) rfl rfl (by simp) (by simp)).imp fun σ H Q h => by
    obtain ⟨B, U, env, fs, hs, r, y⟩ := h
    have y : Post G W B env hs σ (KQ G B env hs σ Q) (match ev P e (hideE env) ⟨[], fs.st⟩ with
      | .ok r s1 => need (Wv.fz s1 r) fun q => .ok (.fz (.dic [k] [q.1])) ⟨fs.ol, q.2.st⟩
      | _ => .bad) := y
    intro q hq
    obtain ⟨n0, n1, n2, n3, n4⟩ := r.new hq
    have g1 : Rel G B U env fs hs σ (upd H q (.dK [])) := r.grow hq fun a e => upd_ne e
    have b1 := g1.block (hs' := []) [] (fun z hz => by cases hz)
    refine ⟨_, _, _, _, [], b1, ?_⟩
    show ∀ v W' H', _ → _
    intro kv W1 H1 g2
    refine ⟨_, W1, _, _, _, g2, ?_⟩
    cases ee : ev P e (hideE env) ⟨[], fs.st⟩ with
    | bad =>
      rw [ee] at y
      exact y.elim
    | exc x s1 =>
      rw [ee] at y
      exact y.elim
    | ok rr s1 =>
      rw [ee] at y
      have ee' : ev P e (wipeE (hideE env) []) ⟨[], fs.st⟩ = .ok rr s1 := ee
      rw [ee']
      intro yv W2 H2 g3
      obtain ⟨⟨d, s2⟩, ef, y⟩ := y.need
      obtain ⟨W3, g4, r4, _⟩ := g3.fz g3.top ef
      have kr : Rep G W3.F W3.mu H2 kv (keyK k).d := (g4.held (kv, .fz (keyK k).d) (by simp))
      have ek := keyK_V kr
      have b0 : (upd H q (.dK [])) q = some (.dK []) := upd_same
      have hq2 : H2 q = some (.dK []) := g4.keep q _ b0 n1
      refine ⟨hq2, [(k, yv)], by rw [ek]; rfl, by simp, ?_⟩
      have gb := g1.back g4.drop.drop
      have m3 : q ∉ W3.mu := fun z => by
        rcases g4.mnew q z with z | z
        · exact n1 z
        · exact absurd (b0.symm.trans z) (by simp)
      have f3 : ¬ W3.F q := fun z => by
        rcases g4.fnew q z with z | z
        · exact n3 z
        · exact absurd (b0.symm.trans z) (by simp)
      have em : mergeK [] [(k, yv)] = [(k, yv)] := rfl
      rw [em]
      have gu : Rel G B ⟨W3.F, W3.mu, U.ml⟩ env ⟨fs.ol, s2.st⟩ hs σ (upd H2 q (.dK [(k, yv)])) := gb.upd1 n0 m3 n2 f3 fun a z => upd_ne z
      have gs := gu.still (a := q) (by rw [upd_same]; exact Option.some_ne_none _) n0 m3 n2
      refine y _ _ _ (gs.push (r := .fz (.dic [k] [d])) (.dic (vs := [yv]) (.inr rfl) upd_same rfl rfl (.cons ?_ .nil)))
      exact Rep.mono (fun a z => ⟨.inl z, show (upd H2 q (.dK [(k, yv)])) a = H2 a from upd_ne fun e => f3 (e ▸ z)⟩) (fun _ _ z => z) r4
theorem atomS_rep {d : D} {r : Str} {F : Addr → Prop} {mu : List Addr} {x : V} {v : Value} (h : atomS d = some r) (bx : Rep G F mu H x d) (rx : RelV x v) : ReprIs X.prog X.w v r ∧ r.length ≤ 1000000 := by
  have go : ∀ q : PyData, shP q = some r → q.showable = true ∧ r = q.shown ∧ q.shown.length ≤ 1000000 := fun q e => by
    unfold shP at e
    split at e
    · rename_i z
      cases e
      exact ⟨z.1, rfl, z.2.2⟩
    · cases e
  cases d with
  | non =>
    obtain ⟨h1, h2, h3⟩ := go .none h
    cases bx
    cases rx
    subst h2
    refine ⟨?_, h3⟩
    simpa [PyData.shown] using (ReprIs.none (prog := X.prog) (w := X.w))
  | bl b =>
    obtain ⟨h1, h2, h3⟩ := go (.bool b) h
    cases bx
    cases rx
    subst h2
    refine ⟨?_, h3⟩
    simpa [PyData.shown] using (ReprIs.bool (prog := X.prog) (w := X.w) b)
  | int i =>
    obtain ⟨h1, h2, h3⟩ := go (.int i) h
    cases bx
    obtain ⟨t, rfl⟩ := rx
    subst h2
    refine ⟨?_, h3⟩
    simpa [PyData.shown] using (ReprIs.int (prog := X.prog) (w := X.w) (a := i) t (by simpa [PyData.showable] using h1))
  | str y =>
    obtain ⟨h1, h2, h3⟩ := go (.str y) h
    cases bx
    obtain ⟨t, rfl⟩ := rx
    subst h2
    refine ⟨?_, h3⟩
    have z : (reprText y).length ≤ sizeLine := by
      have := h3
      simp [PyData.shown] at this
      exact Nat.le_trans this (by decide)
    simpa [PyData.shown] using (ReprIs.str (prog := X.prog) (w := X.w) y t z)
  | _ => cases h
theorem ifBoundBy_K {K : PySem.W.Frag} {M : Model} {A : Around} {E : Value → Shared → Prop} {x C f : Addr} {ox : Obj} {od : Option Obj} {name : Str} {last : Value → List Value → Sem Value} {Q : Option Value → Shared → Prop} (X : K.In s.heap) (I : PySem.W.InstAt s.heap x ox C od)
    (hs : PySem.W.findIn K (.ref C) name = some (some (.ref f))) (hf : PySem.W.isFn K (.ref f) = true) (h : wpAny M A (last (.ref f) [.ref x]) (fun v => Q (some v)) E s) : wpAny M A (callSpecialIfBoundBy? last (.ref x) name) Q E s := by
  simp only [callSpecialIfBoundBy?, bindSpecialIfBound?]
  refine wpAny_holding (wpAny_bind (wpAny_bind (wpAny_bind (I.type.here ((PySem.W.looks_findIn X hs).here ?_)))))
  refine wpAny_bind (wpAny_askSetting (wpAny_ite ?_))
  have fin : wpAny M A (last (.ref f) [.ref x] >>= fun v => pure (some v)) Q E s := wpAny_bind (wpAny_mono h (fun v s' h' => wpAny_pure h') fun _ _ h' => h')
  split
  · exact wpAny_bind ((PySem.W.bind_fn X _ (beq_iff_eq.mp hf)).here (wpAny_pure (by exact fin)))
  · exact wpAny_tryCatch (wpAny_bind ((PySem.W.bind_fn X _ (beq_iff_eq.mp hf)).here (wpAny_pure (by exact fin))))
/-- around parts that are shown -/
structure Ard (X : Cx) (n : Nat) (A : Around) : Prop where
  rm : Room (4 * n + 1) A
  fr : A.frames = X.A.frames
theorem callF_has {i : Nat} {ds : List D} {st : List Cl} {ol : List (Bool × Cl)} {K : R → FS → Prop} (h : Post G W B env hs σ K (((prm p g n).callF i ds st).out ol)) : ∃ f, p.fns[i]? = some f := by
  cases z : p.fns[i]? with
  | some f => exact ⟨f, rfl⟩
  | none =>
    have e : (prm p g n).callF i ds st = .bad := by
      cases n with
      | zero => rfl
      | succ n =>
        show (match p.fns[i]? with
          | some f => runF (prm p false n) f ds st
          | none => .bad) = _
        rw [z]
    rw [e] at h
    exact h.elim
/-- behind a call: the frame goes on -/
theorem ocp_ofN {Q : VK} {oc : Oc} (h : Rel G B U env fs hs σ H) (q : Post G W B env hs σ (fun r fs' => ∀ v W' H', Rel G B W' env fs' ((v, r) :: hs) σ H' → Q v H') (oc.out fs.ol)) :
    OcP G ⟨H, U.F, U.mu⟩ Q (fun cls d H' => W cls d σ H') oc := ocp_of h q
/-- a part is shown -/
theorem shwI_ok (o : XOk G p n g X W) {A : Around} (ha : Ard X n A) (I : Inv X pins σ H s) {x : V} {v : Value} {d : D} {base : Nat} {K : Str → Hp → Prop} (hb : base ≤ 2000000) (rx : RelV x v) (h : Rel G B U env fs hs σ H) (bx : Rep G U.F U.mu H x d)
    (q : Post G W B env hs σ (fun r s1 => ∃ t, r = .fz (.str t) ∧ ∀ U' H', Rel G B U' env s1 hs σ H' → K t H') ((prm p g n).shwI d fs)) :
    wpAny (model X.prog X.w) A (pyReprUnder base v) (fun t s' => ∃ H1, Inv X pins σ H1 s' ∧ K t H1) X.xe s := by
  unfold Prm.shwI at q
  cases ea : atomS d with
  | some r =>
    rw [ea] at q
    obtain ⟨t, e1, q⟩ := q
    cases e1
    obtain ⟨ri, hl⟩ := atomS_rep (X := X) ea bx rx
    refine ri base ?_ A _ s _ fun tk => ⟨H, I.tok _, q U H h⟩
    have : sizeLine = 16777216 := by decide
    omega
  | none =>
    rw [ea] at q
    have q : Post G W B env hs σ (fun r s1 => ∃ t, r = .fz (.str t) ∧ ∀ U' H', Rel G B U' env s1 hs σ H' → K t H') (((prm p g n).methF d mRepr [] fs).bnd strO) := q
    unfold Prm.methF at q
    cases ec : clsOf d fs.st with
    | none =>
      rw [ec] at q
      exact q.elim
    | some w =>
      obtain ⟨c, ks, vs⟩ := w
      rw [ec] at q
      dsimp only at q
      cases ef : (prm p g n).methOf c mRepr with
      | none =>
        rw [ef] at q
        exact q.elim
      | some f =>
        rw [ef] at q
        dsimp only at q
        obtain ⟨fn, hf⟩ := callF_has q.bnd
        obtain ⟨k, fn', hk, hl, M, _⟩ := meth_at o ef
        obtain ⟨a, dx, ws, e1, e2, k3, r3⟩ := cls_at h (RepB.of bx) ec
        subst e1
        obtain rfl : v = Value.ref a := rx
        obtain ⟨od, J⟩ := inst_of I e2
        rw [nm_sp o.pg (by decide), ← o.K] at M
        have hs1 : base ≤ sizeLine := Nat.le_trans hb (by decide)
        refine wpAny_pyReprUnder_ref hs1 ?_
        unfold pyReprObjUnder pyReprObjBy
        have hu : A.units < cLine := by
          have := ha.rm.un
          omega
        refine wpAny_bind (wpAny_cRoomFor hu ?_)
        refine wpAny_bind (wpAny_bind (J.type.here ((PySem.W.looks_findIn I.kIn M.at_).here ?_)))
        show wpAny _ _ (if (some (Value.ref (G.fa f))).isNone = true then _ else _) _ _ _
        rw [if_neg (by simp)]
        refine wpAny_bind (ifBoundBy_K I.kIn J M.at_ M.fn ?_)
        show wpAny _ _ (call (.ref (G.fa f)) ([Value.ref a] ++ [])) _ _ _
        have q2 : Post G W B env hs σ (fun r fs' => ∀ v W' H', Rel G B W' env fs' ((v, r) :: hs) σ H' → ∃ t : Str, v = .str t ∧ K t H') (((prm p g n).callF f [d] fs.st).out fs.ol) := q.bnd.imp fun r s1 y v U1 H1 g1 => by
          cases r with
          | own k => exact y.elim
          | fz d' =>
            cases d' with
            | str i =>
              have t : Rep G U1.F U1.mu H1 v (.str i) := g1.top
              cases t
              obtain ⟨t, e1, y⟩ := y
              cases e1
              exact ⟨i, rfl, y _ _ g1.drop⟩
            | _ => exact y.elim
        refine wpAny_mono (wpAny_call (run_gA (A := A) (Q := fun v H' => ∃ t : Str, v = .str t ∧ K t H') (o.fnF f fn hf) (ha.rm.mono (Nat.le_succ _)) (fun e => nomatch e) ha.fr o.tk I (vs := [.ref a]) (us := [.ref a]) (.cons rfl .nil) ⟨U.F, U.mu, [d], fs.st, h.enter, .cons bx .nil, ocp_ofN h q2⟩)) (fun u s' hr => ?_) fun _ _ y => y
        obtain ⟨v, H1, I1, rv, i, e, qv⟩ := hr
        subst e
        obtain ⟨t, e⟩ := rv
        subst e
        refine wpAny_bind (wpAny_isInstance (typeIs_str _ _ _) isSubtype_str_str ?_)
        exact wpAny_pure ⟨_, _, rfl, H1, I1, qv⟩
theorem Reps.ofR' {W : Wd} {H : Hp} : ∀ {vs : List V} {ds : List D}, RepRs G W H vs (ds.map R.fz) → Reps G W.F W.mu H vs ds
  | _, [], .nil => .nil
  | _, _ :: _, .cons h t => .cons h (Reps.ofR' t)
theorem shwL_cons {P : Prm} {x : D} {xs : List D} {acc : List Str} {fs : FS} : P.shwL (x :: xs) acc fs = (P.shwI x fs).bnd (stepO acc fun acc s => P.shwL xs acc s) := rfl
/-- a tuple's parts -/
theorem tup_fold (o : XOk G p n g X W) {A : Around} (ha : Ard X n A) : ∀ (ds : List D) (vs : List V) (us : List Value) (ts : List Str) (acc : Array Str) (m : Nat) (fs : FS) (U : Wd) (H : Hp) (s : Shared) (K : List Str → Hp → Prop), Inv X pins σ H s → Rel G B U env fs hs σ H → Reps G U.F U.mu H vs ds → Vals vs us →
    acc.toList = ts → m = piled ts → m + ds.length * 10002 ≤ 1000000 → Post G W B env hs σ (fun ts s1 => ∀ U' H', Rel G B U' env s1 hs σ H' → K ts H') ((prm p g n).shwL ds ts fs) →
    wpAny (model X.prog X.w) A (forIn us (⟨acc, m⟩ : Array Str × Nat) tupBody) (fun r s' => ∃ H1, Inv X pins σ H1 s' ∧ K r.1.toList H1) X.xe s
  | [], vs, us, ts, acc, m, fs, U, H, s, K, I, r, rd, rv, e1, e2, hl, q => by
    cases rd
    cases rv
    simp only [List.forIn_nil]
    subst e1
    exact wpAny_pure ⟨H, I, q U H r⟩
  | d :: ds, vs, us, ts, acc, m, fs, U, H, s, K, I, r, rd, rv, e1, e2, hl, q => by
    cases rd with
    | @cons x _ rest _ r1 r2 =>
      cases rv with
      | @cons _ u _ us' v1 v2 =>
        rw [List.forIn_cons]
        rw [List.length_cons] at hl
        rw [shwL_cons] at q
        have q := (q.bnd.less (hs' := rest.zip (ds.map R.fz) ++ hs) fun z hz => List.mem_append_right _ hz)
        refine wpAny_bind (wpAny_bind (wpAny_mono (shwI_ok (K := fun t H1 => ∃ fs1 U1, t.length ≤ 10000 ∧ Rel G B U1 env fs1 hs σ H1 ∧ Reps G U1.F U1.mu H1 rest ds ∧ Post G W B env hs σ (fun ts s1 => ∀ U' H', Rel G B U' env s1 hs σ H' → K ts H') ((prm p g n).shwL ds (ts ++ [t]) fs1)) o ha I (base := m + 1) (by omega) v1 (r.holdAll (.of r2)) r1 ?_) ?_ fun _ _ y => y))
        · refine q.imp fun rr s1 y => ?_
          cases rr with
          | own k => exact y.elim
          | fz d' =>
            cases d' with
            | str t =>
              have y : Post G W B env hs σ (fun ts s1 => ∀ U' H', Rel G B U' env s1 hs σ H' → K ts H') (if t.length ≤ 10000 then (prm p g n).shwL ds (ts ++ [t]) s1 else .bad) := y
              refine ⟨t, rfl, fun U1 H1 g1 => ?_⟩
              split at y
              · rename_i hz
                have hlen : rest.length = (ds.map R.fz).length := by rw [List.length_map, r2.length]
                exact ⟨s1, U1, hz, g1.dropN, Reps.ofR' (g1.heldAll hlen), y⟩
              · exact y.elim
            | _ => exact y.elim
        · rintro t s1 ⟨H1, I1, fs1, U1, hz, g1, r3, q1⟩
          refine wpAny_pure ?_
          refine tup_fold o ha ds rest us' (ts ++ [t]) (acc.push t) (m + (t.length + 2)) fs1 U1 H1 s1 K I1 g1 r3 v2 (by rw [Array.toList_push, e1]) (by rw [piled_append, e2]; simp [piled]) (by omega) q1
end
end Wv
namespace Wv
open PySem L2
section
variable {G : Cfg} {p : Pg} {n : Nat} {g : Bool} {X : Cx} {W : WX} {B : Bs} {U : Wd} {env : Ev} {fs : FS} {hs : List (V × R)} {σ : St} {H H' : Hp} {pos : Pos} {pins : List (Addr × Obj)} {s : Shared}
theorem ard_tup (o : XOk G p n g X W) (args : Args) : Ard X n (X.A.in1.under (.builtin "tuple.__repr__" args)) := by
  have r := o.room
  have hw : (Code.builtin "tuple.__repr__" args).weight ≤ 1 := by
    have e1 : (Code.builtin "tuple.__repr__" args).frames = 0 := rfl
    have e2 : (Code.builtin "tuple.__repr__" args).isCreation = false := by
      cases args with
      | mk q k => cases q with
        | nil => rfl
        | cons v q => cases v <;> rfl
    have e3 : (Code.builtin "tuple.__repr__" args).isCaller = false := rfl
    unfold Code.weight
    rw [e1, e2, e3]
    cases (Code.builtin "tuple.__repr__" args).isGuard <;> decide
  refine ⟨⟨?_, ?_, ?_⟩, ?_⟩
  · have := r.hd
    first | exact this | simpa [Around.under, Around.in1] using this
  · have := r.dp
    have e : (X.A.in1.under (.builtin "tuple.__repr__" args)).depth = X.A.depth + (Code.builtin "tuple.__repr__" args).weight := by first | rfl | simp [Around.under, Around.in1]
    omega
  · have := r.un
    have e := units_under_tuple_repr X.A.in1 args
    have e2 := Around.in1_units X.A
    omega
  · first | rfl | simp [Around.under, Around.in1, Code.envs, Code.env?, pushEnvs]
theorem ard_lst (o : XOk G p n g X W) (args : Args) : Ard X n (X.A.in1.under (.builtin "list.__repr__.loop" args)) := by
  have r := o.room
  have hw : (Code.builtin "list.__repr__.loop" args).weight ≤ 1 := by
    have e1 : (Code.builtin "list.__repr__.loop" args).frames = 0 := rfl
    have e2 : (Code.builtin "list.__repr__.loop" args).isCreation = false := by
      cases args with
      | mk q k => cases q with
        | nil => rfl
        | cons v q => cases v <;> rfl
    have e3 : (Code.builtin "list.__repr__.loop" args).isCaller = false := rfl
    unfold Code.weight
    rw [e1, e2, e3]
    cases (Code.builtin "list.__repr__.loop" args).isGuard <;> decide
  refine ⟨⟨?_, ?_, ?_⟩, ?_⟩
  · have := r.hd
    first | exact this | simpa [Around.under, Around.in1] using this
  · have := r.dp
    have e : (X.A.in1.under (.builtin "list.__repr__.loop" args)).depth = X.A.depth + (Code.builtin "list.__repr__.loop" args).weight := by first | rfl | simp [Around.under, Around.in1]
    omega
  · have := r.un
    have e := units_under_list_loop X.A.in1 args
    have e2 := Around.in1_units X.A
    omega
  · first | rfl | simp [Around.under, Around.in1, Code.envs, Code.env?, pushEnvs]
theorem bnd_okE {α β : Type} {m : Out α} {k : α → FS → Out β} {b : β} {s2 : FS} (h : m.bnd k = .ok b s2) : ∃ a s1, m = .ok a s1 ∧ k a s1 = .ok b s2 := by
  cases m with
  | ok a s1 => exact ⟨a, s1, rfl, h⟩
  | exc x s1 => cases h
  | bad => cases h
theorem shwL_len {P : Prm} : ∀ (xs : List D) (acc : List Str) (s : FS) (ts : List Str) (s1 : FS), P.shwL xs acc s = .ok ts s1 → ts.length = acc.length + xs.length
  | [], acc, s, ts, s1, h => by
    cases h
    rfl
  | x :: xs, acc, s, ts, s1, h => by
    rw [shwL_cons] at h
    obtain ⟨r, s2, _, h⟩ := bnd_okE h
    cases r with
    | own k => cases h
    | fz d =>
      cases d with
      | str t =>
        have h : (if t.length ≤ 10000 then P.shwL xs (acc ++ [t]) s2 else .bad) = .ok ts s1 := h
        split at h
        · have z := shwL_len xs _ _ _ _ h
          rw [List.length_append, List.length_singleton] at z
          rw [List.length_cons]
          omega
        · cases h
      | _ => cases h
theorem Post.eq {α : Type} {K : α → FS → Prop} {oc : Out α} (h : Post G W B env hs σ K oc) : Post G W B env hs σ (fun a s => oc = .ok a s ∧ K a s) oc := by
  cases oc with
  | ok a s => exact ⟨rfl, h⟩
  | exc x s => exact h
  | bad => exact h
theorem shw_tup (o : XOk G p n g X W) (hg : X.A.guards = some []) (I : Inv X pins σ H s) {x : V} {v : Value} {ds : List D} {Q : VK} (rx : RelV x v) (h : Rel G B U env fs hs σ H) (bx : Rep G U.F U.mu H x (.tup ds)) (hl : ds.length ≤ 50)
    (q : Post G W B env hs σ (KQ G B env hs σ Q) (((prm p g n).shwL ds [] fs).bnd (shwT tupleText))) : wpAny (model X.prog X.w) X.A (call (.builtin "repr") [v]) (EP X pins σ Q) X.xe s := by
  obtain ⟨a, vs, e1, _, e2, r1⟩ := (RepB.of bx).tup
  subst e1
  obtain rfl : v = Value.ref a := rx
  obtain ⟨its, rv, ⟨ot, hot, hoc, nt, hod⟩, _⟩ := I.tuple (.of e2)
  have hu : X.A.units + 1 < cLine := by
    have := o.room.un
    omega
  refine call_repr_slot hu ⟨ot, hot, hoc⟩ PySem.F.slot_tuple_repr ?_
  refine wpAny_call (codeAny_call_builtin_own (Code.quiet_builtin _ (by decide +kernel)) PySem.F.entry_tuple_repr (PySem.F.slot_tuple_repr.check _ _ _ _ _ _ _ _ ⟨ot, hot, hoc⟩ (PySem.F.args_tuple_repr_1 _) ?_))
  show wpOwn _ _ _ (Builtin.tupleReprAt 0 ⟨[.ref a], []⟩) _ _ _
  rw [tuple_repr_tree, tupleReprUnderWay_eq]
  have hg1 : X.A.in1.guards = some [] := hg
  refine wpOwn_bind (wpOwn_stackTailAny hg1 (tupGuardF_off _) (tupGuardF_pos _) ?_)
  refine wpOwn_of_wpAny ?_
  show wpAny _ _ (tupleReprRest 0 (.ref a)) _ _ s
  unfold tupleReprRest Builtin.Tuple.tupleItemsOf
  refine wpAny_bind (wpAny_bind (wpAny_seqItems hot hod (wpAny_pure ?_)))
  rw [← Array.forIn_toList]
  have hlen : its.length = ds.length := by rw [← rv.length, r1.length]
  refine wpAny_bind (wpAny_mono (tup_fold (K := fun ts H1 => (tupleText ts).length ≤ 1000000 ∧ ts.length = ds.length ∧ Q (.str (tupleText ts)) H1) (pins := pins) (B := B) (env := env) (hs := hs) (σ := σ) o (ard_tup o _) ds vs its.toArray.toList [] #[] 0 fs U H s I h r1 (by simpa using rv) rfl rfl (by omega) ?_) ?_ fun _ _ y => ?_)
  · refine q.bnd.eq.imp fun ts s1 y U' H' g' => ?_
    obtain ⟨el, y⟩ := y
    have hn := shwL_len _ _ _ _ _ el
    rw [List.length_nil, Nat.zero_add] at hn
    have y : Post G W B env hs σ (KQ G B env hs σ Q) (if (tupleText ts).length ≤ 1000000 then .ok (.fz (.str (tupleText ts))) s1 else .bad) := y
    split at y
    · rename_i hz
      exact ⟨hz, hn, post_val y g' (.str _)⟩
    · exact y.elim
  · rintro r s1 ⟨H1, I1, hz, hn, hQ⟩
    have hz' : (tupleText r.1.toList).length ≤ sizeLine := Nat.le_trans hz (by decide)
    have hs : its.toArray.size = r.1.toList.length := by rw [hn]; simpa using hlen
    rw [hs]
    exact wpAny_bind (wpAny_mkStr (wpAny_pure ⟨_, _, rfl, .str _, H1, I1.tok _, ⟨_, rfl⟩, hQ⟩) hz')
  · exact y
/-- the list of parts -/
def pinL (acc : Array Value) (c : Nat) : Obj := { cls := .type "list", dict := none, data := .seq acc c, slots := #[] }
theorem pin_upd {P : Addr} {ob ob' : Obj} {h' : Heap} {t' : Nat} (I : Inv X ((P, ob) :: pins) σ H s) (k : ∀ b u, b ≠ P → s.heap.get? b = some u → h'.get? b = some u) (ho : h'.get? P = some ob') (hc : ∀ v, ob'.data ≠ .cell v)
    (hn : ∀ q ∈ X.pn ++ pins, q.1 ≠ P) (hex : P ∈ X.ex ∨ X.s_0.heap.objs.size ≤ P) (h2 : ∀ x c, X.env.cells.lookup x = some c → c ≠ P) : Inv X ((P, ob') :: pins) σ H { s with heap := h', toks := t' } := by
  have z := I.pin (P, ob) (List.mem_append_right _ List.mem_cons_self)
  have I1 := (ClX.unpin I).turned (t' := t') k z.2.1 z.2.2.1 hex h2 hn
  refine I1.pins_of fun q hq => ?_
  rcases List.mem_cons.mp hq with e | e
  · subst e
    exact ⟨ho, z.2.1, z.2.2.1, z.2.2.2.1, hc⟩
  · exact I1.pin q (List.mem_append_right _ e)
theorem lst_loop (o : XOk G p n g X W) {a P : Addr} {ds : List D} {K : Str → Hp → Prop} (hl : ds.length ≤ 50) (hn : ∀ q ∈ X.pn ++ pins, q.1 ≠ P) (hex : P ∈ X.ex ∨ X.s_0.heap.objs.size ≤ P) (h2 : ∀ x c, X.env.cells.lookup x = some c → c ≠ P) :
    ∀ (k i : Nat) (done : List (Str × Tok)) (acc : Array Value) (c : Nat) (fs : FS) (U : Wd) (H : Hp) (s : Shared), i + k = ds.length → Inv X ((P, pinL acc c) :: pins) σ H s → Rel G B U env fs ((.ref a, .fz (.lst ds)) :: hs) σ H → acc.toList = strValues done → done.length = i →
    piled (done.map (·.1)) + k * 10002 ≤ 1000000 → Post G W B env hs σ (fun ts s1 => ∀ U' H', Rel G B U' env s1 hs σ H' → (listText ts).length ≤ 1000000 ∧ K (listText ts) H') ((prm p g n).shwL (ds.drop i) (done.map (·.1)) fs) →
    codeAny (model X.prog X.w) X.A.in1 (.builtin "list.__repr__.loop" ⟨[.ref a, rawInt i, .ref P, rawInt ((piled (done.map (·.1)) : Nat) : Int)], []⟩) (fun r s' => match r with
      | .ok (.ret v) => ∃ t u H1, v = .str t u ∧ Inv X pins σ H1 s' ∧ K t H1
      | .ok _ => False
      | .error e => X.xe e s') s := by
  intro k
  induction k with
  | zero =>
    intro i done acc c fs U H s hi I r hacc hdn hp q
    obtain ⟨a', vs, e1, e2, r1⟩ := (RepB.of (show Rep G U.F U.mu H (.ref a) (.lst ds) from r.top)).lst
    cases e1
    obtain ⟨its, rv, ⟨ot, nt, hot, hoc, _, hod⟩, _⟩ := I.list (.of e2)
    have hP := ClX.pin_at I
    refine codeAny_builtin PySem.F.entry_list_repr_loop ?_
    show wpAny _ _ (Builtin.«list.__repr__.loop» ⟨[.ref a, .int i 0, .ref P, .int ((piled (done.map (·.1)) : Nat) : Int) 0], []⟩) _ _ s
    rw [repr_loop_tree]
    refine wpAny_bind (wpAny_listItems hot hod ?_)
    have hlen : its.length = ds.length := by rw [← rv.length, r1.length]
    have hnone : its.toArray[(i : Int).toNat]? = none := by
      simp
      omega
    simp only [hnone]
    unfold reprEnd
    refine wpAny_bind (wpAny_listItems hP rfl ?_)
    rw [hacc, repr_fold]
    refine wpAny_bind (wpAny_pure ?_)
    have ed : ds.drop i = [] := List.drop_of_length_le (by omega)
    rw [ed] at q
    have q := q U H r.drop
    obtain ⟨hz, hK⟩ := q
    refine wpAny_bind (wpAny_mkStr (wpAny_pure ?_) (Nat.le_trans hz (by decide)))
    exact ⟨_, _, H, rfl, (ClX.unpin I).tok _, hK⟩
  | succ k ih =>
    intro i done acc c fs U H s hi I r hacc hdn hp q
    have hid : i < ds.length := by omega
    obtain ⟨a', vs, e1, e2, r1⟩ := (RepB.of (show Rep G U.F U.mu H (.ref a) (.lst ds) from r.top)).lst
    cases e1
    obtain ⟨its, rv, ⟨ot, nt, hot, hoc, _, hod⟩, _⟩ := I.list (.of e2)
    obtain ⟨x, hx, rx⟩ := r1.get' (List.getElem?_eq_getElem hid)
    obtain ⟨u, hu, ru⟩ := rv.get hx
    refine codeAny_builtin PySem.F.entry_list_repr_loop ?_
    show wpAny _ _ (Builtin.«list.__repr__.loop» ⟨[.ref a, .int i 0, .ref P, .int ((piled (done.map (·.1)) : Nat) : Int) 0], []⟩) _ _ s
    rw [repr_loop_tree]
    refine wpAny_bind (wpAny_listItems hot hod ?_)
    have hsome : its.toArray[(i : Int).toNat]? = some u := by simpa using hu
    simp only [hsome]
    rw [Int.toNat_natCast]
    rw [List.drop_eq_getElem_cons hid, shwL_cons] at q
    have q := (q.bnd.less (hs' := (.ref a, .fz (.lst ds)) :: hs) fun z hz => List.mem_cons_of_mem _ hz)
    refine wpAny_bind (wpAny_holding (wpAny_mono (shwI_ok (K := fun t H1 => ∃ fs1 U1, t.length ≤ 10000 ∧ Rel G B U1 env fs1 ((.ref a, .fz (.lst ds)) :: hs) σ H1 ∧ Post G W B env hs σ (fun ts s1 => ∀ U' H', Rel G B U' env s1 hs σ H' → (listText ts).length ≤ 1000000 ∧ K (listText ts) H') ((prm p g n).shwL (ds.drop (i + 1)) (done.map (·.1) ++ [t]) fs1)) o (ard_lst o _) I (base := piled (done.map (·.1)) + 1) (by omega) ru r rx ?_) ?_ fun _ _ y => ?_))
    · refine q.imp fun rr s1 y => ?_
      cases rr with
      | own k => exact y.elim
      | fz d' =>
        cases d' with
        | str t =>
          have y : Post G W B env hs σ (fun ts s1 => ∀ U' H', Rel G B U' env s1 hs σ H' → (listText ts).length ≤ 1000000 ∧ K (listText ts) H') (if t.length ≤ 10000 then (prm p g n).shwL (ds.drop (i + 1)) (done.map (·.1) ++ [t]) s1 else .bad) := y
          refine ⟨t, rfl, fun U1 H1 g1 => ?_⟩
          split at y
          · rename_i hz
            exact ⟨s1, U1, hz, g1, y⟩
          · exact y.elim
        | _ => exact y.elim
    · rintro t s1 ⟨H1, I1, fs1, U1, hz, g1, q1⟩
      refine wpAny_bind (wpAny_mkStr ?_ (Nat.le_trans hz (by decide)))
      refine wpAny_bind ?_
      show wpAny _ _ (updateSeq P _) _ _ _
      have hP : s1.heap.get? P = some { cls := .type "list", dict := none, data := .seq acc c, slots := #[] } := ClX.pin_at I1
      have hasz : acc.size ≤ sizeLine := by
        have e1 : acc.toList.length = acc.size := by simp
        have e3 : (strValues done).length = done.length := by simp [strValues]
        rw [hacc] at e1
        have : sizeLine = 16777216 := by decide
        omega
      refine wpAny_updateSeq hP rfl ?_ hasz ?_
      · refine wpAny_pure ⟨PySem.F.quiet_list_repr_loop _, ?_⟩
        have em : (done ++ [(t, s1.toks)]).map (·.1) = done.map (·.1) ++ [t] := by simp
        have ep : piled ((done ++ [(t, s1.toks)]).map (·.1)) = piled (done.map (·.1)) + (t.length + 2) := by
          rw [em, piled_append]
          simp [piled]
        have z := ih (i + 1) (done ++ [(t, s1.toks)]) (acc.push (.str t s1.toks)) _ fs1 U1 H1 { s1 with heap := s1.heap.update P (Obj.mapSeq (·.push (.str t s1.toks))), toks := s1.toks + 1 } (by omega)
          (pin_upd I1 (fun b u hb e => (Heap.get?_update_other _ _ (fun h : P = b => hb h.symm)).trans e) (Heap.get?_update_self (Obj.mapSeq (·.push (.str t s1.toks))) hP rfl) (fun v z => nomatch z) hn hex h2) g1 (by simp [hacc, strValues]) (by simp [hdn]) (by rw [ep]; omega) (by rw [em]; exact q1)
        rw [ep] at z
        exact z
      · rw [Array.size_push]
        omega
    · exact y
theorem shw_lst (o : XOk G p n g X W) (hg : X.A.guards = some []) (I : Inv X pins σ H s) {x : V} {v : Value} {ds : List D} {Q : VK} (rx : RelV x v) (h : Rel G B U env fs hs σ H) (bx : Rep G U.F U.mu H x (.lst ds)) (hne : ds ≠ []) (hl : ds.length ≤ 50)
    (q : Post G W B env hs σ (KQ G B env hs σ Q) (((prm p g n).shwL ds [] fs).bnd (shwT listText))) : wpAny (model X.prog X.w) X.A (call (.builtin "repr") [v]) (EP X pins σ Q) X.xe s := by
  obtain ⟨a, vs, e1, e2, r1⟩ := (RepB.of bx).lst
  subst e1
  obtain rfl : v = Value.ref a := rx
  obtain ⟨its, rv, ⟨ot, nt, hot, hoc, _, hod⟩, _⟩ := I.list (.of e2)
  have hlen : its.length = ds.length := by rw [← rv.length, r1.length]
  obtain ⟨y, l, el⟩ : ∃ y l, its = y :: l := by
    cases its with
    | nil =>
      cases ds with
      | nil => exact absurd rfl hne
      | cons _ _ => cases hlen
    | cons y l => exact ⟨y, l, rfl⟩
  rw [el] at hod
  have hu : X.A.units + 1 < cLine := by
    have := o.room.un
    omega
  refine call_repr_slot hu ⟨ot, hot, hoc⟩ PySem.F.slot_list_repr.toG ?_
  refine wpAny_call (codeAny_call_builtin PySem.F.slot_list_repr.plain PySem.F.entry_list_repr (PySem.F.slot_list_repr.check _ _ _ _ _ _ _ _ ⟨ot, hot, hoc⟩ (PySem.F.args_list_repr_1 _) ?_))
  show wpAny _ _ (Builtin.listReprAt 0 ⟨[.ref a], []⟩) _ _ s
  have hg1 : X.A.in1.in1.guards = some [] := hg
  refine wpAny_list_repr_head (A := X.A.in1.in1) hg1 (fun v rest kw hm => by cases hm) hot hod ?_
  refine wpAny_bind (m := newList []) (wpAny_newObj_type ?_)
  refine wpAny_pure ⟨PySem.F.quiet_list_repr_loop _, ?_⟩
  have q2 : Post G W B env hs σ (fun ts s1 => ∀ U' H', Rel G B U' env s1 hs σ H' → (listText ts).length ≤ 1000000 ∧ Q (.str (listText ts)) H') ((prm p g n).shwL (ds.drop 0) (([] : List (Str × Tok)).map (·.1)) fs) := q.bnd.imp fun ts s1 y U' H' g' => by
    have y : Post G W B env hs σ (KQ G B env hs σ Q) (if (listText ts).length ≤ 1000000 then .ok (.fz (.str (listText ts))) s1 else .bad) := y
    split at y
    · rename_i hz
      exact ⟨hz, post_val y g' (.str _)⟩
    · exact y.elim
  have I1 : Inv X ((s.heap.objs.size, pinL #[] 0) :: pins) σ H { s with heap := s.heap.push (pinL #[] 0) } := ClX.pin_new (t' := s.toks) I (fun _ _ z => Heap.get?_push_of_some _ z) (Nat.le_refl _) (Heap.get?_push_size s.heap rfl) (fun v z => nomatch z)
  have z := lst_loop (a := a) (P := s.heap.objs.size) (K := fun t H1 => Q (.str t) H1) o hl (fun q hq => Nat.ne_of_lt (Heap.lt_size (I.pin q hq).1)) (.inr I.sz) (fun x c hy => by
    obtain ⟨v, ob, ho, _⟩ := I.cell x c hy
    exact Nat.ne_of_lt (Heap.lt_size ho)) ds.length 0 [] #[] 0 fs U H _ (Nat.zero_add _) I1 (h.push (r := .fz (.lst ds)) bx) rfl rfl (by
    show piled [] + _ ≤ _
    rw [piled_nil]
    omega) q2
  refine codeAny_mono z fun r s' hq => ?_
  cases r with
  | error e => exact hq
  | ok fl =>
    cases fl with
    | ret v =>
      obtain ⟨t, u, H1, e1, I2, hQ⟩ := hq
      subst e1
      exact ⟨_, _, rfl, .str t, H1, I2, ⟨_, rfl⟩, hQ⟩
    | next => exact hq.elim
    | brk => exact hq.elim
    | cont => exact hq.elim
theorem keys_reads {P : Program} {w : World} {h : Heap} : ∀ {es : List DictEntry} {vs : List (Key × Value)}, Pairs (mixKind P w) es vs → ReadsAll h (es.map (·.key)) (vs.map fun kv => keyP kv.1) []
  | _, _, .nil => .nil
  | _, _, .cons (e := e) (kv := kv) hk hv t => by
    have ih := keys_reads (h := h) t
    rcases keyIs_shape hk with ⟨i, u, e1, e2⟩ | ⟨x, u, e1, e2⟩
    · rw [List.map_cons, List.map_cons, e2, e1]
      exact ReadsAll.cons (as := []) (.int i u) ih
    · rw [List.map_cons, List.map_cons, e2, e1]
      exact ReadsAll.cons (as := []) (.str x u) ih
theorem pairs_vals {P : Program} {w : World} : ∀ {es : List DictEntry} {vs : List (Key × Value)}, Pairs (mixKind P w) es vs → es.map (·.val) = vs.map (·.2)
  | _, _, .nil => rfl
  | _, _, .cons hk hv t => by rw [List.map_cons, List.map_cons, hv, pairs_vals t]
theorem kv_vals : ∀ {kvs : List (Key × V)} {vs : List (Key × Value)}, KV kvs vs → Vals (kvs.map (·.2)) (vs.map (·.2)) ∧ kvs.map (·.1) = vs.map (·.1)
  | _, _, .nil => ⟨.nil, rfl⟩
  | _, _, .cons h t => by
    obtain ⟨h1, h2⟩ := kv_vals t
    exact ⟨.cons h.2 h1, by rw [List.map_cons, List.map_cons, h.1, h2]⟩
theorem keysNo : ∀ ks : List Key, PyData.hasDictAll (ks.map keyP) = false
  | [] => by simp only [List.map_nil, PyData.hasDictAll]
  | .inl i :: ks => by simp only [List.map_cons, keyP, PyData.hasDictAll, PyData.hasDict, keysNo ks, Bool.or_self]
  | .inr i :: ks => by simp only [List.map_cons, keyP, PyData.hasDictAll, PyData.hasDict, keysNo ks, Bool.or_self]
theorem toPs_len : ∀ {xs : List D} {ps : List PyData}, toPs xs = some ps → ps.length = xs.length
  | [], _, e => by
    cases e
    rfl
  | x :: xs, ps, e => by
    have z : (match toP x with
      | some p => (toPs xs).map (p :: ·)
      | none => none) = some ps := e
    cases y : toP x with
    | none =>
      rw [y] at z
      cases z
    | some p =>
      rw [y] at z
      cases w : toPs xs with
      | none =>
        rw [w] at z
        cases z
      | some qs =>
        rw [w] at z
        cases z
        rw [List.length_cons, List.length_cons, toPs_len w]
theorem shw_dic (o : XOk G p n g X W) (hg : X.A.guards = some []) (I : Inv X pins σ H s) {x : V} {v : Value} {d : D} {q : PyData} {Q : VK} (rx : RelV x v) (bx : Rep G U.F U.mu H x d) (hd : dicP d = some q) (hs : q.showable = true) (hdp : q.depth ≤ 40) (hsz : q.shown.length ≤ 1000000)
    (hQ : Q (.str q.shown) H) : wpAny (model X.prog X.w) X.A (call (.builtin "repr") [v]) (EP X pins σ Q) X.xe s := by
  cases d with
  | dic ks xs =>
    have hd : (toPs xs).bind (fun ps => if ks.length = xs.length then some (PyData.dict ((ks.map keyP).zip ps)) else none) = some q := hd
    cases ep : toPs xs with
    | none =>
      rw [ep] at hd
      cases hd
    | some ps =>
      rw [ep] at hd
      have hd : (if ks.length = xs.length then some (PyData.dict ((ks.map keyP).zip ps)) else none) = some q := hd
      split at hd
      · rename_i hl
        cases hd
        cases bx with
        | @dic a kvs vs _ _ hF e hk hv r =>
          obtain rfl : v = Value.ref a := rx
          obtain ⟨_, hsys, ws, rk, ob, es, epo, hget, hex, hdat, _, hpr, _⟩ := dk_of I.hok e
          obtain ⟨rv, rkeys⟩ := kv_vals rk
          have lps : ps.length = xs.length := toPs_len ep
          have l2 : (ks.map keyP).length = ps.length := by rw [List.length_map, lps, hl]
          have h4 := keys_reads (h := s.heap) hpr
          have ek : (ws.map fun kv => keyP kv.1) = ((ks.map keyP).zip ps).map (·.1) := by
            rw [List.map_fst_zip (Nat.le_of_eq l2), ← hk, rkeys, List.map_map]
            rfl
          rw [ek] at h4
          obtain ⟨as, h5⟩ := Dp.readsAll I ps vs (ws.map (·.2)) (by rw [o.K]; exact dp_reps r ep) (by rw [← hv]; exact rv)
          have ev : ps = ((ks.map keyP).zip ps).map (·.2) := by rw [List.map_snd_zip (Nat.le_of_eq l2.symm)]
          rw [← pairs_vals hpr] at h5
          have hpl := toPs_plain ep
          generalize hkv : (ks.map keyP).zip ps = kv at *
          have hno1 : PyData.hasDictAll (kv.map (·.1)) = false := by
            rw [← hkv, List.map_fst_zip (Nat.le_of_eq l2)]
            exact keysNo ks
          have hno2 : PyData.hasDictAll (kv.map (·.2)) = false := by
            rw [← ev]
            exact hasDicts_plain hpl
          rw [ev] at h5
          have hz' : (dictText (PyData.shownKv kv)).length ≤ sizeLine := by
            have z := Nat.le_trans hsz (show 1000000 ≤ sizeLine by decide)
            simpa only [PyData.shown] using z
          obtain ⟨hs1, hs2⟩ := PyData.showableKv_split kv (by simpa [PyData.showable] using hs)
          obtain ⟨b1, hb1, k1⟩ := ReprAllK.of_readsAll (prog := X.prog) (w := X.w) h4 hs1 (fun z => by rw [hno1] at z; cases z) (fun t ht => let ⟨p, hp, hl⟩ := PyData.shownKv_key_le kv t ht; Nat.le_trans hl (Nat.le_trans (dictText_mem_le hp) hz'))
          obtain ⟨b2, hb2, k2⟩ := ReprAllK.of_readsAll (prog := X.prog) (w := X.w) h5 hs2 (fun z => by rw [hno2] at z; cases z) (fun t ht => let ⟨p, hp, hl⟩ := PyData.shownKv_val_le kv t ht; Nat.le_trans hl (Nat.le_trans (dictText_mem_le hp) hz'))
          have hb : ReadAtMost s.heap (PyData.depthKv kv) (b1 ++ b2) := (hb1.mono (PyData.depthAll_keys_le kv)).append (hb2.mono (PyData.depthAll_vals_le kv))
          have hna : a ∉ b1 ++ b2 := not_mem_of_deeper (.dict hget hex.1 hdat h4 h5) (by simp only [PyData.depth]; omega) hb
          simp only [PyData.depth] at hdp
          have hun := o.room.un
          have hu : X.A.units + 1 < cLine := by omega
          refine call_repr_slot hu ⟨ob, hget, hex.1⟩ PySem.F.slot_dict_repr ?_
          refine call_dict_reprK hget hex.1 hdat hsys hna (ReprEntriesK.of_two es.toList _ _
            (k1.more_le (fun b hb => List.mem_append_left _ hb) (PyData.depthAll_keys_le kv)) (k2.more_le (fun b hb => List.mem_append_right _ hb) (PyData.depthAll_vals_le kv))) (g := []) hg (fun b _ => Clear.nil b) (by rw [Around.in1_units]; omega) (fun _ _ z => z) (fun h' u tk hk => ⟨_, _, rfl, .str _, H, I.kept hk, ⟨_, rfl⟩, ?_⟩) (by rw [← PyData.shownKv_eq]; exact hz')
          rw [← PyData.shownKv_eq]
          simpa only [PyData.shown] using hQ
      · cases hd
  | _ => cases hd
theorem prm_g' : (prm p g n).g = g := by cases n <;> rfl
theorem shP_ok {q : PyData} {r : Str} (e : shP q = some r) : q.showable = true ∧ q.depth ≤ 40 ∧ q.shown.length ≤ 1000000 ∧ r = q.shown := by
  unfold shP at e
  split at e
  · rename_i z
    cases e
    exact ⟨z.1, z.2.1, z.2.2, rfl⟩
  · cases e
theorem obj_shw (o : XOk G p n g X W) (I : Inv X pins σ H s) {x : V} {v : Value} {d : D} {Q : VK} (rx : RelV x v) (h : Rel G B U env fs hs σ H) (bx : Rep G U.F U.mu H x d)
    (q : Post G W B env hs σ (KQ G B env hs σ Q) ((prm p g n).shw d fs)) : wpAny (model X.prog X.w) X.A (call (.builtin "repr") [v]) (EP X pins σ Q) X.xe s := by
  unfold Prm.shw at q
  cases er : showR d with
  | some r =>
    rw [er] at q
    have q : Post G W B env hs σ (KQ G B env hs σ Q) (if (prm p g n).g = true then .ok (.fz (.str r)) fs else .bad) := q
    rw [prm_g'] at q
    split at q
    · rename_i hg
      have hA := o.gd hg
      have qv := post_val q h (.str _)
      unfold showR at er
      cases ep : toP d with
      | some pd =>
        rw [ep] at er
        have er : shP pd = some r := er
        refine cr_repr o.K o.units hA pins s σ H [x] [v] Q I (.cons rx .nil) ⟨U, d, r, x, rfl, .inl bx, ?_, qv⟩
        obtain ⟨h1, h2, h3, h4⟩ := shP_ok er
        unfold showD
        rw [ep]
        show (if pd.showable = true ∧ pd.depth ≤ 40 ∧ pd.shown.length ≤ 1000000 then some pd.shown else none) = _
        rw [if_pos ⟨h1, h2, h3⟩, h4]
      | none =>
        rw [ep] at er
        have er : (dicP d).bind shP = some r := er
        cases ed : dicP d with
        | none =>
          rw [ed] at er
          cases er
        | some pd =>
          rw [ed] at er
          have er : shP pd = some r := er
          obtain ⟨h1, h2, h3, h4⟩ := shP_ok er
          subst h4
          exact shw_dic o hA I rx bx ed h1 h2 h3 qv
    · exact q.elim
  | none =>
    rw [er] at q
    cases d with
    | tup xs =>
      have q : Post G W B env hs σ (KQ G B env hs σ Q) (if (prm p g n).g = true ∧ xs.length ≤ 50 then ((prm p g n).shwL xs [] fs).bnd (shwT tupleText) else .bad) := q
      rw [prm_g'] at q
      split at q
      · rename_i z
        exact shw_tup o (o.gd z.1) I rx h bx z.2 q
      · exact q.elim
    | lst xs =>
      have q : Post G W B env hs σ (KQ G B env hs σ Q) (if (prm p g n).g = true ∧ xs ≠ [] ∧ xs.length ≤ 50 then ((prm p g n).shwL xs [] fs).bnd (shwT listText) else .bad) := q
      rw [prm_g'] at q
      split at q
      · rename_i z
        exact shw_lst o (o.gd z.1) I rx h bx z.2.1 z.2.2 q
      · exact q.elim
    | _ => exact obj_repr o I rx h bx q
theorem sd_rpd (o : XOk G p n g X W) {a : Expr} {ea : E} {q1 : Pos} (hg : Gl X "repr") (ha : PE X a (tE G W (ev (prm p g n) ea))) (hs : noStar a = true) :
    PE X (.Call (.Name "repr" q1) [a] [] pos) (tE G W (ev (prm p g n) (.rpd ea))) := by
  refine ⟨fun pins s σ H Q I h => ?_⟩
  have hq : tCons (tE G W (ev (prm p g n) ea)) tNil σ H (fun vs H1 => ∃ v B U env fs hs d, vs = [v] ∧ Rel G B U env fs hs σ H1 ∧ Rep G U.F U.mu H1 v d ∧ Post G W B env hs σ (KQ G B env hs σ Q) ((prm p g n).shw d fs)) := by
    obtain ⟨B, U, env, fs, hs, r, y⟩ := h
    refine ⟨B, U, env, fs, hs, r, y.bnd.imp fun t s1 y v U1 H1 g1 => ?_⟩
    obtain ⟨⟨d, s2⟩, ez, y1⟩ := y.need
    obtain ⟨U2, g2, r2, _⟩ := g1.fz g1.top ez
    exact ⟨v, B, U2, env, s2, hs, d, rfl, g2.drop, r2, y1⟩
  refine wpAny_Call_Name_kw (ld_blt I hg (by rw [o.mg]; exact o.pg.free _ (by decide)) b_repr' (PyProof.Rows.callWith_builtin1 (thn ((pa_cons ha pa_nil (star_no hs)).run pos pins s σ H _ I hq) fun us s1 ⟨vs, H1, I1, rv, v, B, U, env, fs, hs', d, e1, g1, r1, q1⟩ => ?_) (star_no hs) rfl))
  subst e1
  obtain ⟨u, e2, ru⟩ := vals1 rv
  subst e2
  exact obj_shw o I1 ru g1 r1 q1
theorem staOf_some {c m f : Nat} (h : (prm p g n).staOf c m = some f) : ∃ k, p.cls[c]? = some k ∧ k.stat.lookup m = some f := by
  unfold Prm.staOf at h
  rw [prm_cs] at h
  cases z : p.cls[c]? with
  | none =>
    rw [z] at h
    cases h
  | some k =>
    rw [z] at h
    exact ⟨k, rfl, h⟩
theorem sd_cst (o : XOk G p n g X W) {c m i : Nat} {k : Cla} {f : Fn} {es : List Expr} {ees : E} {cn x : Str} {q q2 : Pos} (hk : p.cls[c]? = some k) (hm : k.stat.lookup m = some i) (hf : p.fns[i]? = some f) (hc : k.nm = cn) (he : G.nm m = x) (hg : Gl X cn) (hd : (cn == ("__debug__" : Str)) = false)
    (ha : PA X es (tA G W (evs (prm p g n) ees))) (h0 : es = [] → ees = .nil) (hl : headNo es = true) {pl : Sem Bool} (ht : eval (.Call (.Attribute (.Name cn q2) x q) es [] pos) X.env = (do
      let ov ← eval (.Name cn q2) X.env
      standAt q.atName
      let (f, first) ← holding [ov] (getMethod ov x pl)
      callWith pos f first (backTo pos (starEach es X.env)) (backToKw pos (keywordEach [] X.env)))) : PE X (.Call (.Attribute (.Name cn q2) x q) es [] pos) (tE G W (ev (prm p g n) (.cst c m ees))) := by
  have C := o.pg.cls c k hk
  have hmg : X.mg cn = some (.ref (G.ca c)) := by
    rw [o.mg, ← C.glob, hc]
  obtain ⟨r, S⟩ := C.stat m i hm
  rw [he, ← o.K] at S
  obtain ⟨rest, hr⟩ := S.rc
  refine ⟨fun pins s σ H Q I h => ?_⟩
  have h2 := tA_of (k := fun _ rs s => need (fzs s rs) fun z => need ((prm p g n).staOf c m) fun f => ((prm p g n).call f z.1 z.2.st).out z.2.ol) h
  refine PySem.W.methodCall_KW (pl := pl) (thn ((pe_glob (v := .ref (G.ca c)) (u := .ref (G.ca c)) hg hmg rfl hd).run pins s σ H (fun v H1 => v = .ref (G.ca c) ∧ H1 = H) I ⟨rfl, rfl⟩) fun u s1 ⟨v, H1, I1, rv1, e1, e2⟩ => ?_) ht
  subst e1 e2
  obtain rfl : u = Value.ref (G.ca c) := rv1
  refine PySem.W.method_cls I1.kIn S.ga (PySem.W.cls_bind I1.kIn S.rd S.at_ (wpAny_call (PySem.W.sm_get (s := { s1 with toks := s1.toks + 1 }) I1.kIn hr (PySem.W.handed_on rfl ?_))))
  refine callAny (first := []) (I1.tok _) ha (by rw [o.K]; exact o.pg.kp i f hf) h2 (h0_of h0 h2) hl fun us s1 vs H1 I1 rv q1 => ?_
  obtain ⟨B, U, env, fs, hs, ds, g1, r1, y⟩ := KA.fz (k := fun ds s => need ((prm p g n).staOf c m) fun f => ((prm p g n).call f ds s.st).out s.ol) q1
  obtain ⟨f', ef, y⟩ := y.need
  have ei : f' = i := by
    obtain ⟨k', hk', hm'⟩ := staOf_some ef
    rw [hk] at hk'
    cases hk'
    rw [hm] at hm'
    exact (Option.some.inj hm').symm
  subst ei
  exact call_ds o hf I1 rv g1 r1 y
end
end Wv
namespace Wv
open PySem L2
theorem starEach_all {args : List Expr} {env : Env} {pos : Pos} (h : args.all noStar = true) : (backTo pos (starEach args env)).all (fun x => !x.1) = true := by
  have e := any_back (pos := pos) (env := env) h
  rw [List.any_eq_false] at e
  rw [List.all_eq_true]
  intro x hx
  have z := e x hx
  cases y : x.1 with
  | false => rfl
  | true => exact absurd y z
theorem meth_ht {o : Expr} {m : Str} {apos pos : Pos} {args : List Expr} {env : Env} (hc : noCall o = true) (hs : args.all noStar = true) (hn : decide (args.length < 30) = true) (hl : (apos.endLine == pos.line) = true) :
    eval (.Call (.Attribute o m apos) args [] pos) env = (do
      let ov ← eval o env
      standAt apos.atName
      let (f, first) ← holding [ov] (getMethod ov m (do return (← importBound o env).getD true))
      callWith pos f first (backTo pos (starEach args env)) (backToKw pos (keywordEach [] env))) := by
  rw [arm_eval_Call, call_no hc]
  have hform : methodCallForm (args.length + ([] : List Keyword).length) (backTo pos (starEach args env)) (backToKw pos (keywordEach [] env)) = true := by
    unfold methodCallForm
    rw [starEach_all hs]
    have e : args.length < 30 := of_decide_eq_true hn
    show (true && true && decide (args.length + 0 + 0 < 30)) = true
    rw [decide_eq_true (show args.length + 0 + 0 < 30 from e)]
    rfl
  have hpos : methodCallPos true o env apos pos = pure pos := by unfold methodCallPos; simp [hl]
  unfold methodCall calleeOf
  rw [hform]
  simp only [hpos, if_true, pure_bind]

theorem nmC_ok {x : Str} (h : nmC x = true) : (x == ("__debug__" : Str)) = false ∧ (x == ("__classdict__" : Str)) = false := by
  unfold nmC at h
  rw [Bool.and_eq_true] at h
  exact ⟨by simpa using h.1, by simpa using h.2⟩
theorem visC_ok {sc : Scope} {x : Str} (h : visC sc x = true) : Vis sc x := by
  unfold visC at h
  split at h
  · rename_i e
    exact .inl e
  · rename_i e
    exact .inr (.inl e)
  · rename_i e
    exact .inr (.inr e)
  · cases h
theorem glC_ok {X : Cx} {sc : Scope} {x : Str} (e : X.env.scope = sc) (h : glC sc x = true) : Gl X x := by
  unfold glC at h
  split at h
  · rename_i z
    show X.env.scope.names.lookup x = some .globalImplicit
    rw [e]
    exact z
  · cases h
theorem locC_ok {sc : Scope} {x : Str} (h : locC sc x = true) : sc.names.lookup x = some .local := by
  unfold locC at h
  split at h
  · rename_i e
    exact e
  · cases h
theorem kcEq_ok {a b : Kc} (h : kcEq a b = true) : a = b := by
  unfold kcEq at h
  split at h
  · rfl
  · rw [eq_of_beq h]
  · rw [of_decide_eq_true h]
  · rw [of_decide_eq_true h]
  · cases h
theorem binC_ok {a : Bin} {o : Operator} (h : binC a o = true) : o = a.op := by
  unfold binC at h
  split at h <;> first | rfl | cases h
theorem cmpC_ok {a : Cmp} {o : CmpOp} (h : cmpC a o = true) : o = a.op := by
  unfold cmpC at h
  split at h <;> first | rfl | cases h
theorem obC_ok {a : Ob} {o : CmpOp} (h : obC a o = true) : o = a.op := by
  unfold obC at h
  split at h <;> first | rfl | cases h
def argC (x : Str) : Expr → Bool
  | .Name y _ => decide (x = y)
  | _ => false
theorem dicC_one {k : Key} {a : List (Option Expr)} (h : dicC [k] a = true) : ∃ c j q, a = [some (.Constant c j q)] ∧ chK (keyK k) c = true := by
  cases a with
  | nil => exact nomatch h
  | cons y ys =>
    cases y with
    | none => exact nomatch h
    | some y =>
      cases y with
      | Constant c j q =>
        cases ys with
        | nil => exact ⟨c, j, q, rfl, h⟩
        | cons _ _ => exact nomatch h
      | _ => exact nomatch h
end Wv
namespace Wv
open PySem L2
/-- what a checked expression keeps -/
structure Snd (p : Pg) (e : E) : Prop where
  v : ∀ {G : Cfg} {n : Nat} {g : Bool} {S : Sx} {X : Cx} {W : WX} (o : XOk G p n g X W) (f : Fits S X) (x : Expr), ch p S false e x = true → PE X x (tE G W (ev (prm p g n) e))
  t : ∀ {G : Cfg} {n : Nat} {g : Bool} {S : Sx} {X : Cx} {W : WX} (o : XOk G p n g X W) (f : Fits S X) (x : Expr), ch p S true e x = true → PT X x (tT G W (tb (ev (prm p g n) e)))
  andV : ∀ {G : Cfg} {n : Nat} {g : Bool} {S : Sx} {X : Cx} {W : WX} (o : XOk G p n g X W) (f : Fits S X) (xs : List Expr) (pos : Pos), chAnd p S false e xs = true → PE X (.BoolOp .And xs pos) (tE G W (ev (prm p g n) e))
  andT : ∀ {G : Cfg} {n : Nat} {g : Bool} {S : Sx} {X : Cx} {W : WX} (o : XOk G p n g X W) (f : Fits S X) (xs : List Expr) (pos : Pos), chAnd p S true e xs = true → PW X (.BoolOp .And xs pos) (tT G W (tb (ev (prm p g n) e)))
  orV : ∀ {G : Cfg} {n : Nat} {g : Bool} {S : Sx} {X : Cx} {W : WX} (o : XOk G p n g X W) (f : Fits S X) (xs : List Expr) (pos : Pos), chOr p S false e xs = true → PE X (.BoolOp .Or xs pos) (tE G W (ev (prm p g n) e))
  orT : ∀ {G : Cfg} {n : Nat} {g : Bool} {S : Sx} {X : Cx} {W : WX} (o : XOk G p n g X W) (f : Fits S X) (xs : List Expr) (pos : Pos), chOr p S true e xs = true → PW X (.BoolOp .Or xs pos) (tT G W (tb (ev (prm p g n) e)))
  a : ∀ {G : Cfg} {n : Nat} {g : Bool} {S : Sx} {X : Cx} {W : WX} (o : XOk G p n g X W) (f : Fits S X) (xs : List Expr), chA p S e xs = true → PA X xs (tA G W (evs (prm p g n) e))
  tt : ∀ {G : Cfg} {n : Nat} {g : Bool} {S : Sx} {X : Cx} {W : WX} (o : XOk G p n g X W) (f : Fits S X) (xs : List Expr), chTt p S e xs = true → PTs X xs (tT G W (evt (prm p g n) e))
  pp : ∀ {G : Cfg} {n : Nat} {g : Bool} {S : Sx} {X : Cx} {W : WX} (o : XOk G p n g X W) (f : Fits S X) (x : Option Expr), chP p S e x = true → PO X x (tP G W (evP (prm p g n) e))
  i : ∀ {G : Cfg} {n : Nat} {g : Bool} {S : Sx} {X : Cx} {W : WX} (o : XOk G p n g X W) (f : Fits S X) (tg x : Expr), chI p S e tg x = true → PI X tg x (tI G W (evX (prm p g n) e))
def Parts (p : Pg) : E → Prop
  | .cons a r => Snd p a ∧ Parts p r
  | .sta a r => Snd p a ∧ Parts p r
  | _ => True
section
variable {p : Pg} {G : Cfg} {n : Nat} {g : Bool} {S : Sx} {X : Cx} {W : WX}
theorem and2 {a b : Bool} (h : (a && b) = true) : a = true ∧ b = true := by rwa [Bool.and_eq_true] at h
/-- an expression that is neither and, or, a list of arguments, an iterable -/
theorem Snd.plain {e : E} (h1 : ∀ S t xs, chAnd p S t e xs = false) (h2 : ∀ S t xs, chOr p S t e xs = false) (h3 : ∀ S xs, chA p S e xs = false) (h4 : ∀ S xs, chTt p S e xs = false) (h5 : ∀ S x, chP p S e x = false) (h6 : ∀ S t x, chI p S e t x = false)
    (v : ∀ {G : Cfg} {n : Nat} {g : Bool} {S : Sx} {X : Cx} {W : WX} (o : XOk G p n g X W) (f : Fits S X) (x : Expr), ch p S false e x = true → PE X x (tE G W (ev (prm p g n) e)))
    (t : ∀ {G : Cfg} {n : Nat} {g : Bool} {S : Sx} {X : Cx} {W : WX} (o : XOk G p n g X W) (f : Fits S X) (x : Expr), ch p S true e x = true → PT X x (tT G W (tb (ev (prm p g n) e)))) : Snd p e :=
  { v := v, t := t
    andV := fun o f xs pos h => absurd h (by rw [h1]; decide)
    andT := fun o f xs pos h => absurd h (by rw [h1]; decide)
    orV := fun o f xs pos h => absurd h (by rw [h2]; decide)
    orT := fun o f xs pos h => absurd h (by rw [h2]; decide)
    a := fun o f xs h => absurd h (by rw [h3]; decide)
    tt := fun o f xs h => absurd h (by rw [h4]; decide)
    pp := fun o f x h => absurd h (by rw [h5]; decide)
    i := fun o f t x h => absurd h (by rw [h6]; decide) }

theorem snd_var {i : Nat}  : Snd p (.var i) := by
  refine Snd.plain (fun _ _ _ => rfl) (fun _ _ _ => rfl) (fun _ _ => rfl) (fun _ _ => rfl) (fun _ _ => rfl) (fun _ _ _ => rfl) (fun {G n g S X W} o f x h => ?_) (fun {G n g S X W} o f x h => ?_)
  · cases x with
    | Name x q =>
      have h : (decide (S.N[i]? = some x) && visC S.sc x && nmC x) = true := h
      obtain ⟨h, h3⟩ := and2 h
      obtain ⟨h1, h2⟩ := and2 h
      exact sd_var (by rw [f.N]; exact of_decide_eq_true h1) (by rw [f.sc]; exact visC_ok h2) (nmC_ok h3).1 (nmC_ok h3).2 _
    | _ => exact nomatch h
  · cases x with
    | Name x q =>
      have h : (decide (S.N[i]? = some x) && visC S.sc x && nmC x) = true := h
      obtain ⟨h, h3⟩ := and2 h
      obtain ⟨h1, h2⟩ := and2 h
      exact st_val (sd_var (by rw [f.N]; exact of_decide_eq_true h1) (by rw [f.sc]; exact visC_ok h2) (nmC_ok h3).1 (nmC_ok h3).2 _) rfl
    | _ => exact nomatch h
theorem snd_con {k : Kc}  : Snd p (.con k) := by
  refine Snd.plain (fun _ _ _ => rfl) (fun _ _ _ => rfl) (fun _ _ => rfl) (fun _ _ => rfl) (fun _ _ => rfl) (fun _ _ _ => rfl) (fun {G n g S X W} o f x h => ?_) (fun {G n g S X W} o f x h => ?_)
  · cases x with
    | Constant c j q =>
      exact sd_con h _
    | _ => exact nomatch h
  · cases x with
    | Constant c j q =>
      exact st_val (sd_con h _) rfl
    | _ => exact nomatch h
theorem snd_glo {x : Nat} {k : Kc}  : Snd p (.glo x k) := by
  refine Snd.plain (fun _ _ _ => rfl) (fun _ _ _ => rfl) (fun _ _ => rfl) (fun _ _ => rfl) (fun _ _ => rfl) (fun _ _ _ => rfl) (fun {G n g S X W} o f x h => ?_) (fun {G n g S X W} o f x h => ?_)
  · cases x with
    | Name y q =>
      have h : (!false && glC S.sc y && decide (p.nms.getD x "" = y) && (p.ks.any fun q => decide (q.1 = x) && kcEq q.2 k) && nmC y) = true := h
      obtain ⟨h, h4⟩ := and2 h
      obtain ⟨h, h3⟩ := and2 h
      obtain ⟨h, h2⟩ := and2 h
      obtain ⟨_, h1⟩ := and2 h
      obtain ⟨q, hq, hh⟩ := List.any_eq_true.mp h3
      obtain ⟨e1, e2⟩ := and2 hh
      have e1 := of_decide_eq_true e1
      have e2 := kcEq_ok e2
      have hm : (x, k) ∈ p.ks := by rw [← e1, ← e2]; exact hq
      exact sd_glo o (glC_ok f.sc h1) (by show G.nms.getD x "" = y; rw [o.pg.nms]; exact of_decide_eq_true h2) hm (nmC_ok h4).1 _
    | _ => exact nomatch h
  · cases x with
    | Name y q =>
      exact nomatch (show false = true from h)
    | _ => exact nomatch h
theorem snd_bin {op : Bin} {a b : E} (ha : Snd p a) (hb : Snd p b) : Snd p (.bin op a b) := by
  refine Snd.plain (fun _ _ _ => rfl) (fun _ _ _ => rfl) (fun _ _ => rfl) (fun _ _ => rfl) (fun _ _ => rfl) (fun _ _ _ => rfl) (fun {G n g S X W} o f x h => ?_) (fun {G n g S X W} o f x h => ?_)
  · cases x with
    | BinOp l q r pos =>
      have h : (!false && binC op q && ch p S false a l && ch p S false b r) = true := h
      obtain ⟨h, h3⟩ := and2 h
      obtain ⟨h, h2⟩ := and2 h
      obtain ⟨_, h1⟩ := and2 h
      rw [binC_ok h1]
      exact sd_bin o (ha.v o f l h2) (hb.v o f r h3)
    | _ => exact nomatch h
  · cases x with
    | BinOp l q r pos =>
      exact nomatch (show false = true from h)
    | _ => exact nomatch h
theorem snd_cmp {q : Cmp} {a b : E} (ha : Snd p a) (hb : Snd p b) : Snd p (.cmp q a b) := by
  refine Snd.plain (fun _ _ _ => rfl) (fun _ _ _ => rfl) (fun _ _ => rfl) (fun _ _ => rfl) (fun _ _ => rfl) (fun _ _ _ => rfl) (fun {G n g S X W} o f x h => ?_) (fun {G n g S X W} o f x h => ?_)
  · cases x with
    | Compare l ops cs pos =>
      cases ops with
      | cons op ops =>
        cases ops with
        | nil =>
          cases cs with
          | cons r cs =>
            cases cs with
            | nil =>
              have h : (cmpC q op && noSet r && ch p S false a l && ch p S false b r) = true := h
              obtain ⟨h, h4⟩ := and2 h
              obtain ⟨h, h3⟩ := and2 h
              obtain ⟨h1, h2⟩ := and2 h
              rw [cmpC_ok h1]
              exact sd_cmp o (ha.v o f l h3) (hb.v o f r h4) h2
            | _ => exact nomatch h
          | _ => exact nomatch h
        | _ => exact nomatch h
      | _ => exact nomatch h
    | _ => exact nomatch h
  · cases x with
    | Compare l ops cs pos =>
      cases ops with
      | cons op ops =>
        cases ops with
        | nil =>
          cases cs with
          | cons r cs =>
            cases cs with
            | nil =>
              have h : (cmpC q op && noSet r && ch p S false a l && ch p S false b r) = true := h
              obtain ⟨h, h4⟩ := and2 h
              obtain ⟨h, h3⟩ := and2 h
              obtain ⟨h1, h2⟩ := and2 h
              rw [cmpC_ok h1]
              exact st_cmp o (ha.v o f l h3) (hb.v o f r h4) h2
            | _ => exact nomatch h
          | _ => exact nomatch h
        | _ => exact nomatch h
      | _ => exact nomatch h
    | _ => exact nomatch h
theorem snd_chn {q q' : Cmp} {a b c : E} (ha : Snd p a) (hb : Snd p b) (hc : Snd p c) : Snd p (.chn q q' a b c) := by
  refine Snd.plain (fun _ _ _ => rfl) (fun _ _ _ => rfl) (fun _ _ => rfl) (fun _ _ => rfl) (fun _ _ => rfl) (fun _ _ _ => rfl) (fun {G n g S X W} o f x h => ?_) (fun {G n g S X W} o f x h => ?_)
  · cases x with
    | Compare l ops cs pos =>
      cases ops with
      | cons op ops =>
        cases ops with
        | cons op' ops =>
          cases ops with
          | nil =>
            cases cs with
            | cons m cs =>
              cases cs with
              | cons r cs =>
                cases cs with
                | nil =>
                  have h : (cmpC q op && cmpC q' op' && noSet r && ch p S false a l && ch p S false b m && ch p S false c r) = true := h
                  obtain ⟨h, h6⟩ := and2 h
                  obtain ⟨h, h5⟩ := and2 h
                  obtain ⟨h, h4⟩ := and2 h
                  obtain ⟨h, h3⟩ := and2 h
                  obtain ⟨h1, h2⟩ := and2 h
                  rw [cmpC_ok h1, cmpC_ok h2]
                  exact sd_chn o (ha.v o f l h4) (hb.v o f m h5) (hc.v o f r h6) h3
                | _ => exact nomatch h
              | _ => exact nomatch h
            | _ => exact nomatch h
          | _ => exact nomatch h
        | _ => exact nomatch h
      | _ => exact nomatch h
    | _ => exact nomatch h
  · cases x with
    | Compare l ops cs pos =>
      cases ops with
      | cons op ops =>
        cases ops with
        | cons op' ops =>
          cases ops with
          | nil =>
            cases cs with
            | cons m cs =>
              cases cs with
              | cons r cs =>
                cases cs with
                | nil =>
                  have h : (cmpC q op && cmpC q' op' && noSet r && ch p S false a l && ch p S false b m && ch p S false c r) = true := h
                  obtain ⟨h, h6⟩ := and2 h
                  obtain ⟨h, h5⟩ := and2 h
                  obtain ⟨h, h4⟩ := and2 h
                  obtain ⟨h, h3⟩ := and2 h
                  obtain ⟨h1, h2⟩ := and2 h
                  rw [cmpC_ok h1, cmpC_ok h2]
                  exact st_chn o (ha.v o f l h4) (hb.v o f m h5) (hc.v o f r h6) h3
                | _ => exact nomatch h
              | _ => exact nomatch h
            | _ => exact nomatch h
          | _ => exact nomatch h
        | _ => exact nomatch h
      | _ => exact nomatch h
    | _ => exact nomatch h
theorem snd_not {a : E} (ha : Snd p a) : Snd p (.not a) := by
  refine Snd.plain (fun _ _ _ => rfl) (fun _ _ _ => rfl) (fun _ _ => rfl) (fun _ _ => rfl) (fun _ _ => rfl) (fun _ _ _ => rfl) (fun {G n g S X W} o f x h => ?_) (fun {G n g S X W} o f x h => ?_)
  · cases x with
    | UnaryOp op y pos =>
      cases op with
      | Not =>
        exact sd_not (ha.v o f y h)
      | _ => exact nomatch h
    | _ => exact nomatch h
  · cases x with
    | UnaryOp op y pos =>
      cases op with
      | Not =>
        exact st_not (ha.t o f y h)
      | _ => exact nomatch h
    | _ => exact nomatch h
theorem snd_neg {a : E} (ha : Snd p a) : Snd p (.neg a) := by
  refine Snd.plain (fun _ _ _ => rfl) (fun _ _ _ => rfl) (fun _ _ => rfl) (fun _ _ => rfl) (fun _ _ => rfl) (fun _ _ _ => rfl) (fun {G n g S X W} o f x h => ?_) (fun {G n g S X W} o f x h => ?_)
  · cases x with
    | UnaryOp op y pos =>
      cases op with
      | USub =>
        have h : (!false && ch p S false a y) = true := h
        exact sd_neg (ha.v o f y (and2 h).2)
      | _ => exact nomatch h
    | _ => exact nomatch h
  · cases x with
    | UnaryOp op y pos =>
      cases op with
      | USub =>
        exact nomatch (show false = true from h)
      | _ => exact nomatch h
    | _ => exact nomatch h
theorem snd_ife {c a b : E} (hc : Snd p c) (ha : Snd p a) (hb : Snd p b) : Snd p (.ife c a b) := by
  refine Snd.plain (fun _ _ _ => rfl) (fun _ _ _ => rfl) (fun _ _ => rfl) (fun _ _ => rfl) (fun _ _ => rfl) (fun _ _ _ => rfl) (fun {G n g S X W} o f x h => ?_) (fun {G n g S X W} o f x h => ?_)
  · cases x with
    | IfExp x1 x2 x3 pos =>
      have h : (!false && ch p S true c x1 && ch p S false a x2 && ch p S false b x3) = true := h
      obtain ⟨h, h3⟩ := and2 h
      obtain ⟨h, h2⟩ := and2 h
      exact sd_ife (hc.t o f x1 (and2 h).2) (ha.v o f x2 h2) (hb.v o f x3 h3)
    | _ => exact nomatch h
  · cases x with
    | IfExp x1 x2 x3 pos =>
      exact nomatch (show false = true from h)
    | _ => exact nomatch h
theorem snd_tup {es : E} (ha : Snd p es) : Snd p (.tup es) := by
  refine Snd.plain (fun _ _ _ => rfl) (fun _ _ _ => rfl) (fun _ _ => rfl) (fun _ _ => rfl) (fun _ _ => rfl) (fun _ _ _ => rfl) (fun {G n g S X W} o f x h => ?_) (fun {G n g S X W} o f x h => ?_)
  · cases x with
    | Tuple xs k pos =>
      have h : (!false && chA p S es xs) = true := h
      exact sd_tup (ha.a o f xs (and2 h).2)
    | _ => exact nomatch h
  · cases x with
    | Tuple xs k pos =>
      exact nomatch (show false = true from h)
    | _ => exact nomatch h
theorem snd_lst {es : E} (ha : Snd p es) : Snd p (.lst es) := by
  refine Snd.plain (fun _ _ _ => rfl) (fun _ _ _ => rfl) (fun _ _ => rfl) (fun _ _ => rfl) (fun _ _ => rfl) (fun _ _ _ => rfl) (fun {G n g S X W} o f x h => ?_) (fun {G n g S X W} o f x h => ?_)
  · cases x with
    | List xs pos =>
      have h : (!false && chA p S es xs) = true := h
      exact sd_lst (ha.a o f xs (and2 h).2)
    | _ => exact nomatch h
  · cases x with
    | List xs pos =>
      exact nomatch (show false = true from h)
    | _ => exact nomatch h
theorem snd_lsc {es : E} (ha : Snd p es) : Snd p (.lsc es) := by
  refine Snd.plain (fun _ _ _ => rfl) (fun _ _ _ => rfl) (fun _ _ => rfl) (fun _ _ => rfl) (fun _ _ => rfl) (fun _ _ _ => rfl) (fun {G n g S X W} o f x h => ?_) (fun {G n g S X W} o f x h => ?_)
  · cases x with
    | List xs pos =>
      have h : (!false && chA p S es xs) = true := h
      exact sd_lsc (ha.a o f xs (and2 h).2)
    | _ => exact nomatch h
  · cases x with
    | List xs pos =>
      exact nomatch (show false = true from h)
    | _ => exact nomatch h
theorem snd_idx {a b : E} (ha : Snd p a) (hb : Snd p b) : Snd p (.idx a b) := by
  refine Snd.plain (fun _ _ _ => rfl) (fun _ _ _ => rfl) (fun _ _ => rfl) (fun _ _ => rfl) (fun _ _ => rfl) (fun _ _ _ => rfl) (fun {G n g S X W} o f x h => ?_) (fun {G n g S X W} o f x h => ?_)
  · cases x with
    | Subscript x y pos =>
      have h : (noSlice y && ch p S false a x && ch p S false b y) = true := h
      obtain ⟨h, h3⟩ := and2 h
      obtain ⟨h1, h2⟩ := and2 h
      exact (sd_idx o (ha.v o f x h2) (hb.v o f y h3) h1)
    | _ => exact nomatch h
  · cases x with
    | Subscript x y pos =>
      have h : (noSlice y && ch p S false a x && ch p S false b y) = true := h
      obtain ⟨h, h3⟩ := and2 h
      obtain ⟨h1, h2⟩ := and2 h
      exact st_val (sd_idx o (ha.v o f x h2) (hb.v o f y h3) h1) rfl
    | _ => exact nomatch h
theorem snd_slc {a lo hi : E} (ha : Snd p a) (hl : Snd p lo) (hh : Snd p hi) : Snd p (.slc a lo hi) := by
  refine Snd.plain (fun _ _ _ => rfl) (fun _ _ _ => rfl) (fun _ _ => rfl) (fun _ _ => rfl) (fun _ _ => rfl) (fun _ _ _ => rfl) (fun {G n g S X W} o f x h => ?_) (fun {G n g S X W} o f x h => ?_)
  · cases x with
    | Subscript x y pos =>
      cases y with
      | Slice l u st q =>
        cases st with
        | none =>
          have h : (ch p S false a x && chP p S lo l && chP p S hi u) = true := h
          obtain ⟨h, h3⟩ := and2 h
          obtain ⟨h1, h2⟩ := and2 h
          exact (sd_slc o (ha.v o f x h1) (hl.pp o f l h2) (hh.pp o f u h3))
        | _ => exact nomatch h
      | _ => exact nomatch h
    | _ => exact nomatch h
  · cases x with
    | Subscript x y pos =>
      cases y with
      | Slice l u st q =>
        cases st with
        | none =>
          have h : (ch p S false a x && chP p S lo l && chP p S hi u) = true := h
          obtain ⟨h, h3⟩ := and2 h
          obtain ⟨h1, h2⟩ := and2 h
          exact st_val (sd_slc o (ha.v o f x h1) (hl.pp o f l h2) (hh.pp o f u h3)) rfl
        | _ => exact nomatch h
      | _ => exact nomatch h
    | _ => exact nomatch h
theorem chA_nil {es : E} (h : chA p S es [] = true) : es = .nil := by
  cases es with
  | nil => rfl
  | _ => exact nomatch h
theorem h0_nil {es : E} {xs : List Expr} (h : chA p S es xs = true) : xs = [] → es = .nil := fun e => chA_nil (e ▸ h)
theorem fn_has {i : Nat} {x : Str} (h : (match p.fns[i]? with
    | some f => decide (f.pl = (x, none))
    | none => false) = true) : ∃ f, p.fns[i]? = some f ∧ f.pl = (x, none) := by
  cases z : p.fns[i]? with
  | none =>
    rw [z] at h
    cases h
  | some f =>
    rw [z] at h
    exact ⟨f, rfl, of_decide_eq_true h⟩
theorem cls_has {c : Nat} {x : Str} (h : (match p.cls[c]? with
    | some k => decide (k.nm = x)
    | none => false) = true) : ∃ k, p.cls[c]? = some k ∧ k.nm = x := by
  cases z : p.cls[c]? with
  | none =>
    rw [z] at h
    cases h
  | some f =>
    rw [z] at h
    exact ⟨f, rfl, of_decide_eq_true h⟩
theorem call_args {es : E} {xs : List Expr} (h : chC p S es xs = true) : (∃ a y q, es = .sta a .nil ∧ xs = [.Starred y q] ∧ ch p S false a y = true) ∨ (headNo xs = true ∧ chA p S es xs = true) := by
  cases es with
  | nil =>
    cases xs with
    | nil => exact .inr ⟨rfl, rfl⟩
    | cons x xs => exact nomatch h
  | cons a r =>
    cases xs with
    | nil => exact nomatch h
    | cons x xs =>
      have h : (noStar x && ch p S false a x && chA p S r xs) = true := h
      exact .inr ⟨(and2 (and2 h).1).1, h⟩
  | sta a r =>
    cases r with
    | nil =>
      cases xs with
      | nil => exact nomatch h
      | cons x xs =>
        cases xs with
        | nil =>
          cases x with
          | Starred y q => exact .inl ⟨a, y, q, rfl, rfl, h⟩
          | _ => exact nomatch h
        | cons _ _ => cases x <;> exact nomatch h
    | _ => exact nomatch h
  | _ => exact nomatch h
theorem v_cal (o : XOk G p n g X W) (f : Fits S X) {i : Nat} {es : E} (ha : Snd p es) (hp : Parts p es) {x : Str} {q pos : Pos} {xs : List Expr} {t : Bool} (h : ch p S t (.cal i es) (.Call (.Name x q) xs [] pos) = true) : PE X (.Call (.Name x q) xs [] pos) (tE G W (ev (prm p g n) (.cal i es))) := by
  have h : (glC S.sc x && nmC x && (match p.fns[i]? with
    | some f => decide (f.pl = (x, none))
    | none => false) && chC p S es xs) = true := h
  obtain ⟨h, h4⟩ := and2 h
  obtain ⟨h, h3⟩ := and2 h
  obtain ⟨h1, h2⟩ := and2 h
  obtain ⟨fn, e1, e2⟩ := fn_has h3
  rcases call_args h4 with ⟨a, y, q2, e3, e4, h5⟩ | ⟨h5, h6⟩
  · subst e3 e4
    exact sd_calS o e1 e2 (glC_ok f.sc h1) (nmC_ok h2).1 (hp.1.v o f y h5)
  · exact sd_cal o e1 e2 (glC_ok f.sc h1) (nmC_ok h2).1 (ha.a o f xs h6) (h0_nil h6) h5
theorem v_new (o : XOk G p n g X W) (f : Fits S X) {c : Nat} {es : E} (ha : Snd p es) {x : Str} {q pos : Pos} {xs : List Expr} (h : ch p S false (.new c es) (.Call (.Name x q) xs [] pos) = true) : PE X (.Call (.Name x q) xs [] pos) (tE G W (ev (prm p g n) (.new c es))) := by
  have h : (glC S.sc x && nmC x && (match p.cls[c]? with
    | some k => decide (k.nm = x)
    | none => false) && headNo xs && chA p S es xs) = true := h
  obtain ⟨h, h5⟩ := and2 h
  obtain ⟨h, h4⟩ := and2 h
  obtain ⟨h, h3⟩ := and2 h
  obtain ⟨h1, h2⟩ := and2 h
  obtain ⟨k, e1, e2⟩ := cls_has h3
  exact sd_new o e1 e2 (glC_ok f.sc h1) (nmC_ok h2).1 (ha.a o f xs h5) (h0_nil h5) h4
theorem head_of {xs : List Expr} (h : xs.all noStar = true) : headNo xs = true := by
  cases xs with
  | nil => rfl
  | cons x xs => exact (and2 h).1
theorem v_met (o : XOk G p n g X W) (f : Fits S X) {eo es : E} {m : Nat} (ho : Snd p eo) (ha : Snd p es) {y : Expr} {x : Str} {q pos : Pos} {xs : List Expr} (h : ch p S false (.met eo m es) (.Call (.Attribute y x q) xs [] pos) = true) : PE X (.Call (.Attribute y x q) xs [] pos) (tE G W (ev (prm p g n) (.met eo m es))) := by
  have h : (decide (p.nms.getD m "" = x) && noCall y && xs.all noStar && decide (xs.length < 30) && (q.endLine == pos.line) && ch p S false eo y && chA p S es xs) = true := h
  obtain ⟨h, h7⟩ := and2 h
  obtain ⟨h, h6⟩ := and2 h
  obtain ⟨h, h5⟩ := and2 h
  obtain ⟨h, h4⟩ := and2 h
  obtain ⟨h, h3⟩ := and2 h
  obtain ⟨h1, h2⟩ := and2 h
  exact sd_met o (by show G.nms.getD m "" = x; rw [o.pg.nms]; exact of_decide_eq_true h1) (ho.v o f y h6) (ha.a o f xs h7) (h0_nil h7) (head_of h3) (meth_ht h2 h3 h4 h5)
theorem v_fld (o : XOk G p n g X W) (f : Fits S X) {eo : E} {m : Nat} (ho : Snd p eo) {y : Expr} {x : Str} {q : Pos} (h : ch p S false (.fld eo m) (.Attribute y x q) = true) : PE X (.Attribute y x q) (tE G W (ev (prm p g n) (.fld eo m))) := by
  have h : (decide (p.nms.getD m "" = x) && noCall y && ch p S false eo y) = true := h
  obtain ⟨h, h3⟩ := and2 h
  obtain ⟨h1, h2⟩ := and2 h
  exact sd_fld o (by show G.nms.getD m "" = x; rw [o.pg.nms]; exact of_decide_eq_true h1) (ho.v o f y h3) h2
theorem v_isi (o : XOk G p n g X W) (f : Fits S X) {a : E} {ty : Ty} (ha : Snd p a) {fn x : Str} {q q2 pos : Pos} {y : Expr} (h : ch p S false (.isi a ty) (.Call (.Name fn q) [y, .Name x q2] [] pos) = true) : PE X (.Call (.Name fn q) [y, .Name x q2] [] pos) (tE G W (ev (prm p g n) (.isi a ty))) := by
  have h : (decide (fn = "isinstance") && glC S.sc fn && decide (ty.nm p = some x) && glC S.sc x && nmC x && noStar y && ch p S false a y) = true := h
  obtain ⟨h, h7⟩ := and2 h
  obtain ⟨h, h6⟩ := and2 h
  obtain ⟨h, h5⟩ := and2 h
  obtain ⟨h, h4⟩ := and2 h
  obtain ⟨h, h3⟩ := and2 h
  obtain ⟨h1, h2⟩ := and2 h
  have e := of_decide_eq_true h1
  subst e
  exact sd_isi o (glC_ok f.sc h2) (of_decide_eq_true h3) (glC_ok f.sc h4) (nmC_ok h5).1 (ha.v o f y h7) h6
theorem v_lens (o : XOk G p n g X W) (f : Fits S X) {a : E} (ha : Snd p a) {fn f2 : Str} {q q2 q3 pos : Pos} {z : Expr} {t : Bool} (h : ch p S t (.lens a) (.Call (.Name fn q) [.Call (.Name f2 q2) [z] [] q3] [] pos) = true) : PE X (.Call (.Name fn q) [.Call (.Name f2 q2) [z] [] q3] [] pos) (tE G W (ev (prm p g n) (.lens a))) := by
  have h : (decide (fn = "len") && glC S.sc fn && decide (f2 = "set") && glC S.sc f2 && noStar z && ch p S false a z) = true := h
  obtain ⟨h, h6⟩ := and2 h
  obtain ⟨h, h5⟩ := and2 h
  obtain ⟨h, h4⟩ := and2 h
  obtain ⟨h, h3⟩ := and2 h
  obtain ⟨h1, h2⟩ := and2 h
  have e1 := of_decide_eq_true h1
  have e2 := of_decide_eq_true h3
  subst e1 e2
  exact sd_lens o (glC_ok f.sc h2) (glC_ok f.sc h4) (ha.v o f z h6) h5
theorem v_bi (o : XOk G p n g X W) (f : Fits S X) {b : Bi} {es : E} (ha : Snd p es) {fn : Str} {q pos : Pos} {y : Expr} {ys : List Expr} {t : Bool} (h : ch p S t (.bi b es) (.Call (.Name fn q) (y :: ys) [] pos) = true) : PE X (.Call (.Name fn q) (y :: ys) [] pos) (tE G W (ev (prm p g n) (.bi b es))) := by
  have h : (glC S.sc fn && !isLens b && decide (b.nm = fn) && (y :: ys).all noStar && chA p S es (y :: ys)) = true := h
  obtain ⟨h, h5⟩ := and2 h
  obtain ⟨h, h4⟩ := and2 h
  obtain ⟨h, h3⟩ := and2 h
  obtain ⟨h1, h2⟩ := and2 h
  exact sd_bi o (of_decide_eq_true h3) (fun e => by rw [e] at h2; cases h2) (glC_ok f.sc h1) (ha.a o f _ h5) h4

theorem snd_cal {i : Nat} {es : E} (ha : Snd p es) (hp : Parts p es) : Snd p (.cal i es) := by
  refine Snd.plain (fun _ _ _ => rfl) (fun _ _ _ => rfl) (fun _ _ => rfl) (fun _ _ => rfl) (fun _ _ => rfl) (fun _ _ _ => rfl) (fun {G n g S X W} o f x h => ?_) (fun {G n g S X W} o f x h => ?_)
  · cases x with
    | Call fe xs ks pos =>
      cases fe with
      | Name x q =>
        cases ks with
        | nil =>
          exact v_cal o f ha hp h
        | _ => exact nomatch h
      | _ => exact nomatch h
    | _ => exact nomatch h
  · cases x with
    | Call fe xs ks pos =>
      cases fe with
      | Name x q =>
        cases ks with
        | nil =>
          exact st_val (v_cal o f ha hp h) rfl
        | _ => exact nomatch h
      | _ => exact nomatch h
    | _ => exact nomatch h
theorem snd_new {c : Nat} {es : E} (ha : Snd p es) : Snd p (.new c es) := by
  refine Snd.plain (fun _ _ _ => rfl) (fun _ _ _ => rfl) (fun _ _ => rfl) (fun _ _ => rfl) (fun _ _ => rfl) (fun _ _ _ => rfl) (fun {G n g S X W} o f x h => ?_) (fun {G n g S X W} o f x h => ?_)
  · cases x with
    | Call fe xs ks pos =>
      cases fe with
      | Name x q =>
        cases ks with
        | nil =>
          exact v_new o f ha h
        | _ => exact nomatch h
      | _ => exact nomatch h
    | _ => exact nomatch h
  · cases x with
    | Call fe xs ks pos =>
      cases fe with
      | Name x q =>
        cases ks with
        | nil =>
          exact st_val (v_new o f ha h) rfl
        | _ => exact nomatch h
      | _ => exact nomatch h
    | _ => exact nomatch h
theorem snd_met {eo es : E} {m : Nat} (ho : Snd p eo) (ha : Snd p es) : Snd p (.met eo m es) := by
  refine Snd.plain (fun _ _ _ => rfl) (fun _ _ _ => rfl) (fun _ _ => rfl) (fun _ _ => rfl) (fun _ _ => rfl) (fun _ _ _ => rfl) (fun {G n g S X W} o f x h => ?_) (fun {G n g S X W} o f x h => ?_)
  · cases x with
    | Call fe xs ks pos =>
      cases fe with
      | Attribute y x q =>
        cases ks with
        | nil =>
          exact v_met o f ho ha h
        | _ => exact nomatch h
      | _ => exact nomatch h
    | _ => exact nomatch h
  · cases x with
    | Call fe xs ks pos =>
      cases fe with
      | Attribute y x q =>
        cases ks with
        | nil =>
          exact st_val (v_met o f ho ha h) rfl
        | _ => exact nomatch h
      | _ => exact nomatch h
    | _ => exact nomatch h
theorem snd_fld {eo : E} {m : Nat} (ho : Snd p eo) : Snd p (.fld eo m) := by
  refine Snd.plain (fun _ _ _ => rfl) (fun _ _ _ => rfl) (fun _ _ => rfl) (fun _ _ => rfl) (fun _ _ => rfl) (fun _ _ _ => rfl) (fun {G n g S X W} o f x h => ?_) (fun {G n g S X W} o f x h => ?_)
  · cases x with
    | Attribute y x q =>
      exact v_fld o f ho h
    | _ => exact nomatch h
  · cases x with
    | Attribute y x q =>
      exact st_val (v_fld o f ho h) rfl
    | _ => exact nomatch h
theorem snd_isi {a : E} {ty : Ty} (ha : Snd p a) : Snd p (.isi a ty) := by
  refine Snd.plain (fun _ _ _ => rfl) (fun _ _ _ => rfl) (fun _ _ => rfl) (fun _ _ => rfl) (fun _ _ => rfl) (fun _ _ _ => rfl) (fun {G n g S X W} o f x h => ?_) (fun {G n g S X W} o f x h => ?_)
  · cases x with
    | Call fe xs ks pos =>
      cases fe with
      | Name x q =>
        cases xs with
        | cons y xs =>
          cases xs with
          | cons z xs =>
            cases z with
            | Name tn q2 =>
              cases xs with
              | nil =>
                cases ks with
                | nil =>
                  exact v_isi o f ha h
                | _ => exact nomatch h
              | _ => exact nomatch h
            | _ => exact nomatch h
          | _ => exact nomatch h
        | _ => exact nomatch h
      | _ => exact nomatch h
    | _ => exact nomatch h
  · cases x with
    | Call fe xs ks pos =>
      cases fe with
      | Name x q =>
        cases xs with
        | cons y xs =>
          cases xs with
          | cons z xs =>
            cases z with
            | Name tn q2 =>
              cases xs with
              | nil =>
                cases ks with
                | nil =>
                  exact st_val (v_isi o f ha h) rfl
                | _ => exact nomatch h
              | _ => exact nomatch h
            | _ => exact nomatch h
          | _ => exact nomatch h
        | _ => exact nomatch h
      | _ => exact nomatch h
    | _ => exact nomatch h
theorem snd_bi {b : Bi} {es : E} (ha : Snd p es) : Snd p (.bi b es) := by
  refine Snd.plain (fun _ _ _ => rfl) (fun _ _ _ => rfl) (fun _ _ => rfl) (fun _ _ => rfl) (fun _ _ => rfl) (fun _ _ _ => rfl) (fun {G n g S X W} o f x h => ?_) (fun {G n g S X W} o f x h => ?_)
  · cases x with
    | Call fe xs ks pos =>
      cases fe with
      | Name x q =>
        cases xs with
        | cons y ys =>
          cases ks with
          | nil =>
            exact v_bi o f ha h
          | _ => exact nomatch h
        | _ => exact nomatch h
      | _ => exact nomatch h
    | _ => exact nomatch h
  · cases x with
    | Call fe xs ks pos =>
      cases fe with
      | Name x q =>
        cases xs with
        | cons y ys =>
          cases ks with
          | nil =>
            exact st_val (v_bi o f ha h) rfl
          | _ => exact nomatch h
        | _ => exact nomatch h
      | _ => exact nomatch h
    | _ => exact nomatch h
theorem snd_lens {a : E} (ha : Snd p a) : Snd p (.lens a) := by
  refine Snd.plain (fun _ _ _ => rfl) (fun _ _ _ => rfl) (fun _ _ => rfl) (fun _ _ => rfl) (fun _ _ => rfl) (fun _ _ _ => rfl) (fun {G n g S X W} o f x h => ?_) (fun {G n g S X W} o f x h => ?_)
  · cases x with
    | Call fe xs ks pos =>
      cases fe with
      | Name x q =>
        cases xs with
        | cons y xs =>
          cases y with
          | Call fe2 zs ks2 q3 =>
            cases fe2 with
            | Name x2 q2 =>
              cases zs with
              | cons z zs =>
                cases zs with
                | nil =>
                  cases ks2 with
                  | nil =>
                    cases xs with
                    | nil =>
                      cases ks with
                      | nil =>
                        exact v_lens o f ha h
                      | _ => exact nomatch h
                    | _ => exact nomatch h
                  | _ => exact nomatch h
                | _ => exact nomatch h
              | _ => exact nomatch h
            | _ => exact nomatch h
          | _ => exact nomatch h
        | _ => exact nomatch h
      | _ => exact nomatch h
    | _ => exact nomatch h
  · cases x with
    | Call fe xs ks pos =>
      cases fe with
      | Name x q =>
        cases xs with
        | cons y xs =>
          cases y with
          | Call fe2 zs ks2 q3 =>
            cases fe2 with
            | Name x2 q2 =>
              cases zs with
              | cons z zs =>
                cases zs with
                | nil =>
                  cases ks2 with
                  | nil =>
                    cases xs with
                    | nil =>
                      cases ks with
                      | nil =>
                        exact st_val (v_lens o f ha h) rfl
                      | _ => exact nomatch h
                    | _ => exact nomatch h
                  | _ => exact nomatch h
                | _ => exact nomatch h
              | _ => exact nomatch h
            | _ => exact nomatch h
          | _ => exact nomatch h
        | _ => exact nomatch h
      | _ => exact nomatch h
    | _ => exact nomatch h
theorem v_rev (o : XOk G p n g X W) (f : Fits S X) {a : E} (ha : Snd p a) {x : Expr} {i : Int} {k : Nat} {p1 p2 p3 pos : Pos} {t : Bool} (h : ch p S t (.rev a) (.Subscript x (.Slice none none (some (.UnaryOp .USub (.Constant (.int i) k p1) p2)) p3) pos) = true) : PE X (.Subscript x (.Slice none none (some (.UnaryOp .USub (.Constant (.int i) k p1) p2)) p3) pos) (tE G W (ev (prm p g n) (.rev a))) := by
  have h : (decide (i = 1) && ch p S false a x) = true := h
  obtain ⟨h1, h2⟩ := and2 h
  have e := of_decide_eq_true h1
  subst e
  exact sd_rev o (ha.v o f x h2)
theorem v_pop (o : XOk G p n g X W) (f : Fits S X) {i : Nat} {a : E} (ha : Snd p a) {x m : Str} {y : Expr} {p1 q q2 : Pos} {t : Bool} (h : ch p S t (.pop i a) (.Call (.Attribute (.Name x p1) m q) [y] [] q2) = true) : PE X (.Call (.Attribute (.Name x p1) m q) [y] [] q2) (tE G W (ev (prm p g n) (.pop i a))) := by
  have h : (decide (m = "pop") && decide (S.N[i]? = some x) && visC S.sc x && nmC x && noStar y && (q.endLine == q2.line) && ch p S false a y) = true := h
  obtain ⟨h, h7⟩ := and2 h
  obtain ⟨h, h6⟩ := and2 h
  obtain ⟨h, h5⟩ := and2 h
  obtain ⟨h, h4⟩ := and2 h
  obtain ⟨h, h3⟩ := and2 h
  obtain ⟨h1, h2⟩ := and2 h
  have e := of_decide_eq_true h1
  subst e
  exact sd_pop o (by rw [f.N]; exact of_decide_eq_true h2) (by rw [f.sc]; exact visC_ok h3) (nmC_ok h4).1 (nmC_ok h4).2 (ha.v o f y h7) h5 h6
theorem v_lstr (o : XOk G p n g X W) (f : Fits S X) {a : E} (ha : Snd p a) {fn f2 : Str} {q q2 q3 pos : Pos} {z : Expr} {t : Bool} (h : ch p S t (.lstr (.cons a .nil)) (.Call (.Name fn q) [.Call (.Name f2 q2) [z] [] q3] [] pos) = true) : PE X (.Call (.Name fn q) [.Call (.Name f2 q2) [z] [] q3] [] pos) (tE G W (ev (prm p g n) (.lstr (.cons a .nil)))) := by
  have h : (decide (fn = "list") && glC S.sc fn && decide (f2 = "range") && glC S.sc f2 && noStar z && ch p S false a z) = true := h
  obtain ⟨h, h6⟩ := and2 h
  obtain ⟨h, h5⟩ := and2 h
  obtain ⟨h, h4⟩ := and2 h
  obtain ⟨h, h3⟩ := and2 h
  obtain ⟨h1, h2⟩ := and2 h
  have e1 := of_decide_eq_true h1
  have e2 := of_decide_eq_true h3
  subst e1 e2
  exact sd_lstr o (glC_ok f.sc h2) (glC_ok f.sc h4) (ha.v o f z h6) h5
theorem v_tupr (o : XOk G p n g X W) (f : Fits S X) {a : E} (ha : Snd p a) {fn f2 : Str} {q q2 q3 pos : Pos} {z : Expr} {t : Bool} (h : ch p S t (.tupr (.cons a .nil)) (.Call (.Name fn q) [.Call (.Name f2 q2) [z] [] q3] [] pos) = true) : PE X (.Call (.Name fn q) [.Call (.Name f2 q2) [z] [] q3] [] pos) (tE G W (ev (prm p g n) (.tupr (.cons a .nil)))) := by
  have h : (decide (fn = "tuple") && glC S.sc fn && decide (f2 = "range") && glC S.sc f2 && noStar z && ch p S false a z) = true := h
  obtain ⟨h, h6⟩ := and2 h
  obtain ⟨h, h5⟩ := and2 h
  obtain ⟨h, h4⟩ := and2 h
  obtain ⟨h, h3⟩ := and2 h
  obtain ⟨h1, h2⟩ := and2 h
  have e1 := of_decide_eq_true h1
  have e2 := of_decide_eq_true h3
  subst e1 e2
  exact sd_tupr o (glC_ok f.sc h2) (glC_ok f.sc h4) (ha.v o f z h6) h5

theorem snd_dnew   : Snd p (.dnew) := by
  refine Snd.plain (fun _ _ _ => rfl) (fun _ _ _ => rfl) (fun _ _ => rfl) (fun _ _ => rfl) (fun _ _ => rfl) (fun _ _ _ => rfl) (fun {G n g S X W} o f x h => ?_) (fun {G n g S X W} o f x h => ?_)
  · cases x with
    | Dict ks vs pos =>
      cases ks with
      | nil =>
        cases vs with
        | nil =>
          exact sd_dnew
        | _ => exact nomatch h
      | _ => exact nomatch h
    | _ => exact nomatch h
  · cases x with
    | Dict ks vs pos =>
      cases ks with
      | nil =>
        cases vs with
        | nil =>
          exact nomatch (show false = true from h)
        | _ => exact nomatch h
      | _ => exact nomatch h
    | _ => exact nomatch h
theorem snd_din {neg : Bool} {a b : E} (ha : Snd p a) (hb : Snd p b) : Snd p (.din neg a b) := by
  refine Snd.plain (fun _ _ _ => rfl) (fun _ _ _ => rfl) (fun _ _ => rfl) (fun _ _ => rfl) (fun _ _ => rfl) (fun _ _ _ => rfl) (fun {G n g S X W} o f x h => ?_) (fun {G n g S X W} o f x h => ?_)
  · cases x with
    | Compare l ops cs pos =>
      cases ops with
      | cons op ops =>
        cases ops with
        | nil =>
          cases cs with
          | cons r cs =>
            cases cs with
            | nil =>
              have h : (dinC neg op && noSet r && ch p S false a l && ch p S false b r) = true := h
              obtain ⟨h, h4⟩ := and2 h
              obtain ⟨h, h3⟩ := and2 h
              obtain ⟨h1, h2⟩ := and2 h
              unfold dinC at h1
              split at h1
              · exact sd_din o (ha.v o f l h3) (hb.v o f r h4) h2
              · exact sd_dni o (ha.v o f l h3) (hb.v o f r h4) h2
              · cases h1
            | _ => exact nomatch h
          | _ => exact nomatch h
        | _ => exact nomatch h
      | _ => exact nomatch h
    | _ => exact nomatch h
  · cases x with
    | Compare l ops cs pos =>
      cases ops with
      | cons op ops =>
        cases ops with
        | nil =>
          cases cs with
          | cons r cs =>
            cases cs with
            | nil =>
              have h : (dinC neg op && noSet r && ch p S false a l && ch p S false b r) = true := h
              obtain ⟨h, h4⟩ := and2 h
              obtain ⟨h, h3⟩ := and2 h
              obtain ⟨h1, h2⟩ := and2 h
              unfold dinC at h1
              split at h1
              · exact st_din o (ha.v o f l h3) (hb.v o f r h4) h2
              · exact st_dni o (ha.v o f l h3) (hb.v o f r h4) h2
              · cases h1
            | _ => exact nomatch h
          | _ => exact nomatch h
        | _ => exact nomatch h
      | _ => exact nomatch h
    | _ => exact nomatch h
theorem snd_dget {a b : E} (ha : Snd p a) (hb : Snd p b) : Snd p (.dget a b) := by
  refine Snd.plain (fun _ _ _ => rfl) (fun _ _ _ => rfl) (fun _ _ => rfl) (fun _ _ => rfl) (fun _ _ => rfl) (fun _ _ _ => rfl) (fun {G n g S X W} o f x h => ?_) (fun {G n g S X W} o f x h => ?_)
  · cases x with
    | Subscript x y pos =>
      have h : (noSlice y && ch p S false a x && ch p S false b y) = true := h
      obtain ⟨h, h3⟩ := and2 h
      obtain ⟨h1, h2⟩ := and2 h
      exact (sd_dget o (ha.v o f x h2) (hb.v o f y h3) h1)
    | _ => exact nomatch h
  · cases x with
    | Subscript x y pos =>
      have h : (noSlice y && ch p S false a x && ch p S false b y) = true := h
      obtain ⟨h, h3⟩ := and2 h
      obtain ⟨h1, h2⟩ := and2 h
      exact st_val (sd_dget o (ha.v o f x h2) (hb.v o f y h3) h1) rfl
    | _ => exact nomatch h
theorem snd_frz {a : E} (ha : Snd p a) : Snd p (.frz a) := by
  refine Snd.plain (fun _ _ _ => rfl) (fun _ _ _ => rfl) (fun _ _ => rfl) (fun _ _ => rfl) (fun _ _ => rfl) (fun _ _ _ => rfl) (fun {G n g S X W} o f x h => ?_) (fun {G n g S X W} o f x h => ?_)
  · have h : (!false && ch p S false a x) = true := h
    exact sd_frz (ha.v o f x (and2 h).2)
  · exact nomatch (show false = true from h)
theorem snd_rev {a : E} (ha : Snd p a) : Snd p (.rev a) := by
  refine Snd.plain (fun _ _ _ => rfl) (fun _ _ _ => rfl) (fun _ _ => rfl) (fun _ _ => rfl) (fun _ _ => rfl) (fun _ _ _ => rfl) (fun {G n g S X W} o f x h => ?_) (fun {G n g S X W} o f x h => ?_)
  · cases x with
    | Subscript x y pos =>
      cases y with
      | Slice l u st q =>
        cases l with
        | none =>
          cases u with
          | none =>
            cases st with
            | some st =>
              cases st with
              | UnaryOp op c p2 =>
                cases op with
                | USub =>
                  cases c with
                  | Constant cc k p1 =>
                    cases cc with
                    | int i =>
                      exact v_rev o f ha h
                    | _ => exact nomatch h
                  | _ => exact nomatch h
                | _ => exact nomatch h
              | _ => exact nomatch h
            | _ => exact nomatch h
          | _ => exact nomatch h
        | _ => exact nomatch h
      | _ => exact nomatch h
    | _ => exact nomatch h
  · cases x with
    | Subscript x y pos =>
      cases y with
      | Slice l u st q =>
        cases l with
        | none =>
          cases u with
          | none =>
            cases st with
            | some st =>
              cases st with
              | UnaryOp op c p2 =>
                cases op with
                | USub =>
                  cases c with
                  | Constant cc k p1 =>
                    cases cc with
                    | int i =>
                      exact st_val (v_rev o f ha h) rfl
                    | _ => exact nomatch h
                  | _ => exact nomatch h
                | _ => exact nomatch h
              | _ => exact nomatch h
            | _ => exact nomatch h
          | _ => exact nomatch h
        | _ => exact nomatch h
      | _ => exact nomatch h
    | _ => exact nomatch h
theorem snd_pop {i : Nat} {a : E} (ha : Snd p a) : Snd p (.pop i a) := by
  refine Snd.plain (fun _ _ _ => rfl) (fun _ _ _ => rfl) (fun _ _ => rfl) (fun _ _ => rfl) (fun _ _ => rfl) (fun _ _ _ => rfl) (fun {G n g S X W} o f x h => ?_) (fun {G n g S X W} o f x h => ?_)
  · cases x with
    | Call fe xs ks pos =>
      cases fe with
      | Attribute y m q =>
        cases y with
        | Name x q2 =>
          cases xs with
          | cons z xs =>
            cases xs with
            | nil =>
              cases ks with
              | nil =>
                exact v_pop o f ha h
              | _ => exact nomatch h
            | _ => exact nomatch h
          | _ => exact nomatch h
        | _ => exact nomatch h
      | _ => exact nomatch h
    | _ => exact nomatch h
  · cases x with
    | Call fe xs ks pos =>
      cases fe with
      | Attribute y m q =>
        cases y with
        | Name x q2 =>
          cases xs with
          | cons z xs =>
            cases xs with
            | nil =>
              cases ks with
              | nil =>
                exact st_val (v_pop o f ha h) rfl
              | _ => exact nomatch h
            | _ => exact nomatch h
          | _ => exact nomatch h
        | _ => exact nomatch h
      | _ => exact nomatch h
    | _ => exact nomatch h
theorem snd_lstr {es : E} (hp : Parts p es) : Snd p (.lstr es) := by
  refine Snd.plain (fun _ _ _ => rfl) (fun _ _ _ => rfl) (fun _ _ => rfl) (fun _ _ => rfl) (fun _ _ => rfl) (fun _ _ _ => rfl) (fun {G n g S X W} o f x h => ?_) (fun {G n g S X W} o f x h => ?_)
  · cases es with
    | cons a r =>
      cases r with
      | nil =>
        cases x with
        | Call fe xs ks pos =>
          cases fe with
          | Name x q =>
            cases xs with
            | cons y xs =>
              cases y with
              | Call fe2 zs ks2 q3 =>
                cases fe2 with
                | Name x2 q2 =>
                  cases zs with
                  | cons z zs =>
                    cases zs with
                    | nil =>
                      cases ks2 with
                      | nil =>
                        cases xs with
                        | nil =>
                          cases ks with
                          | nil =>
                            exact v_lstr o f hp.1 h
                          | _ => exact nomatch h
                        | _ => exact nomatch h
                      | _ => exact nomatch h
                    | _ => exact nomatch h
                  | _ => exact nomatch h
                | _ => exact nomatch h
              | _ => exact nomatch h
            | _ => exact nomatch h
          | _ => exact nomatch h
        | _ => exact nomatch h
      | _ => exact nomatch h
    | _ => exact nomatch h
  · cases es with
    | cons a r =>
      cases r with
      | nil =>
        cases x with
        | Call fe xs ks pos =>
          cases fe with
          | Name x q =>
            cases xs with
            | cons y xs =>
              cases y with
              | Call fe2 zs ks2 q3 =>
                cases fe2 with
                | Name x2 q2 =>
                  cases zs with
                  | cons z zs =>
                    cases zs with
                    | nil =>
                      cases ks2 with
                      | nil =>
                        cases xs with
                        | nil =>
                          cases ks with
                          | nil =>
                            exact st_val (v_lstr o f hp.1 h) rfl
                          | _ => exact nomatch h
                        | _ => exact nomatch h
                      | _ => exact nomatch h
                    | _ => exact nomatch h
                  | _ => exact nomatch h
                | _ => exact nomatch h
              | _ => exact nomatch h
            | _ => exact nomatch h
          | _ => exact nomatch h
        | _ => exact nomatch h
      | _ => exact nomatch h
    | _ => exact nomatch h
theorem snd_tupr {es : E} (hp : Parts p es) : Snd p (.tupr es) := by
  refine Snd.plain (fun _ _ _ => rfl) (fun _ _ _ => rfl) (fun _ _ => rfl) (fun _ _ => rfl) (fun _ _ => rfl) (fun _ _ _ => rfl) (fun {G n g S X W} o f x h => ?_) (fun {G n g S X W} o f x h => ?_)
  · cases es with
    | cons a r =>
      cases r with
      | nil =>
        cases x with
        | Call fe xs ks pos =>
          cases fe with
          | Name x q =>
            cases xs with
            | cons y xs =>
              cases y with
              | Call fe2 zs ks2 q3 =>
                cases fe2 with
                | Name x2 q2 =>
                  cases zs with
                  | cons z zs =>
                    cases zs with
                    | nil =>
                      cases ks2 with
                      | nil =>
                        cases xs with
                        | nil =>
                          cases ks with
                          | nil =>
                            exact v_tupr o f hp.1 h
                          | _ => exact nomatch h
                        | _ => exact nomatch h
                      | _ => exact nomatch h
                    | _ => exact nomatch h
                  | _ => exact nomatch h
                | _ => exact nomatch h
              | _ => exact nomatch h
            | _ => exact nomatch h
          | _ => exact nomatch h
        | _ => exact nomatch h
      | _ => exact nomatch h
    | _ => exact nomatch h
  · cases es with
    | cons a r =>
      cases r with
      | nil =>
        cases x with
        | Call fe xs ks pos =>
          cases fe with
          | Name x q =>
            cases xs with
            | cons y xs =>
              cases y with
              | Call fe2 zs ks2 q3 =>
                cases fe2 with
                | Name x2 q2 =>
                  cases zs with
                  | cons z zs =>
                    cases zs with
                    | nil =>
                      cases ks2 with
                      | nil =>
                        cases xs with
                        | nil =>
                          cases ks with
                          | nil =>
                            exact st_val (v_tupr o f hp.1 h) rfl
                          | _ => exact nomatch h
                        | _ => exact nomatch h
                      | _ => exact nomatch h
                    | _ => exact nomatch h
                  | _ => exact nomatch h
                | _ => exact nomatch h
              | _ => exact nomatch h
            | _ => exact nomatch h
          | _ => exact nomatch h
        | _ => exact nomatch h
      | _ => exact nomatch h
    | _ => exact nomatch h
theorem snd_oop {q : Ob} {a b : E} (ha : Snd p a) (hb : Snd p b) : Snd p (.oop q a b) := by
  refine Snd.plain (fun _ _ _ => rfl) (fun _ _ _ => rfl) (fun _ _ => rfl) (fun _ _ => rfl) (fun _ _ => rfl) (fun _ _ _ => rfl) (fun {G n g S X W} o f x h => ?_) (fun {G n g S X W} o f x h => ?_)
  · cases x with
    | Compare l ops cs pos =>
      cases ops with
      | cons op ops =>
        cases ops with
        | nil =>
          cases cs with
          | cons r cs =>
            cases cs with
            | nil =>
              have h : (obC q op && noSet r && ch p S false a l && ch p S false b r) = true := h
              obtain ⟨h, h4⟩ := and2 h
              obtain ⟨h, h3⟩ := and2 h
              obtain ⟨h1, h2⟩ := and2 h
              have e := obC_ok h1
              subst e
              exact sd_oop o (ha.v o f l h3) (hb.v o f r h4) h2
            | _ => exact nomatch h
          | _ => exact nomatch h
        | _ => exact nomatch h
      | _ => exact nomatch h
    | _ => exact nomatch h
  · cases x with
    | Compare l ops cs pos =>
      cases ops with
      | cons op ops =>
        cases ops with
        | nil =>
          cases cs with
          | cons r cs =>
            cases cs with
            | nil =>
              have h : (obC q op && noSet r && ch p S false a l && ch p S false b r) = true := h
              obtain ⟨h, h4⟩ := and2 h
              obtain ⟨h, h3⟩ := and2 h
              obtain ⟨h1, h2⟩ := and2 h
              have e := obC_ok h1
              subst e
              exact st_oop o (ha.v o f l h3) (hb.v o f r h4) h2
            | _ => exact nomatch h
          | _ => exact nomatch h
        | _ => exact nomatch h
      | _ => exact nomatch h
    | _ => exact nomatch h
theorem snd_cin {a es : E} (ha : Snd p a) (hb : Snd p es) : Snd p (.cin a es) := by
  refine Snd.plain (fun _ _ _ => rfl) (fun _ _ _ => rfl) (fun _ _ => rfl) (fun _ _ => rfl) (fun _ _ => rfl) (fun _ _ _ => rfl) (fun {G n g S X W} o f x h => ?_) (fun {G n g S X W} o f x h => ?_)
  · cases x with
    | Call fe xs ks pos =>
      cases xs with
      | cons z xs =>
        cases ks with
        | nil =>
          have h : (isNm fe && noStar z && xs.all noStar && ch p S false a fe && chA p S es (z :: xs)) = true := h
          obtain ⟨h, h5⟩ := and2 h
          obtain ⟨h, h4⟩ := and2 h
          obtain ⟨h, h3⟩ := and2 h
          obtain ⟨h1, h2⟩ := and2 h
          exact (sd_cin o (ha.v o f fe h4) (hb.a o f _ h5) h1 h2 h3)
        | _ => exact nomatch h
      | _ => exact nomatch h
    | _ => exact nomatch h
  · cases x with
    | Call fe xs ks pos =>
      cases xs with
      | cons z xs =>
        cases ks with
        | nil =>
          have h : (isNm fe && noStar z && xs.all noStar && ch p S false a fe && chA p S es (z :: xs)) = true := h
          obtain ⟨h, h5⟩ := and2 h
          obtain ⟨h, h4⟩ := and2 h
          obtain ⟨h, h3⟩ := and2 h
          obtain ⟨h1, h2⟩ := and2 h
          exact st_val (sd_cin o (ha.v o f fe h4) (hb.a o f _ h5) h1 h2 h3) (by cases fe <;> rfl)
        | _ => exact nomatch h
      | _ => exact nomatch h
    | _ => exact nomatch h
theorem snd_bm {m : Bm} {a b : E} (ha : Snd p a) (hb : Snd p b) : Snd p (.bm m a b) := by
  refine Snd.plain (fun _ _ _ => rfl) (fun _ _ _ => rfl) (fun _ _ => rfl) (fun _ _ => rfl) (fun _ _ => rfl) (fun _ _ _ => rfl) (fun {G n g S X W} o f x h => ?_) (fun {G n g S X W} o f x h => ?_)
  · cases x with
    | Call fe xs ks pos =>
      cases fe with
      | Attribute y nm q =>
        cases xs with
        | cons z xs =>
          cases xs with
          | nil =>
            cases ks with
            | nil =>
              have h : (decide (m.nm = nm) && bmOk m && noCall y && noStar z && (q.endLine == pos.line) && ch p S false a y && ch p S false b z) = true := h
              obtain ⟨h, h7⟩ := and2 h
              obtain ⟨h, h6⟩ := and2 h
              obtain ⟨h, h5⟩ := and2 h
              obtain ⟨h, h4⟩ := and2 h
              obtain ⟨h, h3⟩ := and2 h
              obtain ⟨h1, h2⟩ := and2 h
              exact (sd_bm o (of_decide_eq_true h1) h2 (ha.v o f y h6) (hb.v o f z h7) h4 h3 h5)
            | _ => exact nomatch h
          | _ => exact nomatch h
        | _ => exact nomatch h
      | _ => exact nomatch h
    | _ => exact nomatch h
  · cases x with
    | Call fe xs ks pos =>
      cases fe with
      | Attribute y nm q =>
        cases xs with
        | cons z xs =>
          cases xs with
          | nil =>
            cases ks with
            | nil =>
              have h : (decide (m.nm = nm) && bmOk m && noCall y && noStar z && (q.endLine == pos.line) && ch p S false a y && ch p S false b z) = true := h
              obtain ⟨h, h7⟩ := and2 h
              obtain ⟨h, h6⟩ := and2 h
              obtain ⟨h, h5⟩ := and2 h
              obtain ⟨h, h4⟩ := and2 h
              obtain ⟨h, h3⟩ := and2 h
              obtain ⟨h1, h2⟩ := and2 h
              exact st_val (sd_bm o (of_decide_eq_true h1) h2 (ha.v o f y h6) (hb.v o f z h7) h4 h3 h5) rfl
            | _ => exact nomatch h
          | _ => exact nomatch h
        | _ => exact nomatch h
      | _ => exact nomatch h
    | _ => exact nomatch h
end
end Wv
namespace Wv
open PySem L2
section
variable {p : Pg} {G : Cfg} {n : Nat} {g : Bool} {S : Sx} {X : Cx} {W : WX}
theorem and_tailV (o : XOk G p n g X W) (f : Fits S X) {b : E} (hb : Snd p b) {y : Expr} {r : List Expr} {pos : Pos} (h : (match r with
    | [] => ch p S false b y
    | _ :: _ => chAnd p S false b (y :: r)) = true) : PE X (.BoolOp .And (y :: r) pos) (tE G W (ev (prm p g n) b)) := by
  cases r with
  | nil => exact pe_one (hb.v o f y h)
  | cons z r => exact hb.andV o f _ pos h
theorem and_tailT (o : XOk G p n g X W) (f : Fits S X) {b : E} (hb : Snd p b) {y : Expr} {r : List Expr} {pos : Pos} (h : (match r with
    | [] => ch p S true b y
    | _ :: _ => chAnd p S true b (y :: r)) = true) : PW X (.BoolOp .And (y :: r) pos) (tT G W (tb (ev (prm p g n) b))) := by
  cases r with
  | nil => exact pw_and1 (hb.t o f y h)
  | cons z r => exact hb.andT o f _ pos h
theorem or_tailV (o : XOk G p n g X W) (f : Fits S X) {b : E} (hb : Snd p b) {y : Expr} {r : List Expr} {pos : Pos} (h : (match r with
    | [] => ch p S false b y
    | _ :: _ => chOr p S false b (y :: r)) = true) : PE X (.BoolOp .Or (y :: r) pos) (tE G W (ev (prm p g n) b)) := by
  cases r with
  | nil => exact pe_one (hb.v o f y h)
  | cons z r => exact hb.orV o f _ pos h
theorem or_tailT (o : XOk G p n g X W) (f : Fits S X) {b : E} (hb : Snd p b) {y : Expr} {r : List Expr} {pos : Pos} (h : (match r with
    | [] => ch p S true b y
    | _ :: _ => chOr p S true b (y :: r)) = true) : PW X (.BoolOp .Or (y :: r) pos) (tT G W (tb (ev (prm p g n) b))) := by
  cases r with
  | nil => exact pw_or1 (hb.t o f y h)
  | cons z r => exact hb.orT o f _ pos h
theorem snd_and {a b : E} (ha : Snd p a) (hb : Snd p b) : Snd p (.and a b) := by
  have av : ∀ {G : Cfg} {n : Nat} {g : Bool} {S : Sx} {X : Cx} {W : WX} (o : XOk G p n g X W) (f : Fits S X) (xs : List Expr) (pos : Pos), chAnd p S false (.and a b) xs = true → PE X (.BoolOp .And xs pos) (tE G W (ev (prm p g n) (.and a b))) := fun {G n g S X W} o f xs pos h => by
    cases xs with
    | nil => exact nomatch h
    | cons x xs =>
      cases xs with
      | nil => exact nomatch h
      | cons y r =>
        obtain ⟨h1, h2⟩ := and2 h
        exact sd_and (ha.v o f x h1) (and_tailV o f hb h2)
  have at_ : ∀ {G : Cfg} {n : Nat} {g : Bool} {S : Sx} {X : Cx} {W : WX} (o : XOk G p n g X W) (f : Fits S X) (xs : List Expr) (pos : Pos), chAnd p S true (.and a b) xs = true → PW X (.BoolOp .And xs pos) (tT G W (tb (ev (prm p g n) (.and a b)))) := fun {G n g S X W} o f xs pos h => by
    cases xs with
    | nil => exact nomatch h
    | cons x xs =>
      cases xs with
      | nil => exact nomatch h
      | cons y r =>
        obtain ⟨h1, h2⟩ := and2 h
        exact st_and (ha.t o f x h1) (and_tailT o f hb h2)
  refine { v := ?_, t := ?_, andV := av, andT := at_, orV := fun o f xs pos h => (nomatch h), orT := fun o f xs pos h => (nomatch h), a := fun o f xs h => (nomatch h), tt := fun o f xs h => (nomatch h), pp := fun o f x h => (nomatch h), i := fun o f t x h => (nomatch h) }
  · intro G n g S X W o f x h
    cases x with
    | BoolOp op xs pos =>
      cases op with
      | And =>
        cases xs with
        | nil => exact nomatch h
        | cons x xs =>
          cases xs with
          | nil => exact nomatch h
          | cons y r => exact av o f _ pos h
      | _ => exact nomatch h
    | _ => exact nomatch h
  · intro G n g S X W o f x h
    cases x with
    | BoolOp op xs pos =>
      cases op with
      | And =>
        cases xs with
        | nil => exact nomatch h
        | cons x xs =>
          cases xs with
          | nil => exact nomatch h
          | cons y r => exact st_wh (at_ o f _ pos h)
      | _ => exact nomatch h
    | _ => exact nomatch h
theorem snd_or {a b : E} (ha : Snd p a) (hb : Snd p b) : Snd p (.or a b) := by
  have av : ∀ {G : Cfg} {n : Nat} {g : Bool} {S : Sx} {X : Cx} {W : WX} (o : XOk G p n g X W) (f : Fits S X) (xs : List Expr) (pos : Pos), chOr p S false (.or a b) xs = true → PE X (.BoolOp .Or xs pos) (tE G W (ev (prm p g n) (.or a b))) := fun {G n g S X W} o f xs pos h => by
    cases xs with
    | nil => exact nomatch h
    | cons x xs =>
      cases xs with
      | nil => exact nomatch h
      | cons y r =>
        obtain ⟨h1, h2⟩ := and2 h
        exact sd_or (ha.v o f x h1) (or_tailV o f hb h2)
  have at_ : ∀ {G : Cfg} {n : Nat} {g : Bool} {S : Sx} {X : Cx} {W : WX} (o : XOk G p n g X W) (f : Fits S X) (xs : List Expr) (pos : Pos), chOr p S true (.or a b) xs = true → PW X (.BoolOp .Or xs pos) (tT G W (tb (ev (prm p g n) (.or a b)))) := fun {G n g S X W} o f xs pos h => by
    cases xs with
    | nil => exact nomatch h
    | cons x xs =>
      cases xs with
      | nil => exact nomatch h
      | cons y r =>
        obtain ⟨h1, h2⟩ := and2 h
        exact st_or (ha.t o f x h1) (or_tailT o f hb h2)
  refine { v := ?_, t := ?_, orV := av, orT := at_, andV := fun o f xs pos h => (nomatch h), andT := fun o f xs pos h => (nomatch h), a := fun o f xs h => (nomatch h), tt := fun o f xs h => (nomatch h), pp := fun o f x h => (nomatch h), i := fun o f t x h => (nomatch h) }
  · intro G n g S X W o f x h
    cases x with
    | BoolOp op xs pos =>
      cases op with
      | Or =>
        cases xs with
        | nil => exact nomatch h
        | cons x xs =>
          cases xs with
          | nil => exact nomatch h
          | cons y r => exact av o f _ pos h
      | _ => exact nomatch h
    | _ => exact nomatch h
  · intro G n g S X W o f x h
    cases x with
    | BoolOp op xs pos =>
      cases op with
      | Or =>
        cases xs with
        | nil => exact nomatch h
        | cons x xs =>
          cases xs with
          | nil => exact nomatch h
          | cons y r => exact st_wh (at_ o f _ pos h)
      | _ => exact nomatch h
    | _ => exact nomatch h
theorem snd_nil : Snd p .nil :=
  { v := fun o f x h => (nomatch h), t := fun o f x h => (nomatch h), andV := fun o f xs pos h => (nomatch h), andT := fun o f xs pos h => (nomatch h), orV := fun o f xs pos h => (nomatch h), orT := fun o f xs pos h => (nomatch h)
    a := fun o f xs h => by
      cases xs with
      | nil => exact sa_nil _
      | cons x xs => exact nomatch h
    tt := fun o f xs h => by
      cases xs with
      | nil => exact pts_yes
      | cons x xs => exact nomatch h
    pp := fun o f x h => by
      cases x with
      | none => exact so_nil _
      | some x => exact nomatch h
    i := fun o f t x h => (nomatch h) }
theorem snd_cons {a r : E} (ha : Snd p a) (hr : Snd p r) : Snd p (.cons a r) :=
  { v := fun o f x h => (nomatch h), t := fun o f x h => (nomatch h), andV := fun o f xs pos h => (nomatch h), andT := fun o f xs pos h => (nomatch h), orV := fun o f xs pos h => (nomatch h), orT := fun o f xs pos h => (nomatch h)
    a := fun {G n g S X W} o f xs h => by
      cases xs with
      | nil => exact nomatch h
      | cons x xs =>
        have h : (noStar x && ch p S false a x && chA p S r xs) = true := h
        obtain ⟨h, h3⟩ := and2 h
        obtain ⟨h1, h2⟩ := and2 h
        exact sa_cons (ha.v o f x h2) (hr.a o f xs h3) h1
    tt := fun {G n g S X W} o f xs h => by
      cases r with
      | nil =>
        cases xs with
        | nil => exact nomatch h
        | cons x xs =>
          cases xs with
          | nil => exact pts_one (ha.t o f x h)
          | cons y xs => exact nomatch h
      | _ => exact nomatch h
    pp := fun {G n g S X W} o f x h => by
      cases r with
      | nil =>
        cases x with
        | none => exact nomatch h
        | some x => exact so_one (ha.v o f x h)
      | _ => exact nomatch h
    i := fun {G n g S X W} o f t x h => by
      cases r with
      | nil => exact si_seq o (ha.v o f x h)
      | _ => exact nomatch h }
theorem snd_sta {a r : E} (ha : Snd p a) (hr : Snd p r) : Snd p (.sta a r) :=
  { v := fun o f x h => (nomatch h), t := fun o f x h => (nomatch h), andV := fun o f xs pos h => (nomatch h), andT := fun o f xs pos h => (nomatch h), orV := fun o f xs pos h => (nomatch h), orT := fun o f xs pos h => (nomatch h)
    a := fun {G n g S X W} o f xs h => by
      cases xs with
      | nil => exact nomatch h
      | cons x xs =>
        cases x with
        | Starred y q =>
          have h : (ch p S false a y && chA p S r xs) = true := h
          obtain ⟨h1, h2⟩ := and2 h
          exact sa_star o (ha.v o f y h1) (hr.a o f xs h2)
        | _ => exact nomatch h
    tt := fun o f xs h => (nomatch h), pp := fun o f x h => (nomatch h), i := fun o f t x h => (nomatch h) }
/-- only an iterable -/
theorem Snd.iter {e : E} (h1 : ∀ S t xs, chAnd p S t e xs = false) (h2 : ∀ S t xs, chOr p S t e xs = false) (h3 : ∀ S xs, chA p S e xs = false) (h4 : ∀ S xs, chTt p S e xs = false) (h5 : ∀ S x, chP p S e x = false) (h6 : ∀ S t x, ch p S t e x = false)
    (i : ∀ {G : Cfg} {n : Nat} {g : Bool} {S : Sx} {X : Cx} {W : WX} (o : XOk G p n g X W) (f : Fits S X) (tg x : Expr), chI p S e tg x = true → PI X tg x (tI G W (evX (prm p g n) e))) : Snd p e :=
  { v := fun o f x h => absurd h (by rw [h6]; decide)
    t := fun o f x h => absurd h (by rw [h6]; decide)
    andV := fun o f xs pos h => absurd h (by rw [h1]; decide)
    andT := fun o f xs pos h => absurd h (by rw [h1]; decide)
    orV := fun o f xs pos h => absurd h (by rw [h2]; decide)
    orT := fun o f xs pos h => absurd h (by rw [h2]; decide)
    a := fun o f xs h => absurd h (by rw [h3]; decide)
    tt := fun o f xs h => absurd h (by rw [h4]; decide)
    pp := fun o f x h => absurd h (by rw [h5]; decide)
    i := i }
theorem i_rng1 (o : XOk G p n g X W) (f : Fits S X) {a : E} (ha : Snd p a) {tg x : Expr} {fn : Str} {q pos : Pos} (h : (decide (fn = "range") && glC S.sc fn && noStar x && ch p S false a x) = true) : PI X tg (.Call (.Name fn q) [x] [] pos) (tI G W (evX (prm p g n) (.rng (.cons a .nil)))) := by
  obtain ⟨h, h4⟩ := and2 h
  obtain ⟨h, h3⟩ := and2 h
  obtain ⟨h1, h2⟩ := and2 h
  have e := of_decide_eq_true h1
  subst e
  exact si_rng1 o (glC_ok f.sc h2) (ha.v o f x h4) h3
theorem i_rng2 (o : XOk G p n g X W) (f : Fits S X) {a b : E} (ha : Snd p a) (hb : Snd p b) {tg x y : Expr} {fn : Str} {q pos : Pos} (h : (decide (fn = "range") && glC S.sc fn && noStar x && noStar y && ch p S false a x && ch p S false b y) = true) : PI X tg (.Call (.Name fn q) [x, y] [] pos) (tI G W (evX (prm p g n) (.rng (.cons a (.cons b .nil))))) := by
  obtain ⟨h, h6⟩ := and2 h
  obtain ⟨h, h5⟩ := and2 h
  obtain ⟨h, h4⟩ := and2 h
  obtain ⟨h, h3⟩ := and2 h
  obtain ⟨h1, h2⟩ := and2 h
  have e := of_decide_eq_true h1
  subst e
  exact si_rng2 o (glC_ok f.sc h2) (ha.v o f x h5) (hb.v o f y h6) h3 h4
theorem i_zip2 (o : XOk G p n g X W) (f : Fits S X) {a b : E} (ha : Snd p a) (hb : Snd p b) {ts : List Expr} {k : Nat} {tp : Pos} {x y : Expr} {fn : Str} {q pos : Pos} (h : (decide (fn = "zip") && glC S.sc fn && noStar x && noStar y && ch p S false a x && ch p S false b y) = true) : PI X (.Tuple ts k tp) (.Call (.Name fn q) [x, y] [] pos) (tI G W (evX (prm p g n) (.zip (.cons a (.cons b .nil))))) := by
  obtain ⟨h, h6⟩ := and2 h
  obtain ⟨h, h5⟩ := and2 h
  obtain ⟨h, h4⟩ := and2 h
  obtain ⟨h, h3⟩ := and2 h
  obtain ⟨h1, h2⟩ := and2 h
  have e := of_decide_eq_true h1
  subst e
  exact si_zip2 o (glC_ok f.sc h2) (ha.v o f x h5) (hb.v o f y h6) h3 h4
theorem i_zip3 (o : XOk G p n g X W) (f : Fits S X) {a b c : E} (ha : Snd p a) (hb : Snd p b) (hc : Snd p c) {ts : List Expr} {k : Nat} {tp : Pos} {x y z : Expr} {fn : Str} {q pos : Pos} (h : (decide (fn = "zip") && glC S.sc fn && noStar x && noStar y && noStar z && ch p S false a x && ch p S false b y && ch p S false c z) = true) : PI X (.Tuple ts k tp) (.Call (.Name fn q) [x, y, z] [] pos) (tI G W (evX (prm p g n) (.zip (.cons a (.cons b (.cons c .nil)))))) := by
  obtain ⟨h, h8⟩ := and2 h
  obtain ⟨h, h7⟩ := and2 h
  obtain ⟨h, h6⟩ := and2 h
  obtain ⟨h, h5⟩ := and2 h
  obtain ⟨h, h4⟩ := and2 h
  obtain ⟨h, h3⟩ := and2 h
  obtain ⟨h1, h2⟩ := and2 h
  have e := of_decide_eq_true h1
  subst e
  exact si_zip3 o (glC_ok f.sc h2) (ha.v o f x h6) (hb.v o f y h7) (hc.v o f z h8) h3 h4 h5
theorem i_zip3n (o : XOk G p n g X W) (f : Fits S X) {a b c : E} (ha : Snd p a) (hb : Snd p b) (hc : Snd p c) {nx : Str} {np : Pos} {x y z : Expr} {fn : Str} {q pos : Pos} (h : (decide (fn = "zip") && glC S.sc fn && noStar x && noStar y && noStar z && ch p S false a x && ch p S false b y && ch p S false c z) = true) : PI X (.Name nx np) (.Call (.Name fn q) [x, y, z] [] pos) (tI G W (evX (prm p g n) (.zip (.cons a (.cons b (.cons c .nil)))))) := by
  obtain ⟨h, h8⟩ := and2 h
  obtain ⟨h, h7⟩ := and2 h
  obtain ⟨h, h6⟩ := and2 h
  obtain ⟨h, h5⟩ := and2 h
  obtain ⟨h, h4⟩ := and2 h
  obtain ⟨h, h3⟩ := and2 h
  obtain ⟨h1, h2⟩ := and2 h
  have e := of_decide_eq_true h1
  subst e
  exact si_zip3n o (glC_ok f.sc h2) (ha.v o f x h6) (hb.v o f y h7) (hc.v o f z h8) h3 h4 h5
theorem i_enu (o : XOk G p n g X W) (f : Fits S X) {a : E} (ha : Snd p a) {ts : List Expr} {k : Nat} {tp : Pos} {x : Expr} {fn : Str} {q pos : Pos} (h : (decide (fn = "enumerate") && glC S.sc fn && noStar x && ch p S false a x) = true) : PI X (.Tuple ts k tp) (.Call (.Name fn q) [x] [] pos) (tI G W (evX (prm p g n) (.enu a))) := by
  obtain ⟨h, h4⟩ := and2 h
  obtain ⟨h, h3⟩ := and2 h
  obtain ⟨h1, h2⟩ := and2 h
  have e := of_decide_eq_true h1
  subst e
  exact si_enu o (glC_ok f.sc h2) (ha.v o f x h4) h3
theorem snd_rng {es : E} (hp : Parts p es) : Snd p (.rng es) := Snd.iter (fun _ _ _ => rfl) (fun _ _ _ => rfl) (fun _ _ => rfl) (fun _ _ => rfl) (fun _ _ => rfl) (fun _ _ _ => rfl) fun {G n g S X W} o f tg x h => by
  cases es with
  | cons a r =>
    cases r with
    | nil =>
      cases x with
      | Call fe xs ks pos =>
        cases fe with
        | Name fn q =>
          cases xs with
          | nil => exact nomatch h
          | cons x xs =>
            cases xs with
            | nil =>
              cases ks with
              | nil => exact i_rng1 o f hp.1 h
              | cons _ _ => exact nomatch h
            | cons _ _ => exact nomatch h
        | _ => exact nomatch h
      | _ => exact nomatch h
    | cons b r =>
      cases r with
      | nil =>
        cases x with
        | Call fe xs ks pos =>
          cases fe with
          | Name fn q =>
            cases xs with
            | nil => exact nomatch h
            | cons x xs =>
              cases xs with
              | nil => exact nomatch h
              | cons y xs =>
                cases xs with
                | nil =>
                  cases ks with
                  | nil => exact i_rng2 o f hp.1 hp.2.1 h
                  | cons _ _ => exact nomatch h
                | cons _ _ => exact nomatch h
          | _ => exact nomatch h
        | _ => exact nomatch h
      | _ => exact nomatch h
    | _ => exact nomatch h
  | _ => exact nomatch h
theorem snd_enu {a : E} (ha : Snd p a) : Snd p (.enu a) := Snd.iter (fun _ _ _ => rfl) (fun _ _ _ => rfl) (fun _ _ => rfl) (fun _ _ => rfl) (fun _ _ => rfl) (fun _ _ _ => rfl) fun {G n g S X W} o f tg x h => by
  cases tg with
  | Tuple ts k tp =>
    cases x with
    | Call fe xs ks pos =>
      cases fe with
      | Name fn q =>
        cases xs with
        | nil => exact nomatch h
        | cons x xs =>
          cases xs with
          | nil =>
            cases ks with
            | nil => exact i_enu o f ha h
            | cons _ _ => exact nomatch h
          | cons _ _ => exact nomatch h
      | _ => exact nomatch h
    | _ => exact nomatch h
  | _ => exact nomatch h
theorem snd_zip {es : E} (hp : Parts p es) : Snd p (.zip es) := Snd.iter (fun _ _ _ => rfl) (fun _ _ _ => rfl) (fun _ _ => rfl) (fun _ _ => rfl) (fun _ _ => rfl) (fun _ _ _ => rfl) fun {G n g S X W} o f tg x h => by
  cases es with
  | cons a r =>
    cases r with
    | cons b r =>
      cases r with
      | nil =>
        cases tg with
        | Tuple ts k tp =>
          cases x with
          | Call fe xs ks pos =>
            cases fe with
            | Name fn q =>
              cases xs with
              | nil => exact nomatch h
              | cons x xs =>
                cases xs with
                | nil => exact nomatch h
                | cons y xs =>
                  cases xs with
                  | nil =>
                    cases ks with
                    | nil => exact i_zip2 o f hp.1 hp.2.1 h
                    | cons _ _ => exact nomatch h
                  | cons _ _ => exact nomatch h
            | _ => exact nomatch h
          | _ => exact nomatch h
        | _ => exact nomatch h
      | cons c r =>
        cases r with
        | nil =>
          cases tg with
          | Tuple ts k tp =>
            cases x with
            | Call fe xs ks pos =>
              cases fe with
              | Name fn q =>
                cases xs with
                | nil => exact nomatch h
                | cons x xs =>
                  cases xs with
                  | nil => exact nomatch h
                  | cons y xs =>
                    cases xs with
                    | nil => exact nomatch h
                    | cons z xs =>
                      cases xs with
                      | nil =>
                        cases ks with
                        | nil => exact i_zip3 o f hp.1 hp.2.1 hp.2.2.1 h
                        | cons _ _ => exact nomatch h
                      | cons _ _ => exact nomatch h
              | _ => exact nomatch h
            | _ => exact nomatch h
          | Name nx np =>
            cases x with
            | Call fe xs ks pos =>
              cases fe with
              | Name fn q =>
                cases xs with
                | nil => exact nomatch h
                | cons x xs =>
                  cases xs with
                  | nil => exact nomatch h
                  | cons y xs =>
                    cases xs with
                    | nil => exact nomatch h
                    | cons z xs =>
                      cases xs with
                      | nil =>
                        cases ks with
                        | nil => exact i_zip3n o f hp.1 hp.2.1 hp.2.2.1 h
                        | cons _ _ => exact nomatch h
                      | cons _ _ => exact nomatch h
              | _ => exact nomatch h
            | _ => exact nomatch h
          | _ => exact nomatch h
        | _ => exact nomatch h
      | _ => exact nomatch h
    | _ => exact nomatch h
  | _ => exact nomatch h

theorem Fits.blk {scope : Scope} (f : Fits S X) (s : Shared) (H : Hp) (C : Addr) (cl : List (Str × Addr)) (fp : List Addr) : Fits (S.blk scope) (X.blk s H scope (compEnvC scope cl C X.env) fp) := by
  refine ⟨f.N, ?_, fun x h => ?_⟩
  · show relabel scope X.env = relS scope S.sc
    rw [← f.sc]
    rfl
  · have h : (match scope.names.lookup x with
      | some .local => true
      | some .cell => true
      | _ => false) = true := h
    show Loc (relabel scope X.env) x ∧ ((scope.names.lookup x == some .cell) = true ∨ (relabel scope X.env).names.lookup x = some .local)
    split at h
    · rename_i e
      have z : (relabel scope X.env).names.lookup x = some .local := lookup_relS_keep (sc := X.env.scope) (by decide) e
      exact ⟨.inl z, .inr z⟩
    · rename_i e
      have z : (relabel scope X.env).names.lookup x = some .cell := lookup_relS_keep (sc := X.env.scope) (by decide) e
      exact ⟨.inr z, .inl (by rw [e]; rfl)⟩
    · cases h
theorem XOk.blk {scope : Scope} (o : XOk G p n g X W) (s : Shared) (H : Hp) (C : Addr) (cl : List (Str × Addr)) (fp : List Addr) : XOk G p n g (X.blk s H scope (compEnvC scope cl C X.env) fp) WN :=
  ⟨o.pg, o.K, o.mg, o.calm, o.nd, fun u s' h => by
    obtain ⟨_, _, _, _, _, _, _, _, _, _, _, _, _, _, _, _, w⟩ := h
    exact w.elim, o.room, o.gd, o.fn, o.make, o.gen, o.fnF⟩
theorem tg_nms (f : Fits S X) : ∀ (is : List Nat) (es : List Expr), tgC.go S is es = true → tgNames X is es := fun is => by
  induction is with
  | nil =>
    intro es h
    cases es with
    | nil => trivial
    | cons _ _ => exact nomatch h
  | cons i is ih =>
    intro es h
    cases es with
    | nil => exact nomatch h
    | cons e es =>
      cases e with
      | Name x q =>
        have h : (decide (S.N[i]? = some x) && S.st x && tgC.go S is es) = true := h
        obtain ⟨h, h3⟩ := and2 h
        obtain ⟨h1, h2⟩ := and2 h
        obtain ⟨q1, q2⟩ := f.st x h2
        exact ⟨by rw [f.N]; exact of_decide_eq_true h1, q1, q2, ih es h3⟩
      | _ => exact nomatch h
theorem tgs_ok (f : Fits S X) : ∀ (is : List Nat) (es : List Expr), tgC.go S is es = true → tgNames X is es := fun is => by
  induction is with
  | nil =>
    intro es h
    cases es with
    | nil => trivial
    | cons _ _ => exact nomatch h
  | cons i is ih =>
    intro es h
    cases es with
    | nil => exact nomatch h
    | cons e es =>
      cases e with
      | Name x q =>
        have h : (decide (S.N[i]? = some x) && S.st x && tgC.go S is es) = true := h
        obtain ⟨h, h3⟩ := and2 h
        obtain ⟨h1, h2⟩ := and2 h
        obtain ⟨q1, q2⟩ := f.st x h2
        exact ⟨by rw [f.N]; exact of_decide_eq_true h1, q1, q2, ih es h3⟩
      | _ => exact nomatch h
theorem tg_ok (o : XOk G p n g X W) (f : Fits S X) {tg : Tg} {e : Expr} (h : tgC S tg e = true) : PG X e (gT G tg) := by
  cases tg with
  | n i =>
    cases e with
    | Name x q =>
      have h : (decide (S.N[i]? = some x) && S.st x) = true := h
      obtain ⟨h1, h2⟩ := and2 h
      obtain ⟨q1, q2⟩ := f.st x h2
      exact sg_name o.nd (by rw [f.N]; exact of_decide_eq_true h1) q1 q2
    | _ => exact nomatch h
  | t is =>
    cases e with
    | Tuple es k q => exact sg_tup o (tgs_ok f is es h)
    | _ => exact nomatch h
  | q i is =>
    unfold tgC at h
    split at h
    · rename_i z
      cases z
    · rename_i z
      cases z
    · rename_i z
      cases z
      obtain ⟨h, h3⟩ := and2 h
      obtain ⟨h1, h2⟩ := and2 h
      obtain ⟨q1, q2⟩ := f.st _ h2
      exact sg_nest o (by rw [f.N]; exact of_decide_eq_true h1) q1 q2 (tgs_ok f _ _ h3)
    · cases h
theorem own_map {own : List Nat} {N : List Str} : (own.map fun i => (N.getD i "", i)).map (·.2) = own := by
  rw [List.map_map]
  exact List.map_id _
/-- what sd_com asks -/
theorem com_ok (o : XOk G p n g X W) (f : Fits S X) {own : List Nat} {tg : Tg} {it tt el : E} {z tgE iter : Expr} {ifs : List Expr} {scope : Scope} (hi : Snd p it) (ht : Snd p tt) (he : Snd p el) (h : comC p S own tg it tt el z tgE iter ifs scope = true) :
    noSet iter = true ∧ BlkOk X.N X.env.scope scope (own.map fun i => (S.N.getD i "", i)) ∧ (∀ i ∈ tg.ix, i ∈ (own.map fun i => (S.N.getD i "", i)).map (·.2)) ∧ PI X tgE iter (tI G W (evX (prm p g n) it)) ∧
    (∀ (s : Shared) (H : Hp) (C : Addr) (cl : List (Str × Addr)) (fp : List Addr), PG (X.blk s H scope (compEnvC scope cl C X.env) fp) tgE (gT G tg)) ∧
    (∀ (s : Shared) (H : Hp) (C : Addr) (cl : List (Str × Addr)) (fp : List Addr), PTs (X.blk s H scope (compEnvC scope cl C X.env) fp) ifs (tT G WN (evt (prm p g n) tt))) ∧
    (∀ (s : Shared) (H : Hp) (C : Addr) (cl : List (Str × Addr)) (fp : List Addr), PE (X.blk s H scope (compEnvC scope cl C X.env) fp) z (tE G WN (ev (prm p g n) el))) := by
  unfold comC at h
  obtain ⟨h, h7⟩ := and2 h
  obtain ⟨h, h6⟩ := and2 h
  obtain ⟨h, h5⟩ := and2 h
  obtain ⟨h, h4⟩ := and2 h
  obtain ⟨h, h3⟩ := and2 h
  obtain ⟨h1, h2⟩ := and2 h
  refine ⟨h1, blkOk_by (by rw [f.N, f.sc]; exact h2), fun i hi => ?_, hi.i o f tgE iter h5, fun s H C cl fp => tg_ok (o.blk s H C cl fp) (f.blk s H C cl fp) h4, fun s H C cl fp => ht.tt (o.blk s H C cl fp) (f.blk s H C cl fp) ifs h6, fun s H C cl fp => he.v (o.blk s H C cl fp) (f.blk s H C cl fp) z h7⟩
  rw [own_map]
  exact List.contains_iff_mem.mp (List.all_eq_true.mp h3 i hi)
theorem snd_com {own : List Nat} {tg : Tg} {it tt el : E} (hi : Snd p it) (ht : Snd p tt) (he : Snd p el) : Snd p (.com own tg it tt el) := by
  refine Snd.plain (fun _ _ _ => rfl) (fun _ _ _ => rfl) (fun _ _ => rfl) (fun _ _ => rfl) (fun _ _ => rfl) (fun _ _ _ => rfl) (fun {G n g S X W} o f x h => ?_) (fun {G n g S X W} o f x h => ?_)
  · cases x with
    | ListComp z gs scope pos =>
      cases gs with
      | nil => exact nomatch h
      | cons gn gs =>
        cases gs with
        | cons _ _ => cases gn; exact nomatch h
        | nil =>
          cases gn with
          | mk tgE iter ifs as =>
            have h : (!false && decide (as = 0) && noSet iter && blkC S.N S.sc scope (own.map fun i => (S.N.getD i "", i)) && (tg.ix.all fun i => own.contains i) && tgC (S.blk scope) tg tgE && chI p S it tgE iter && chTt p (S.blk scope) tt ifs && ch p (S.blk scope) false el z) = true := h
            have h0 : as = 0 := by
              simp only [Bool.and_eq_true, decide_eq_true_eq] at h
              exact h.1.1.1.1.1.1.1.2
            subst h0
            have h1 : comC p S own tg it tt el z tgE iter ifs scope = true := by
              unfold comC
              simpa using h
            obtain ⟨q1, q2, q3, q4, q5, q6, q7⟩ := com_ok o f hi ht he h1
            have q := sd_com (pos := pos) o q3 q4 q2 q5 q6 q7 q1
            rw [own_map] at q
            exact q
    | _ => exact nomatch h
  · cases x with
    | ListComp z gs scope pos =>
      cases gs with
      | nil => exact nomatch h
      | cons gn gs =>
        cases gs with
        | cons _ _ => cases gn; exact nomatch h
        | nil => cases gn; exact nomatch (show false = true from h)
    | _ => exact nomatch h
/-- what sd_co2 asks -/
structure Co2Ok (p : Pg) (G : Cfg) (n : Nat) (g : Bool) (X : Cx) (W : WX) (ownL : List (Str × Nat)) (tg : Tg) (it : E) (own1 : List Nat) (tg1 : Tg) (it1 tt el : E) (z tgE iter tgE1 iter1 : Expr) (ifs1 : List Expr) (scope : Scope) : Prop where
  a1 : noSet iter = true
  a2 : noSet iter1 = true
  a3 : BlkOk X.N X.env.scope scope ownL
  a4 : ∀ i ∈ tg.ix, i ∈ ownL.map (·.2)
  a5 : ∀ i ∈ tg1.ix, i ∈ own1
  a6 : ∀ i ∈ own1, i ∈ ownL.map (·.2)
  a7 : PI X tgE iter (tI G W (evX (prm p g n) it))
  a8 : ∀ (s : Shared) (H : Hp) (C : Addr) (cl : List (Str × Addr)) (fp : List Addr), PG (X.blk s H scope (compEnvC scope cl C X.env) fp) tgE (gT G tg)
  a9 : ∀ (s : Shared) (H : Hp) (C : Addr) (cl : List (Str × Addr)) (fp : List Addr), PI (X.blk s H scope (compEnvC scope cl C X.env) fp) tgE1 iter1 (tI G WN (evX (prm p g n) it1))
  a10 : ∀ (s : Shared) (H : Hp) (C : Addr) (cl : List (Str × Addr)) (fp : List Addr), PG (X.blk s H scope (compEnvC scope cl C X.env) fp) tgE1 (gT G tg1)
  a11 : ∀ (s : Shared) (H : Hp) (C : Addr) (cl : List (Str × Addr)) (fp : List Addr), PTs (X.blk s H scope (compEnvC scope cl C X.env) fp) ifs1 (tT G WN (evt (prm p g n) tt))
  a12 : ∀ (s : Shared) (H : Hp) (C : Addr) (cl : List (Str × Addr)) (fp : List Addr), PE (X.blk s H scope (compEnvC scope cl C X.env) fp) z (tE G WN (ev (prm p g n) el))
theorem co2_ok (o : XOk G p n g X W) (f : Fits S X) {own own1 : List Nat} {tg tg1 : Tg} {it it1 tt el : E} {z tgE iter tgE1 iter1 : Expr} {ifs1 : List Expr} {scope : Scope} (hi : Snd p it) (hi1 : Snd p it1) (ht : Snd p tt) (he : Snd p el) (h : co2C p S own tg it own1 tg1 it1 tt el z tgE iter tgE1 iter1 ifs1 scope = true) :
    Co2Ok p G n g X W (own.map fun i => (S.N.getD i "", i)) tg it own1 tg1 it1 tt el z tgE iter tgE1 iter1 ifs1 scope := by
  unfold co2C at h
  obtain ⟨h, h12⟩ := and2 h
  obtain ⟨h, h11⟩ := and2 h
  obtain ⟨h, h10⟩ := and2 h
  obtain ⟨h, h9⟩ := and2 h
  obtain ⟨h, h8⟩ := and2 h
  obtain ⟨h, h7⟩ := and2 h
  obtain ⟨h, h6⟩ := and2 h
  obtain ⟨h, h5⟩ := and2 h
  obtain ⟨h, h4⟩ := and2 h
  obtain ⟨h, h3⟩ := and2 h
  obtain ⟨h1, h2⟩ := and2 h
  refine { a1 := h1, a2 := h2, a3 := blkOk_by (by rw [f.N, f.sc]; exact h3), a4 := fun i hi => ?_, a5 := fun i hi => List.contains_iff_mem.mp (List.all_eq_true.mp h5 i hi), a6 := fun i hi => ?_, a7 := hi.i o f tgE iter h9, a8 := fun s H C cl fp => tg_ok (o.blk s H C cl fp) (f.blk s H C cl fp) h7, a9 := fun s H C cl fp => hi1.i (o.blk s H C cl fp) (f.blk s H C cl fp) tgE1 iter1 h10, a10 := fun s H C cl fp => tg_ok (o.blk s H C cl fp) (f.blk s H C cl fp) h8, a11 := fun s H C cl fp => ht.tt (o.blk s H C cl fp) (f.blk s H C cl fp) ifs1 h11, a12 := fun s H C cl fp => he.v (o.blk s H C cl fp) (f.blk s H C cl fp) z h12 }
  · rw [own_map]
    exact List.contains_iff_mem.mp (List.all_eq_true.mp h4 i hi)
  · rw [own_map]
    exact List.contains_iff_mem.mp (List.all_eq_true.mp h6 i hi)
theorem snd_co2 {own own1 : List Nat} {tg tg1 : Tg} {it it1 tt el : E} (hi : Snd p it) (hi1 : Snd p it1) (ht : Snd p tt) (he : Snd p el) : Snd p (.co2 own tg it own1 tg1 it1 tt el) := by
  have key : ∀ {S : Sx} {t : Bool} {x : Expr}, ch p S t (.co2 own tg it own1 tg1 it1 tt el) x = true → t = false ∧ ∃ z tgE iter tgE1 iter1 ifs1 scope pos, x = .ListComp z [⟨tgE, iter, [], 0⟩, ⟨tgE1, iter1, ifs1, 0⟩] scope pos ∧ co2C p S own tg it own1 tg1 it1 tt el z tgE iter tgE1 iter1 ifs1 scope = true := fun {S t x} h => by
    cases x with
    | ListComp z gs scope pos =>
      cases gs with
      | nil => exact nomatch h
      | cons gn gs =>
        cases gn with
        | mk tgE iter ifs as =>
          cases ifs with
          | cons _ _ => cases gs <;> exact nomatch h
          | nil =>
            cases gs with
            | nil => exact nomatch h
            | cons gn gs =>
              cases gs with
              | cons _ _ => cases gn; exact nomatch h
              | nil =>
                cases gn with
                | mk tgE1 iter1 ifs1 as1 =>
                  have h : (!t && decide (as = 0) && decide (as1 = 0) && noSet iter && noSet iter1 && blkC S.N S.sc scope (own.map fun i => (S.N.getD i "", i)) && (tg.ix.all fun i => own.contains i) && (tg1.ix.all fun i => own1.contains i) && (own1.all fun i => own.contains i) && tgC (S.blk scope) tg tgE && tgC (S.blk scope) tg1 tgE1 &&
                    chI p S it tgE iter && chI p (S.blk scope) it1 tgE1 iter1 && chTt p (S.blk scope) tt ifs1 && ch p (S.blk scope) false el z) = true := h
                  simp only [Bool.and_eq_true, decide_eq_true_eq, Bool.not_eq_true'] at h
                  obtain ⟨⟨⟨⟨⟨⟨⟨⟨⟨⟨⟨⟨⟨⟨h1, h2⟩, h3⟩, h4⟩, h5⟩, h6⟩, h7⟩, h8⟩, h9⟩, h10⟩, h11⟩, h12⟩, h13⟩, h14⟩, h15⟩ := h
                  subst h2 h3
                  refine ⟨h1, z, tgE, iter, tgE1, iter1, ifs1, scope, pos, rfl, ?_⟩
                  unfold co2C
                  simp only [Bool.and_eq_true]
                  exact ⟨⟨⟨⟨⟨⟨⟨⟨⟨⟨⟨h4, h5⟩, h6⟩, h7⟩, h8⟩, h9⟩, h10⟩, h11⟩, h12⟩, h13⟩, h14⟩, h15⟩
    | _ => exact nomatch h
  refine Snd.plain (fun _ _ _ => rfl) (fun _ _ _ => rfl) (fun _ _ => rfl) (fun _ _ => rfl) (fun _ _ => rfl) (fun _ _ _ => rfl) (fun {G n g S X W} o f x h => ?_) (fun {G n g S X W} o f x h => ?_)
  · obtain ⟨_, z, tgE, iter, tgE1, iter1, ifs1, scope, pos, e, h⟩ := key h
    subst e
    have c := co2_ok o f hi hi1 ht he h
    have q := sd_co2 (pos := pos) o c.a4 c.a5 c.a6 c.a7 c.a3 c.a8 c.a9 c.a10 c.a11 c.a12 c.a1 c.a2
    rw [own_map] at q
    exact q
  · exact nomatch (key h).1
end
theorem v_lsg {p : Pg} {G : Cfg} {n : Nat} {g : Bool} {S : Sx} {X : Cx} {W : WX} (o : XOk G p n g X W) (f : Fits S X) {c m : Nat} {eo : E} (ho : Snd p eo) {fn : Str} {y : Expr} {x : Str} {q q2 p1 pos : Pos} {t : Bool} (h : ch p S t (.lsg c eo m) (.Call (.Name fn p1) [.Call (.Attribute y x q) [] [] q2] [] pos) = true) :
    PE X (.Call (.Name fn p1) [.Call (.Attribute y x q) [] [] q2] [] pos) (tE G W (ev (prm p g n) (.lsg c eo m))) := by
  have h : (decide (fn = "list") && glC S.sc fn && decide (p.nms.getD m "" = x) && noCall y && (q.endLine == q2.line) && (match p.cls[c]? with
    | some k => (match k.gmeth.lookup m with
      | some i => decide (i < p.gens.length)
      | none => false)
    | none => false) && ch p S false eo y) = true := h
  obtain ⟨h, h7⟩ := and2 h
  obtain ⟨h, h6⟩ := and2 h
  obtain ⟨h, h5⟩ := and2 h
  obtain ⟨h, h4⟩ := and2 h
  obtain ⟨h, h3⟩ := and2 h
  obtain ⟨h1, h2⟩ := and2 h
  have e := of_decide_eq_true h1
  subst e
  cases hk : p.cls[c]? with
  | none =>
    rw [hk] at h6
    cases h6
  | some k =>
    rw [hk] at h6
    cases hm : k.gmeth.lookup m with
    | none =>
      have h6 : (match k.gmeth.lookup m with
        | some i => decide (i < p.gens.length)
        | none => false) = true := h6
      rw [hm] at h6
      cases h6
    | some i =>
      have h6 : (match k.gmeth.lookup m with
        | some i => decide (i < p.gens.length)
        | none => false) = true := h6
      rw [hm] at h6
      have hi := of_decide_eq_true h6
      exact sd_lsg o hk hm (List.getElem?_eq_getElem hi) (by show G.nms.getD m "" = x; rw [o.pg.nms]; exact of_decide_eq_true h3) (glC_ok f.sc h2) (ho.v o f y h7) (meth_ht h4 rfl rfl h5)
theorem snd_lsg {p : Pg} {c m : Nat} {eo : E} (ho : Snd p eo) : Snd p (.lsg c eo m) := by
  refine Snd.plain (fun _ _ _ => rfl) (fun _ _ _ => rfl) (fun _ _ => rfl) (fun _ _ => rfl) (fun _ _ => rfl) (fun _ _ _ => rfl) (fun {G n g S X W} o f x h => ?_) (fun {G n g S X W} o f x h => ?_)
  all_goals
    cases x with
    | Call fe xs ks pos =>
      cases fe with
      | Name fn p1 =>
        cases xs with
        | cons z zs =>
          cases z with
          | Call fe2 ys ks2 q2 =>
            cases fe2 with
            | Attribute y x q =>
              cases ys with
              | nil =>
                cases ks2 with
                | nil =>
                  cases zs with
                  | nil =>
                    cases ks with
                    | nil => first | exact v_lsg o f ho h | exact st_val (v_lsg o f ho h) rfl
                    | _ => exact nomatch h
                  | _ => exact nomatch h
                | _ => exact nomatch h
              | _ => exact nomatch h
            | _ => exact nomatch h
          | _ => exact nomatch h
        | _ => exact nomatch h
      | _ => exact nomatch h
    | _ => exact nomatch h
theorem snd_rpo {p : Pg} {a : E} (ha : Snd p a) : Snd p (.rpo a) := by
  have key : ∀ {S : Sx} {t : Bool} {x : Expr}, ch p S t (.rpo a) x = true → t = false ∧ ∃ y q pos, x = .Call (.Name "repr" q) [y] [] pos ∧ glC S.sc "repr" = true ∧ noStar y = true ∧ ch p S false a y = true := fun {S t x} h => by
    cases x with
    | Call fe xs ks pos =>
      cases fe with
      | Name fn q =>
        cases xs with
        | nil => exact nomatch h
        | cons y ys =>
          cases ys with
          | cons _ _ => cases ks <;> exact nomatch h
          | nil =>
            cases ks with
            | cons _ _ => exact nomatch h
            | nil =>
              have h : (!t && decide (fn = "repr") && glC S.sc fn && noStar y && ch p S false a y) = true := h
              obtain ⟨h, h5⟩ := and2 h
              obtain ⟨h, h4⟩ := and2 h
              obtain ⟨h, h3⟩ := and2 h
              obtain ⟨h1, h2⟩ := and2 h
              have e := of_decide_eq_true h2
              subst e
              exact ⟨by simpa using h1, y, q, pos, rfl, h3, h4, h5⟩
      | _ => exact nomatch h
    | _ => exact nomatch h
  refine Snd.plain (fun _ _ _ => rfl) (fun _ _ _ => rfl) (fun _ _ => rfl) (fun _ _ => rfl) (fun _ _ => rfl) (fun _ _ _ => rfl) (fun {G n g S X W} o f x h => ?_) (fun {G n g S X W} o f x h => ?_)
  · obtain ⟨_, y, q, pos, e, h3, h4, h5⟩ := key h
    subst e
    exact sd_rpo o (glC_ok f.sc h3) (ha.v o f y h5) h4
  · exact nomatch (key h).1
theorem snd_rpd {p : Pg} {a : E} (ha : Snd p a) : Snd p (.rpd a) := by
  have key : ∀ {S : Sx} {t : Bool} {x : Expr}, ch p S t (.rpd a) x = true → t = false ∧ ∃ y q pos, x = .Call (.Name "repr" q) [y] [] pos ∧ glC S.sc "repr" = true ∧ noStar y = true ∧ ch p S false a y = true := fun {S t x} h => by
    cases x with
    | Call fe xs ks pos =>
      cases fe with
      | Name fn q =>
        cases xs with
        | nil => exact nomatch h
        | cons y ys =>
          cases ys with
          | cons _ _ => cases ks <;> exact nomatch h
          | nil =>
            cases ks with
            | cons _ _ => exact nomatch h
            | nil =>
              have h : (!t && decide (fn = "repr") && glC S.sc fn && noStar y && ch p S false a y) = true := h
              obtain ⟨h, h5⟩ := and2 h
              obtain ⟨h, h4⟩ := and2 h
              obtain ⟨h, h3⟩ := and2 h
              obtain ⟨h1, h2⟩ := and2 h
              have e := of_decide_eq_true h2
              subst e
              exact ⟨by simpa using h1, y, q, pos, rfl, h3, h4, h5⟩
      | _ => exact nomatch h
    | _ => exact nomatch h
  refine Snd.plain (fun _ _ _ => rfl) (fun _ _ _ => rfl) (fun _ _ => rfl) (fun _ _ => rfl) (fun _ _ => rfl) (fun _ _ _ => rfl) (fun {G n g S X W} o f x h => ?_) (fun {G n g S X W} o f x h => ?_)
  · obtain ⟨_, y, q, pos, e, h3, h4, h5⟩ := key h
    subst e
    exact sd_rpd o (glC_ok f.sc h3) (ha.v o f y h5) h4
  · exact nomatch (key h).1
theorem pe_bad {X : Cx} {x : Expr} {G : Cfg} {W : WX} {m : Ev → FS → Out R} (h : ∀ env s, m env s = .bad) : PE X x (tE G W m) := ⟨fun pins s σ H Q I z => by
  obtain ⟨B, U, env, fs, hs, r, y⟩ := z
  rw [h] at y
  exact y.elim⟩
theorem snd_dic {p : Pg} {ks : List Key} {es : E} (hs : Parts p es) : Snd p (.dic ks es) := by
  have key : ∀ {S : Sx} {t : Bool} {x : Expr}, ch p S t (.dic ks es) x = true → t = false ∧ ∃ a b pos, x = .Dict a b pos ∧ dicC ks a = true ∧ chA p S es b = true := fun {S t x} h => by
    cases x with
    | Dict a b pos =>
      have h : (!t && dicC ks a && chA p S es b) = true := h
      obtain ⟨h, h3⟩ := and2 h
      obtain ⟨h1, h2⟩ := and2 h
      exact ⟨by simpa using h1, a, b, pos, rfl, h2, h3⟩
    | _ => exact nomatch h
  refine Snd.plain (fun _ _ _ => rfl) (fun _ _ _ => rfl) (fun _ _ => rfl) (fun _ _ => rfl) (fun _ _ => rfl) (fun _ _ _ => rfl) (fun {G n g S X W} o f x h => ?_) (fun {G n g S X W} o f x h => ?_)
  · obtain ⟨_, a, b, pos, e, h1, h2⟩ := key h
    subst e
    cases ks with
    | nil =>
      have ea : a = [] := by
        cases a with
        | nil => rfl
        | cons _ _ => exact nomatch h1
      subst ea
      cases es with
      | nil =>
        cases b with
        | nil => exact sd_dic0
        | cons _ _ => exact nomatch h2
      | _ => exact pe_bad fun _ _ => rfl
    | cons k ks =>
      cases ks with
      | cons k2 ks =>
        have z : dicC (k :: k2 :: ks) a = false := by
          rfl
        rw [z] at h1
        cases h1
      | nil =>
        obtain ⟨c, j, q, ea, hc⟩ := dicC_one h1
        subst ea
        cases es with
        | cons e r =>
          cases r with
          | nil =>
            cases b with
            | nil => exact nomatch h2
            | cons v vs =>
              have h2 : (noStar v && ch p S false e v && chA p S .nil vs) = true := h2
              obtain ⟨h2, h5⟩ := and2 h2
              obtain ⟨h3, h4⟩ := and2 h2
              cases vs with
              | cons _ _ => exact nomatch h5
              | nil => exact sd_dic1 (sd_con hc _) (hs.1.v o f v h4)
          | _ => exact pe_bad fun _ _ => rfl
        | _ => exact pe_bad fun _ _ => rfl
  · exact nomatch (key h).1
theorem v_cst {p : Pg} {G : Cfg} {n : Nat} {g : Bool} {S : Sx} {X : Cx} {W : WX} (o : XOk G p n g X W) (f : Fits S X) {c m : Nat} {es : E} (ha : Snd p es) {cn x : Str} {q q2 pos : Pos} {xs : List Expr} {t : Bool} (h : ch p S t (.cst c m es) (.Call (.Attribute (.Name cn q2) x q) xs [] pos) = true) :
    t = false ∧ PE X (.Call (.Attribute (.Name cn q2) x q) xs [] pos) (tE G W (ev (prm p g n) (.cst c m es))) := by
  have h : (!t && decide (p.nms.getD m "" = x) && glC S.sc cn && nmC cn && (match p.cls[c]? with
    | some k => decide (k.nm = cn) && (match k.stat.lookup m with
      | some i => decide (i < p.fns.length)
      | none => false)
    | none => false) && xs.all noStar && decide (xs.length < 30) && (q.endLine == pos.line) && chA p S es xs) = true := h
  obtain ⟨h, h9⟩ := and2 h
  obtain ⟨h, h8⟩ := and2 h
  obtain ⟨h, h7⟩ := and2 h
  obtain ⟨h, h6⟩ := and2 h
  obtain ⟨h, h5⟩ := and2 h
  obtain ⟨h, h4⟩ := and2 h
  obtain ⟨h, h3⟩ := and2 h
  obtain ⟨h1, h2⟩ := and2 h
  refine ⟨by simpa using h1, ?_⟩
  cases hk : p.cls[c]? with
  | none =>
    rw [hk] at h5
    cases h5
  | some k =>
    rw [hk] at h5
    obtain ⟨z1, z2⟩ := and2 h5
    cases hm : k.stat.lookup m with
    | none =>
      rw [hm] at z2
      cases z2
    | some i =>
      rw [hm] at z2
      have hi := of_decide_eq_true z2
      exact sd_cst o hk hm (List.getElem?_eq_getElem hi) (of_decide_eq_true z1) (by show G.nms.getD m "" = x; rw [o.pg.nms]; exact of_decide_eq_true h2) (glC_ok f.sc h3) (nmC_ok h4).1 (ha.a o f xs h9) (h0_nil h9) (head_of h6) (meth_ht rfl h6 h7 h8)
theorem snd_cst {p : Pg} {c m : Nat} {es : E} (ha : Snd p es) : Snd p (.cst c m es) := by
  refine Snd.plain (fun _ _ _ => rfl) (fun _ _ _ => rfl) (fun _ _ => rfl) (fun _ _ => rfl) (fun _ _ => rfl) (fun _ _ _ => rfl) (fun {G n g S X W} o f x h => ?_) (fun {G n g S X W} o f x h => ?_)
  all_goals
    cases x with
    | Call fe xs ks pos =>
      cases fe with
      | Attribute y x q =>
        cases y with
        | Name cn q2 =>
          cases ks with
          | nil => first | exact (v_cst o f ha h).2 | exact nomatch (v_cst o f ha h).1
          | _ => exact nomatch h
        | _ => exact nomatch h
      | _ => exact nomatch h
    | _ => exact nomatch h
theorem snd_fmt {p : Pg} {a : E} (ha : Snd p a) : Snd p (.fmt a) := by
  have key : ∀ {S : Sx} {t : Bool} {x : Expr}, ch p S t (.fmt a) x = true → t = false ∧ ∃ y pos, x = .FormattedValue y (-1) none pos ∧ ch p S false a y = true := fun {S t x} h => by
    cases x with
    | FormattedValue y k sp pos =>
      cases sp with
      | some _ => exact nomatch h
      | none =>
        have h : (!t && decide (k = -1) && ch p S false a y) = true := h
        obtain ⟨h, h3⟩ := and2 h
        obtain ⟨h1, h2⟩ := and2 h
        have e := of_decide_eq_true h2
        subst e
        exact ⟨by simpa using h1, y, pos, rfl, h3⟩
    | _ => exact nomatch h
  refine Snd.plain (fun _ _ _ => rfl) (fun _ _ _ => rfl) (fun _ _ => rfl) (fun _ _ => rfl) (fun _ _ => rfl) (fun _ _ _ => rfl) (fun {G n g S X W} o f x h => ?_) (fun {G n g S X W} o f x h => ?_)
  · obtain ⟨_, y, pos, e, h3⟩ := key h
    subst e
    exact sd_fmt o (ha.v o f y h3)
  · exact nomatch (key h).1
theorem pjs_of {p : Pg} {G : Cfg} {n : Nat} {g : Bool} {S : Sx} {X : Cx} {W : WX} (o : XOk G p n g X W) (f : Fits S X) : ∀ (es : E) (xs : List Expr), Parts p es → consE es = true → chA p S es xs = true → PJs G W (prm p g n) X es xs
  | .nil, [], _, _, _ => .nil
  | .nil, _ :: _, _, _, h => nomatch h
  | .cons a r, [], _, _, h => nomatch h
  | .cons a r, x :: xs, hp, hc, h => by
    have h : (noStar x && ch p S false a x && chA p S r xs) = true := h
    obtain ⟨h, h3⟩ := and2 h
    obtain ⟨h1, h2⟩ := and2 h
    exact .cons (hp.1.v o f x h2) (pjs_of o f r xs hp.2 hc h3)
theorem snd_fst {p : Pg} {es : E} (hs : Parts p es) : Snd p (.fst es) := by
  have key : ∀ {S : Sx} {t : Bool} {x : Expr}, ch p S t (.fst es) x = true → t = false ∧ ∃ y z r pos, x = .JoinedStr (y :: z :: r) pos ∧ consE es = true ∧ chA p S es (y :: z :: r) = true := fun {S t x} h => by
    cases x with
    | JoinedStr xs pos =>
      cases xs with
      | nil => exact nomatch h
      | cons y ys =>
        cases ys with
        | nil => exact nomatch h
        | cons z r =>
          have h : (!t && consE es && chA p S es (y :: z :: r)) = true := h
          obtain ⟨h, h3⟩ := and2 h
          obtain ⟨h1, h2⟩ := and2 h
          exact ⟨by simpa using h1, y, z, r, pos, rfl, h2, h3⟩
    | _ => exact nomatch h
  refine Snd.plain (fun _ _ _ => rfl) (fun _ _ _ => rfl) (fun _ _ => rfl) (fun _ _ => rfl) (fun _ _ => rfl) (fun _ _ _ => rfl) (fun {G n g S X W} o f x h => ?_) (fun {G n g S X W} o f x h => ?_)
  · obtain ⟨_, y, z, r, pos, e, h2, h3⟩ := key h
    subst e
    exact sd_fst (pjs_of o f _ _ hs h2 h3)
  · exact nomatch (key h).1
theorem snd_orl {p : Pg} {a b : E} (ha : Snd p a) (hb : Snd p b) : Snd p (.orl a b) := by
  have key : ∀ {S : Sx} {t : Bool} {x : Expr}, ch p S t (.orl a b) x = true → t = false ∧ ∃ y z pos, x = .BoolOp .Or [y, z] pos ∧ ch p S false a y = true ∧ ch p S false b z = true := fun {S t x} h => by
    cases x with
    | BoolOp op xs pos =>
      cases op with
      | Or =>
        cases xs with
        | nil => exact nomatch h
        | cons y xs =>
          cases xs with
          | nil => exact nomatch h
          | cons z xs =>
            cases xs with
            | cons _ _ => exact nomatch h
            | nil =>
              have h : (!t && ch p S false a y && ch p S false b z) = true := h
              obtain ⟨h, h3⟩ := and2 h
              obtain ⟨h1, h2⟩ := and2 h
              exact ⟨by simpa using h1, y, z, pos, rfl, h2, h3⟩
      | _ => exact nomatch h
    | _ => exact nomatch h
  refine Snd.plain (fun _ _ _ => rfl) (fun _ _ _ => rfl) (fun _ _ => rfl) (fun _ _ => rfl) (fun _ _ => rfl) (fun _ _ _ => rfl) (fun {G n g S X W} o f x h => ?_) (fun {G n g S X W} o f x h => ?_)
  · obtain ⟨_, y, z, pos, e, h2, h3⟩ := key h
    subst e
    exact sd_orl o (ha.v o f y h2) (or_tailV o f hb h3)
  · exact nomatch (key h).1
theorem snd_gix {p : Pg} {a b : E} (ha : Snd p a) (hb : Snd p b) : Snd p (.gix a b) := by
  have key : ∀ {S : Sx} {t : Bool} {x : Expr}, ch p S t (.gix a b) x = true → t = false ∧ ∃ y z pos, x = .Subscript y z pos ∧ noSlice z = true ∧ ch p S false a y = true ∧ ch p S false b z = true := fun {S t x} h => by
    cases x with
    | Subscript y z pos =>
      have h : (!t && noSlice z && ch p S false a y && ch p S false b z) = true := h
      obtain ⟨h, h4⟩ := and2 h
      obtain ⟨h, h3⟩ := and2 h
      obtain ⟨h1, h2⟩ := and2 h
      exact ⟨by simpa using h1, y, z, pos, rfl, h2, h3, h4⟩
    | _ => exact nomatch h
  refine Snd.plain (fun _ _ _ => rfl) (fun _ _ _ => rfl) (fun _ _ => rfl) (fun _ _ => rfl) (fun _ _ => rfl) (fun _ _ _ => rfl) (fun {G n g S X W} o f x h => ?_) (fun {G n g S X W} o f x h => ?_)
  · obtain ⟨_, y, z, pos, e, h2, h3, h4⟩ := key h
    subst e
    exact sd_gix o (ha.v o f y h3) (hb.v o f z h4) h2
  · exact nomatch (key h).1
theorem snd_all (p : Pg) (e : E) : Snd p e ∧ Parts p e := by
  induction e with
  | nil => exact ⟨snd_nil, trivial⟩
  | cons a r ha hr => exact ⟨snd_cons ha.1 hr.1, ha.1, hr.2⟩
  | sta a r ha hr => exact ⟨snd_sta ha.1 hr.1, ha.1, hr.2⟩
  | var i => exact ⟨snd_var, trivial⟩
  | con k => exact ⟨snd_con, trivial⟩
  | glo x k => exact ⟨snd_glo, trivial⟩
  | bin op a b ha hb => exact ⟨snd_bin ha.1 hb.1, trivial⟩
  | cmp op a b ha hb => exact ⟨snd_cmp ha.1 hb.1, trivial⟩
  | chn o q a b c ha hb hc => exact ⟨snd_chn ha.1 hb.1 hc.1, trivial⟩
  | and a b ha hb => exact ⟨snd_and ha.1 hb.1, trivial⟩
  | or a b ha hb => exact ⟨snd_or ha.1 hb.1, trivial⟩
  | not a ha => exact ⟨snd_not ha.1, trivial⟩
  | neg a ha => exact ⟨snd_neg ha.1, trivial⟩
  | ife t a b ht ha hb => exact ⟨snd_ife ht.1 ha.1 hb.1, trivial⟩
  | tup es h => exact ⟨snd_tup h.1, trivial⟩
  | lst es h => exact ⟨snd_lst h.1, trivial⟩
  | lsc es h => exact ⟨snd_lsc h.1, trivial⟩
  | dic ks es h => exact ⟨snd_dic h.2, trivial⟩
  | idx a b ha hb => exact ⟨snd_idx ha.1 hb.1, trivial⟩
  | slc a l h ha hl hh => exact ⟨snd_slc ha.1 hl.1 hh.1, trivial⟩
  | frz a ha => exact ⟨snd_frz ha.1, trivial⟩
  | dnew => exact ⟨snd_dnew, trivial⟩
  | din neg a b ha hb => exact ⟨snd_din ha.1 hb.1, trivial⟩
  | dget a b ha hb => exact ⟨snd_dget ha.1 hb.1, trivial⟩
  | rev a ha => exact ⟨snd_rev ha.1, trivial⟩
  | pop x i h => exact ⟨snd_pop h.1, trivial⟩
  | cal f es h => exact ⟨snd_cal h.1 h.2, trivial⟩
  | new c es h => exact ⟨snd_new h.1, trivial⟩
  | met o m es ho h => exact ⟨snd_met ho.1 h.1, trivial⟩
  | fld o x ho => exact ⟨snd_fld ho.1, trivial⟩
  | cin o es ho h => exact ⟨snd_cin ho.1 h.1, trivial⟩
  | oop q a b ha hb => exact ⟨snd_oop ha.1 hb.1, trivial⟩
  | isi a c ha => exact ⟨snd_isi ha.1, trivial⟩
  | lens a ha => exact ⟨snd_lens ha.1, trivial⟩
  | bi b es h => exact ⟨snd_bi h.1, trivial⟩
  | bm m o es ho h => exact ⟨snd_bm ho.1 h.1, trivial⟩
  | tupr es h => exact ⟨snd_tupr h.2, trivial⟩
  | lstr es h => exact ⟨snd_lstr h.2, trivial⟩
  | lsg c o m ho => exact ⟨snd_lsg ho.1, trivial⟩
  | rpo a ha => exact ⟨snd_rpo ha.1, trivial⟩
  | rpd a ha => exact ⟨snd_rpd ha.1, trivial⟩
  | cst c m es ha => exact ⟨snd_cst ha.1, trivial⟩
  | fmt a ha => exact ⟨snd_fmt ha.1, trivial⟩
  | orl a b ha hb => exact ⟨snd_orl ha.1 hb.1, trivial⟩
  | gix a b ha hb => exact ⟨snd_gix ha.1 hb.1, trivial⟩
  | fst es h => exact ⟨snd_fst h.2, trivial⟩
  | com own tg it tt el hi ht he => exact ⟨snd_com hi.1 ht.1 he.1, trivial⟩
  | co2 own tg it own1 tg1 it1 tt el hi hi1 ht he => exact ⟨snd_co2 hi.1 hi1.1 ht.1 he.1, trivial⟩
  | rng es h => exact ⟨snd_rng h.2, trivial⟩
  | zip es h => exact ⟨snd_zip h.2, trivial⟩
  | enu a h => exact ⟨snd_enu h.1, trivial⟩
theorem snd (p : Pg) (e : E) : Snd p e := (snd_all p e).1
end Wv
namespace Wv
open PySem L2
theorem sw_two {x y : Str} {a b : Expr} {px py pt pt2 : Pos} {kt k2 : Nat} {env : Env} (hk : env.scope.kind = .function) (hx : env.scope.names.lookup x = some .local) (hy : env.scope.names.lookup y = some .local) (hl : (py.line == px.line) = true) (hxy : x ≠ y) (ha : noStar a = true) (hb : noStar b = true)
    (hf : [a, b].all (foldedForSure 8) = false) (hc : [a, b].all (constantsAlone 8) = false) : swappedStores [.Tuple [.Name x px, .Name y py] kt pt] (.Tuple [a, b] k2 pt2) env = pure (some [x, y]) := by
  have bk : env.blockKind = .function := by unfold Env.blockKind; rw [hk]; rfl
  have kx : env.kindOf x = some .local := hx
  have ky : env.kindOf y = some .local := hy
  have nd : [x, y].eraseDups.length = 2 := by
    rw [List.eraseDups_cons, List.filter_cons_of_pos (by simpa using fun e => hxy e.symm)]
    rfl
  unfold swappedStores
  simp only [pure_bind]
  refine (if_neg ?_).trans ((if_neg ?_).trans ?_)
  · rw [bk]
    exact Bool.false_ne_true
  · intro z
    rw [List.any_eq_true] at z
    obtain ⟨e, he, hz⟩ := z
    rcases List.mem_cons.mp he with q | q
    · subst q
      cases e <;> first | (cases ha; done) | cases hz
    · rw [List.mem_singleton.mp q] at hz
      cases b <;> first | (cases hb; done) | cases hz
  · have e1 : (px.line == px.line) = true := beq_self_eq_true _
    have e2 : ((some NameKind.local : Option NameKind) == some NameKind.local) = true := rfl
    simp only [List.filterMap_cons, List.filterMap_nil, List.head?_cons, Option.map_some, Option.getD_some, Expr.pos, kx, ky, hl, e1, e2, Bool.and_self, if_true]
    rw [nd, hf, hc]
    rfl
theorem sw_three {x y z : Str} {a b c : Expr} {px py pz pt pt2 : Pos} {kt k2 : Nat} {env : Env} (hk : env.scope.kind = .function) (hx : env.scope.names.lookup x = some .local) (hy : env.scope.names.lookup y = some .local) (hz : env.scope.names.lookup z = some .local) (hl : (py.line == px.line) = true) (hl2 : (pz.line == px.line) = true)
    (hxy : x ≠ y) (hxz : x ≠ z) (hyz : y ≠ z) (ha : noStar a = true) (hb : noStar b = true) (hc0 : noStar c = true)
    (hf : [a, b, c].all (foldedForSure 8) = false) (hc : [a, b, c].all (constantsAlone 8) = false) : swappedStores [.Tuple [.Name x px, .Name y py, .Name z pz] kt pt] (.Tuple [a, b, c] k2 pt2) env = pure (some [x, y, z]) := by
  have bk : env.blockKind = .function := by unfold Env.blockKind; rw [hk]; rfl
  have kx : env.kindOf x = some .local := hx
  have ky : env.kindOf y = some .local := hy
  have kz : env.kindOf z = some .local := hz
  have nd : [x, y, z].eraseDups.length = 3 := by
    rw [List.eraseDups_cons, List.filter_cons_of_pos (by simpa using fun e => hxy e.symm), List.filter_cons_of_pos (by simpa using fun e => hxz e.symm), List.filter_nil, List.eraseDups_cons, List.filter_cons_of_pos (by simpa using fun e => hyz e.symm)]
    rfl
  unfold swappedStores
  simp only [pure_bind]
  refine (if_neg ?_).trans ((if_neg ?_).trans ?_)
  · rw [bk]
    exact Bool.false_ne_true
  · intro q
    rw [List.any_eq_true] at q
    obtain ⟨e, he, hz⟩ := q
    rcases List.mem_cons.mp he with q | q
    · subst q
      cases e <;> first | (cases ha; done) | cases hz
    · rcases List.mem_cons.mp q with q | q
      · subst q
        cases e <;> first | (cases hb; done) | cases hz
      · rw [List.mem_singleton.mp q] at hz
        cases c <;> first | (cases hc0; done) | cases hz
  · have e1 : (px.line == px.line) = true := beq_self_eq_true _
    have e2 : ((some NameKind.local : Option NameKind) == some NameKind.local) = true := rfl
    simp only [List.filterMap_cons, List.filterMap_nil, List.head?_cons, Option.map_some, Option.getD_some, Expr.pos, kx, ky, kz, hl, hl2, e1, e2, Bool.and_self, if_true]
    rw [nd, hf, hc]
    rfl
theorem fnC_ok {sc : Scope} (h : fnC sc = true) : sc.kind = .function := by
  unfold fnC at h
  split at h
  · rename_i e
    exact e
  · cases h
theorem sw_none {es : List Expr} {k : Nat} {q : Pos} {e : Expr} {env : Env} (h : isTup e = false) : swappedStores [.Tuple es k q] e env = pure none := by
  cases e <;> first | (cases h; done) | rfl
theorem lc_cel {e : Expr} {x : Str} {q : Pos} {l : Nat} {env : Env} {sc : Scope} (he : env.scope = sc) (h : celC sc x = true) : swapsWith e (some (.Name x q)) l env = pure false := by
  have z : env.kindOf x = some .cell := by
    show env.scope.names.lookup x = _
    rw [he]
    unfold celC at h
    split at h
    · assumption
    · cases h
  cases e <;> first | rfl | (unfold swapsWith; simp only [z]; have n : (some NameKind.cell == some NameKind.local) = false := (by decide); rw [n, Bool.and_false, Bool.false_and, Bool.false_and] <;> rfl)
theorem fm_less {α β : Type} (f : α → Option β) : ∀ (l : List α), (∃ a ∈ l, f a = none) → (l.filterMap f).length < l.length
  | [], ⟨_, h, _⟩ => nomatch h
  | a :: l, ⟨b, hb, e⟩ => by
    have le := List.length_filterMap_le f l
    cases z : f a with
    | none =>
      rw [List.filterMap_cons, z, List.length_cons]
      exact Nat.lt_succ_of_le le
    | some c =>
      rcases List.mem_cons.mp hb with q | q
      · rw [q, z] at e
        cases e
      · rw [List.filterMap_cons, z, List.length_cons]
        exact Nat.succ_lt_succ (fm_less f l ⟨b, q, e⟩)
theorem anyCel_ok {sc : Scope} : ∀ {es : List Expr}, anyCel sc es = true → ∃ x q, Expr.Name x q ∈ es ∧ celC sc x = true
  | [], h => nomatch h
  | e :: es, h => by
    cases e with
    | Name x q =>
      have h : (celC sc x || anyCel sc es) = true := h
      rw [Bool.or_eq_true] at h
      rcases h with h | h
      · exact ⟨x, q, List.mem_cons_self, h⟩
      · obtain ⟨y, q2, m, c⟩ := anyCel_ok h
        exact ⟨y, q2, List.mem_cons_of_mem _ m, c⟩
    | _ =>
      obtain ⟨y, q2, m, c⟩ := anyCel_ok (es := es) h
      exact ⟨y, q2, List.mem_cons_of_mem _ m, c⟩
theorem sw_cel {ts vs : List Expr} {k k2 : Nat} {q q2 : Pos} {env : Env} {sc : Scope} (he : env.scope = sc) (h : anyCel sc ts = true) : swappedStores [.Tuple ts k q] (.Tuple vs k2 q2) env = pure none := by
  obtain ⟨x, qx, mx, cx⟩ := anyCel_ok h
  have kx : env.kindOf x = some .cell := by
    show env.scope.names.lookup x = _
    rw [he]
    unfold celC at cx
    split at cx
    · assumption
    · cases cx
  unfold swappedStores
  simp only [pure_bind]
  split
  · rfl
  · split
    · rfl
    · have lt := fm_less (fun (e : Expr) => match e with
        | .Name id pos => if (env.kindOf id == some .local && pos.line == ((ts.head?.map (·.pos.line)).getD 0)) = true then some id else none
        | _ => none) ts ⟨_, mx, by
          show (if (env.kindOf x == some .local && qx.line == _) = true then some x else none) = none
          rw [kx]
          have n : (some NameKind.cell == some NameKind.local) = false := by decide
          rw [n, Bool.false_and]
          rfl⟩
      split
      · rfl
      · rename_i hn
        exfalso
        apply hn
        rw [Bool.or_eq_true]
        left
        rw [bne_iff_ne]
        exact Nat.ne_of_lt lt
theorem sw_nest {es ts vs : List Expr} {k k1 k2 : Nat} {q q1 q2 : Pos} {env : Env} (h : Expr.Tuple es k1 q1 ∈ ts) : swappedStores [.Tuple ts k q] (.Tuple vs k2 q2) env = pure none := by
  unfold swappedStores
  simp only [pure_bind]
  split
  · rfl
  · split
    · rfl
    · have lt := fm_less (fun (e : Expr) => match e with
        | .Name id pos => if (env.kindOf id == some .local && pos.line == ((ts.head?.map (·.pos.line)).getD 0)) = true then some id else none
        | _ => none) ts ⟨_, h, rfl⟩
      split
      · rfl
      · rename_i hn
        exfalso
        apply hn
        rw [Bool.or_eq_true]
        left
        rw [bne_iff_ne]
        exact Nat.ne_of_lt lt
theorem sw_nestE {es ts : List Expr} {k k1 : Nat} {q q1 : Pos} {e : Expr} {env : Env} (h : Expr.Tuple es k1 q1 ∈ ts) : swappedStores [.Tuple ts k q] e env = pure none := by
  cases e with
  | Tuple vs k2 q2 => exact sw_nest h
  | _ => rfl
section
variable {G : Cfg} {p : Pg} {n : Nat} {g : Bool} {X : Cx} {W : WX} {B : Bs} {U : Wd} {env : Ev} {fs : FS} {hs : List (V × R)} {σ : L2.St} {H : Hp} {P : Prm} {pos : Pos}
theorem gns_okR {Q : L2.St → Hp → Prop} : ∀ {is : List Nat} {vs : List V} {rs : List R} {env : Ev} {σ : L2.St}, RepRs G U H vs rs → is.length = rs.length → Rel G B U env fs hs σ H →
    (∀ σ', Rel G B U ((is.zip rs).foldl (fun e p => e.set p.1 (some p.2)) env) fs hs σ' H → Q σ' H) → gNs is vs σ H Q
  | [], [], [], env, σ, _, _, g, q => ⟨rfl, q σ g⟩
  | i :: is, v :: vs, r :: rs, env, σ, .cons h t, l, g, q => by
    refine ⟨v, vs, rfl, ?_⟩
    have l : is.length + 1 = rs.length + 1 := l
    exact gns_okR (env := env.set i (some r)) t (Nat.succ.inj l) (g.store h) q
  | [], _, _ :: _, _, _, _, l, _, _ => nomatch l
  | _ :: _, _, [], _, _, _, l, _, _ => nomatch l
theorem ss_parC (o : XOk G p n g X W) {is : List Nat} {ts vs : List Expr} {ees : E} {k k2 : Nat} {q q2 : Pos} (h : tgNames X is ts) (hl : is.length ≤ 100) (ha : PA X vs (tA G W (evs P ees))) (hw : swappedStores [.Tuple ts k q] (.Tuple vs k2 q2) X.env = pure none) :
    PS X (.Assign [.Tuple ts k q] (.Tuple vs k2 q2) pos) (tS G W (ex P (.par is ees))) := by
  obtain ⟨h1, h2, h3⟩ := sgs_names o.nd h
  refine (ps_asg (pe_tup ha) (pg_tup o.calm h1 h2 h3) tup_swap hw rfl).imp fun D σ H h => ?_
  obtain ⟨B, U, env, fs, hs, g0, y⟩ := h
  refine ⟨B, U, env, fs, hs, g0, (st_post y).imp fun rs s1 y vs U1 H1 g1 hv => ?_⟩
  have y : PostS G W B hs D (if is.length = rs.length then .nx ((is.zip rs).foldl (fun e p => e.set p.1 (some p.2)) env) s1 else .bad) := y
  split at y
  · rename_i hr
    have hz : (100 : Nat) ≤ sizeLine := by decide
    refine ⟨by omega, fun a ha => ?_⟩
    have g2 := g1.grow (H' := upd H1 a (.tup vs)) ha fun b e => upd_ne e
    exact ⟨a, vs, rfl, .of upd_same, by rw [hv, hr], gns_okR (g2.heldAll hv) hr g2.dropN fun σ' g' => y U1 _ σ' g'⟩
  · exact y.elim
end
end Wv
namespace Wv
open PySem L2
structure SndS (p : Pg) (b : S) : Prop where
  s : ∀ {G : Cfg} {n : Nat} {g : Bool} {Y : Sx} {X : Cx} {W : WX} (o : XOk G p n g X W) (hp : PassesOwn (model X.prog X.w) X.A X.env X.xe) (f : Fits Y X) (st : Stmt), chS p Y b st = true → PS X st (tS G W (ex (prm p g n) b))
  ss : ∀ {G : Cfg} {n : Nat} {g : Bool} {Y : Sx} {X : Cx} {W : WX} (o : XOk G p n g X W) (hp : PassesOwn (model X.prog X.w) X.A X.env X.xe) (f : Fits Y X) (sts : List Stmt), chSs p Y b sts = true → PSs X sts (tS G W (ex (prm p g n) b))
section
variable {p : Pg} {G : Cfg} {n : Nat} {g : Bool} {Y : Sx} {X : Cx} {W : WX}
theorem SndS.one {b : S} (h : ∀ Y sts, chSs p Y b sts = false) (s : ∀ {G : Cfg} {n : Nat} {g : Bool} {Y : Sx} {X : Cx} {W : WX} (o : XOk G p n g X W) (hp : PassesOwn (model X.prog X.w) X.A X.env X.xe) (f : Fits Y X) (st : Stmt), chS p Y b st = true → PS X st (tS G W (ex (prm p g n) b))) : SndS p b :=
  ⟨s, fun o hp f sts z => absurd z (by rw [h]; decide)⟩
theorem ss_nev' : SndS p .nev := ⟨fun o hp f st h => ss_nev, fun o hp f sts h => sss_nev⟩
theorem snds_nil : SndS p .nil := ⟨fun o hp f st h => (nomatch h), fun o hp f sts h => by
  cases sts with
  | nil => exact ss_nil _
  | cons _ _ => exact nomatch h⟩
theorem _root_.L2.PSs.imp {C : Cx} {e : List Stmt} {t t' : TS} (h : PSs C e t) (q : ∀ D σ H, t' D σ H → t D σ H) : PSs C e t' := ⟨fun pins s σ H D I y => h.run pins s σ H D I (q D σ H y)⟩
theorem ss_fzv {P : Prm} {i : Nat} {r : S} {sts : List Stmt} (h : PSs X sts (tS G W (ex P r))) : PSs X sts (tS G W (ex P (.cons (.fzv i) r))) := h.imp fun D σ H h => by
  obtain ⟨B, U, env, fs, hs, g, y⟩ := h
  have y : PostS G W B hs D (match (match env[i]? with
    | some (some q) => needS (fz fs q) fun p => SO.nx (env.set i (some (.fz p.1))) p.2
    | _ => .bad) with
    | .nx env s => ex P r env s
    | o => o) := y
  cases z : env[i]? with
  | none =>
    rw [z] at y
    exact y.elim
  | some o =>
    cases o with
    | none =>
      rw [z] at y
      exact y.elim
    | some q =>
      rw [z] at y
      have y : PostS G W B hs D (match needS (Wv.fz fs q) (fun p => SO.nx (env.set i (some (.fz p.1))) p.2) with
        | .nx env s => ex P r env s
        | o => o) := y
      cases e : Wv.fz fs q with
      | none =>
        rw [e] at y
        exact y.elim
      | some p =>
        obtain ⟨d, fs2⟩ := p
        rw [e] at y
        have y : PostS G W B hs D (ex P r (env.set i (some (.fz d))) fs2) := y
        obtain ⟨v, e1, rv⟩ := g.env i q z
        obtain ⟨U2, g2, r2, _⟩ := g.fz rv e
        refine ⟨B, U2, env.set i (some (.fz d)), fs2, hs, g2.names (by rw [List.length_set]; exact g2.elen) fun j r' ej => ?_, y⟩
        by_cases hj : i = j
        · subst hj
          rw [List.getElem?_set_self (List.getElem?_eq_some_iff.mp z).1] at ej
          cases ej
          exact ⟨v, e1, r2⟩
        · rw [List.getElem?_set_ne hj] at ej
          exact g2.env j r' ej
theorem snds_cons {a r : S} (ha : SndS p a) (hr : SndS p r) : SndS p (.cons a r) := ⟨fun o hp f st h => (nomatch h), fun {G n g Y X W} o hp f sts h => by
  cases a with
  | fzv i =>
    have h : chSs p Y r sts = true := h
    exact ss_fzv (hr.ss o hp f sts h)
  | _ =>
    cases sts with
    | nil => exact nomatch h
    | cons st sts =>
      have h : (chS p Y _ st && chSs p Y r sts) = true := h
      exact ss_cons (ha.s o hp f st (and2 h).1) (hr.ss o hp f sts (and2 h).2)⟩
theorem snds_pas : SndS p .pas := SndS.one (fun _ _ => rfl) fun o hp f st h => by
  cases st with
  | Pass pos => exact ss_pas _
  | Expr e pos =>
    cases e with
    | Constant c j q =>
      cases c with
      | str x => exact ss_doc _
      | _ => exact nomatch h
    | _ => exact nomatch h
  | _ => exact nomatch h
theorem snds_exp {e : E} (he : Snd p e) : SndS p (.exp e) := SndS.one (fun _ _ => rfl) fun {G n g Y X W} o hp f st h => by
  cases st with
  | Expr x pos =>
    have h : (noLc x && ch p Y false e x) = true := h
    exact ss_exp (he.v o f x (and2 h).2) (and2 h).1
  | _ => exact nomatch h
theorem snds_ret {e : E} (he : Snd p e) : SndS p (.ret e) := SndS.one (fun _ _ => rfl) fun {G n g Y X W} o hp f st h => by
  cases st with
  | Return x pos =>
    cases x with
    | none => exact nomatch h
    | some x => exact ss_ret (he.v o f x h)
  | _ => exact nomatch h
theorem snds_rtn : SndS p .rtn := SndS.one (fun _ _ => rfl) fun {G n g Y X W} o hp f st h => by
  cases st with
  | Return x pos =>
    cases x with
    | none => exact ss_rtn _
    | some x => exact nomatch h
  | _ => exact nomatch h
theorem snds_ife {c : E} {a b : S} (hc : Snd p c) (ha : SndS p a) (hb : SndS p b) : SndS p (.ife c a b) := SndS.one (fun _ _ => rfl) fun {G n g Y X W} o hp f st h => by
  cases st with
  | If x s1 s2 pos =>
    have h : (ch p Y true c x && chSs p Y a s1 && chSs p Y b s2) = true := h
    obtain ⟨h, h3⟩ := and2 h
    obtain ⟨h1, h2⟩ := and2 h
    exact ss_ife (hc.t o f x h1) (ha.ss o hp f s1 h2) (hb.ss o hp f s2 h3)
  | _ => exact nomatch h
theorem snds_asg {t : Tg} {e : E} (he : Snd p e) : SndS p (.asg t e) := SndS.one (fun _ _ => by cases t <;> rfl) fun {G n g Y X W} o hp f st h => by
  cases t with
  | n i =>
    cases st with
    | Assign ts y pos =>
      cases ts with
      | nil => exact nomatch h
      | cons t ts =>
        cases ts with
        | cons _ _ => cases t <;> exact nomatch h
        | nil =>
          cases t with
          | Name x q =>
            have h : (decide (Y.N[i]? = some x) && Y.st x && (noLc y || celC Y.sc x) && ch p Y false e y) = true := h
            obtain ⟨h, h4⟩ := and2 h
            obtain ⟨h, h3⟩ := and2 h
            obtain ⟨h1, h2⟩ := and2 h
            obtain ⟨q1, q2⟩ := f.st x h2
            rw [Bool.or_eq_true] at h3
            exact ss_set o (by rw [f.N]; exact of_decide_eq_true h1) q1 q2 (he.v o f y h4) (h3.elim lc_no (lc_cel f.sc))
          | _ => exact nomatch h
    | _ => exact nomatch h
  | t is =>
    cases st with
    | Assign ts y pos =>
      cases ts with
      | nil => exact nomatch h
      | cons t ts =>
        cases ts with
        | cons _ _ => cases t <;> exact nomatch h
        | nil =>
          cases t with
          | Tuple es k q =>
            have h : (!isTup y && tgC Y (.t is) (.Tuple es k q) && ch p Y false e y) = true := h
            obtain ⟨h, h3⟩ := and2 h
            obtain ⟨h1, h2⟩ := and2 h
            exact ss_asgT o (fun _ _ _ => rfl) (tg_ok o f h2) (he.v o f y h3) tup_swap (sw_none (by simpa using h1)) rfl
          | _ => exact nomatch h
    | _ => exact nomatch h
  | q i is =>
    cases st with
    | Assign ts y pos =>
      cases ts with
      | nil => exact nomatch h
      | cons t ts =>
        cases ts with
        | cons _ _ => cases t <;> exact nomatch h
        | nil =>
          cases t with
          | Tuple es k q =>
            have h : (tgC Y (.q i is) (.Tuple es k q) && ch p Y false e y) = true := h
            obtain ⟨h2, h3⟩ := and2 h
            refine ss_asgT o (fun _ _ _ => rfl) (tg_ok o f h2) (he.v o f y h3) tup_swap ?_ rfl
            unfold tgC at h2
            split at h2
            · rename_i z _
              cases z
            · rename_i z _
              cases z
            · rename_i z1 z2
              cases z2
              exact sw_nestE (List.mem_cons_of_mem _ List.mem_cons_self)
            · cases h2
          | _ => exact nomatch h
    | _ => exact nomatch h
theorem snds_alc {i : Nat} {own : List Nat} {tg : Tg} {it tt el : E} (hi : Snd p it) (ht : Snd p tt) (he : Snd p el) : SndS p (.alc i own tg it tt el) := SndS.one (fun _ _ => rfl) fun {G n g Y X W} o hp f st h => by
  cases st with
  | Assign ts y pos =>
    cases ts with
    | nil => exact nomatch h
    | cons t ts =>
      cases ts with
      | cons _ _ => cases t <;> exact nomatch h
      | nil =>
        cases t with
        | Name x q =>
          cases y with
          | ListComp z gs scope lp =>
            cases gs with
            | nil => exact nomatch h
            | cons gn gs =>
              cases gs with
              | cons _ _ => cases gn; exact nomatch h
              | nil =>
                cases gn with
                | mk tgE iter ifs as =>
                  have h : (decide (as = 0) && decide (Y.N[i]? = some x) && locC Y.sc x && fnC Y.sc && (q.line == lp.line) && !(scope.names.any fun (n, k) => n == x && (k == .local || k == .cell)) && comC p Y own tg it tt el z tgE iter ifs scope) = true := h
                  obtain ⟨h, h7⟩ := and2 h
                  obtain ⟨h, h6⟩ := and2 h
                  obtain ⟨h, h5⟩ := and2 h
                  obtain ⟨h, h4⟩ := and2 h
                  obtain ⟨h, h3⟩ := and2 h
                  obtain ⟨h1, h2⟩ := and2 h
                  have e := of_decide_eq_true h1
                  subst e
                  obtain ⟨q1, q2, q3, q4, q5, q6, q7⟩ := com_ok o f hi ht he h7
                  have q := ss_setLc (spos := pos) (py := q) (pos := lp) o (by rw [f.N]; exact of_decide_eq_true h2) (by rw [f.sc]; exact locC_ok h3) (by rw [f.sc]; exact fnC_ok h4) h5 (by simpa using h6) q3 q4 q2 q5 q6 q7 q1
                  rw [own_map] at q
                  exact q
          | _ => exact nomatch h
        | _ => cases y <;> exact nomatch h
  | _ => exact nomatch h
theorem snds_alc2 {i : Nat} {own own1 : List Nat} {tg tg1 : Tg} {it it1 tt el : E} (hi : Snd p it) (hi1 : Snd p it1) (ht : Snd p tt) (he : Snd p el) : SndS p (.alc2 i own tg it own1 tg1 it1 tt el) := SndS.one (fun _ _ => rfl) fun {G n g Y X W} o hp f st h => by
  cases st with
  | Assign ts y pos =>
    cases ts with
    | nil => exact nomatch h
    | cons t ts =>
      cases ts with
      | cons _ _ => cases t <;> exact nomatch h
      | nil =>
        cases t with
        | Name x q =>
          cases y with
          | ListComp z gs scope lp =>
            cases gs with
            | nil => exact nomatch h
            | cons gn gs =>
              cases gn with
              | mk tgE iter ifs as =>
                cases ifs with
                | cons _ _ => cases gs <;> exact nomatch h
                | nil =>
                  cases gs with
                  | nil => exact nomatch h
                  | cons gn gs =>
                    cases gs with
                    | cons _ _ => cases gn; exact nomatch h
                    | nil =>
                      cases gn with
                      | mk tgE1 iter1 ifs1 as1 =>
                        have h : (decide (as = 0) && decide (as1 = 0) && decide (Y.N[i]? = some x) && locC Y.sc x && fnC Y.sc && (q.line == lp.line) && !(scope.names.any fun (n, k) => n == x && (k == .local || k == .cell)) && co2C p Y own tg it own1 tg1 it1 tt el z tgE iter tgE1 iter1 ifs1 scope) = true := h
                        obtain ⟨h, h8⟩ := and2 h
                        obtain ⟨h, h7⟩ := and2 h
                        obtain ⟨h, h6⟩ := and2 h
                        obtain ⟨h, h5⟩ := and2 h
                        obtain ⟨h, h4⟩ := and2 h
                        obtain ⟨h, h3⟩ := and2 h
                        obtain ⟨h1, h2⟩ := and2 h
                        have e := of_decide_eq_true h1
                        subst e
                        have e := of_decide_eq_true h2
                        subst e
                        have c := co2_ok o f hi hi1 ht he h8
                        have q := ss_setLc2 (spos := pos) (py := q) (pos := lp) o (by rw [f.N]; exact of_decide_eq_true h3) (by rw [f.sc]; exact locC_ok h4) (by rw [f.sc]; exact fnC_ok h5) h6 (by simpa using h7) c.a4 c.a5 c.a6 c.a7 c.a3 c.a8 c.a9 c.a10 c.a11 c.a12 c.a1 c.a2
                        rw [own_map] at q
                        exact q
          | _ => exact nomatch h
        | _ => cases y <;> exact nomatch h
  | _ => exact nomatch h
theorem not_dec {c : Prop} [Decidable c] (h : (!decide c) = true) : ¬ c := by simpa using h
theorem not_b {c : Bool} (h : (!c) = true) : c = false := by simpa using h
theorem two_ok (o : XOk G p n g X W) (f : Fits Y X) {i j : Nat} {x y : Str} {px py q1 q2 pos : Pos} {k1 k2 : Nat} {a b : Expr} {es : E} (he : Snd p es)
    (h : (fnC Y.sc && decide (Y.N[i]? = some x) && decide (Y.N[j]? = some y) && !decide (i = j) && !decide (x = y) && locC Y.sc x && locC Y.sc y && (py.line == px.line) && noStar a && noStar b && ![a, b].all (foldedForSure 8) && ![a, b].all (constantsAlone 8)) = true) (h13 : chA p Y es [a, b] = true) :
    PS X (.Assign [.Tuple [.Name x px, .Name y py] k1 q1] (.Tuple [a, b] k2 q2) pos) (tS G W (ex (prm p g n) (.par [i, j] es))) := by
  obtain ⟨h, h12⟩ := and2 h
  obtain ⟨h, h11⟩ := and2 h
  obtain ⟨h, h10⟩ := and2 h
  obtain ⟨h, h9⟩ := and2 h
  obtain ⟨h, h8⟩ := and2 h
  obtain ⟨h, h7⟩ := and2 h
  obtain ⟨h, h6⟩ := and2 h
  obtain ⟨h, h5⟩ := and2 h
  obtain ⟨h, h4⟩ := and2 h
  obtain ⟨h, h3⟩ := and2 h
  obtain ⟨h1, h2⟩ := and2 h
  have lx : X.env.scope.names.lookup x = some .local := by rw [f.sc]; exact locC_ok h6
  have ly : X.env.scope.names.lookup y = some .local := by rw [f.sc]; exact locC_ok h7
  exact ss_par o (by rw [f.N]; exact of_decide_eq_true h2) (by rw [f.N]; exact of_decide_eq_true h3) (not_dec h4) lx ly (he.a o f _ h13) (sw_two (by rw [f.sc]; exact fnC_ok h1) lx ly h8 (not_dec h5) h9 h10 (not_b h11) (not_b h12))
theorem three_ok (o : XOk G p n g X W) (f : Fits Y X) {i j l : Nat} {x y z : Str} {px py pz q1 q2 pos : Pos} {k1 k2 : Nat} {a b c : Expr} {es : E} (he : Snd p es)
    (h : (fnC Y.sc && decide (Y.N[i]? = some x) && decide (Y.N[j]? = some y) && decide (Y.N[l]? = some z) && !decide (i = j) && !decide (i = l) && !decide (j = l) && !decide (x = y) && !decide (x = z) && !decide (y = z) &&
      locC Y.sc x && locC Y.sc y && locC Y.sc z && (py.line == px.line) && (pz.line == px.line) && noStar a && noStar b && noStar c && ![a, b, c].all (foldedForSure 8) && ![a, b, c].all (constantsAlone 8)) = true) (h21 : chA p Y es [a, b, c] = true) :
    PS X (.Assign [.Tuple [.Name x px, .Name y py, .Name z pz] k1 q1] (.Tuple [a, b, c] k2 q2) pos) (tS G W (ex (prm p g n) (.par [i, j, l] es))) := by
  obtain ⟨h, h20⟩ := and2 h
  obtain ⟨h, h19⟩ := and2 h
  obtain ⟨h, h18⟩ := and2 h
  obtain ⟨h, h17⟩ := and2 h
  obtain ⟨h, h16⟩ := and2 h
  obtain ⟨h, h15⟩ := and2 h
  obtain ⟨h, h14⟩ := and2 h
  obtain ⟨h, h13⟩ := and2 h
  obtain ⟨h, h12⟩ := and2 h
  obtain ⟨h, h11⟩ := and2 h
  obtain ⟨h, h10⟩ := and2 h
  obtain ⟨h, h9⟩ := and2 h
  obtain ⟨h, h8⟩ := and2 h
  obtain ⟨h, h7⟩ := and2 h
  obtain ⟨h, h6⟩ := and2 h
  obtain ⟨h, h5⟩ := and2 h
  obtain ⟨h, h4⟩ := and2 h
  obtain ⟨h, h3⟩ := and2 h
  obtain ⟨h1, h2⟩ := and2 h
  have lx : X.env.scope.names.lookup x = some .local := by rw [f.sc]; exact locC_ok h11
  have ly : X.env.scope.names.lookup y = some .local := by rw [f.sc]; exact locC_ok h12
  have lz : X.env.scope.names.lookup z = some .local := by rw [f.sc]; exact locC_ok h13
  exact ss_par3 o (by rw [f.N]; exact of_decide_eq_true h2) (by rw [f.N]; exact of_decide_eq_true h3) (by rw [f.N]; exact of_decide_eq_true h4) (not_dec h5) (not_dec h6) (not_dec h7) lx ly lz (he.a o f _ h21)
    (sw_three (by rw [f.sc]; exact fnC_ok h1) lx ly lz h14 h15 (not_dec h8) (not_dec h9) (not_dec h10) h16 h17 h18 (not_b h19) (not_b h20))
theorem snds_par {is : List Nat} {es : E} (he : Snd p es) : SndS p (.par is es) := SndS.one (fun _ _ => rfl) fun {G n g Y X W} o hp f st h => by
  cases st with
  | Assign ts y pos =>
    cases ts with
    | nil => exact nomatch h
    | cons t ts =>
      cases ts with
      | cons _ _ => cases t <;> exact nomatch h
      | nil =>
        cases t with
        | Tuple ns k1 q1 =>
          cases y with
          | Tuple vs k2 q2 =>
            have h : ((parC Y is ns vs || (decide (is.length ≤ 100) && tgC.go Y is ns && anyCel Y.sc ns)) && chA p Y es vs) = true := h
            obtain ⟨h1, h2⟩ := and2 h
            rw [Bool.or_eq_true] at h1
            rcases h1 with h1 | h1
            case inr =>
              obtain ⟨h1, h3⟩ := and2 h1
              obtain ⟨h1, h4⟩ := and2 h1
              exact ss_parC o (tg_nms f is ns h4) (of_decide_eq_true h1) (he.a o f _ h2) (sw_cel f.sc h3)
            unfold parC at h1
            split at h1
            · exact two_ok o f he h1 h2
            · exact three_ok o f he h1 h2
            · cases h1
          | _ => exact nomatch h
        | _ => exact nomatch h
  | _ => exact nomatch h
theorem snds_sfl {ob e : E} {x : Nat} (ho : Snd p ob) (he : Snd p e) : SndS p (.sfl ob x e) := SndS.one (fun _ _ => rfl) fun {G n g Y X W} o hp f st h => by
  cases st with
  | Assign ts y pos =>
    cases ts with
    | nil => exact nomatch h
    | cons t ts =>
      cases ts with
      | cons _ _ => cases t <;> exact nomatch h
      | nil =>
        cases t with
        | Attribute a fl q =>
          have h : (decide (p.nms.getD x "" = fl) && ch p Y false ob a && ch p Y false e y) = true := h
          obtain ⟨h, h3⟩ := and2 h
          obtain ⟨h1, h2⟩ := and2 h
          exact ss_sfl o (by show G.nms.getD x "" = fl; rw [o.pg.nms]; exact of_decide_eq_true h1) (ho.v o f a h2) (he.v o f y h3) att_swap
        | _ => exact nomatch h
  | _ => exact nomatch h
theorem atC_ok (o : XOk G p n g X W) (f : Fits Y X) : ∀ {xs : List Nat} {es : List Expr}, atC p Y xs es = true → atNames G X 0 xs es := fun {xs} => by
  induction xs with
  | nil =>
    intro es h
    cases es with
    | nil => trivial
    | cons _ _ => exact nomatch h
  | cons x xs ih =>
    intro es h
    cases es with
    | nil => exact nomatch h
    | cons e es =>
      cases e with
      | Attribute ob fl q =>
        cases ob with
        | Name y q2 =>
          have h : (decide (p.nms.getD x "" = fl) && decide (Y.N[0]? = some y) && visC Y.sc y && nmC y && atC p Y xs es) = true := h
          obtain ⟨h, h5⟩ := and2 h
          obtain ⟨h, h4⟩ := and2 h
          obtain ⟨h, h3⟩ := and2 h
          obtain ⟨h1, h2⟩ := and2 h
          exact ⟨by show G.nms.getD x "" = fl; rw [o.pg.nms]; exact of_decide_eq_true h1, by rw [f.N]; exact of_decide_eq_true h2, by rw [f.sc]; exact visC_ok h3, (nmC_ok h4).1, (nmC_ok h4).2, ih h5⟩
        | _ => exact nomatch h
      | _ => exact nomatch h
theorem snds_sfp {xs : List Nat} {e : E} (he : Snd p e) : SndS p (.sfp xs e) := SndS.one (fun _ _ => rfl) fun {G n g Y X W} o hp f st h => by
  cases st with
  | Assign ts y pos =>
    cases ts with
    | nil => exact nomatch h
    | cons t ts =>
      cases ts with
      | cons _ _ => cases t <;> exact nomatch h
      | nil =>
        cases t with
        | Tuple es k q =>
          have h : (atC p Y xs es && !es.isEmpty && ch p Y false e y) = true := h
          obtain ⟨h, h3⟩ := and2 h
          obtain ⟨h1, h2⟩ := and2 h
          exact ss_sfp o (atC_ok o f h1) (fun z => by rw [z] at h2; cases h2) (he.v o f y h3)
        | _ => exact nomatch h
  | _ => exact nomatch h
theorem snds_sit {ob ix e : E} (ho : Snd p ob) (hi : Snd p ix) (he : Snd p e) : SndS p (.sit ob ix e) := SndS.one (fun _ _ => rfl) fun {G n g Y X W} o hp f st h => by
  cases st with
  | Assign ts y pos =>
    cases ts with
    | nil => exact nomatch h
    | cons t ts =>
      cases ts with
      | cons _ _ => cases t <;> exact nomatch h
      | nil =>
        cases t with
        | Subscript a i q =>
          have h : (noSlice i && ch p Y false ob a && ch p Y false ix i && ch p Y false e y) = true := h
          obtain ⟨h, h4⟩ := and2 h
          obtain ⟨h, h3⟩ := and2 h
          obtain ⟨h1, h2⟩ := and2 h
          exact ss_sit o (ho.v o f a h2) (hi.v o f i h3) (he.v o f y h4) h1
        | _ => exact nomatch h
  | _ => exact nomatch h
theorem snds_dput {ob ix e : E} (ho : Snd p ob) (hi : Snd p ix) (he : Snd p e) : SndS p (.dput ob ix e) := SndS.one (fun _ _ => rfl) fun {G n g Y X W} o hp f st h => by
  cases st with
  | Assign ts y pos =>
    cases ts with
    | nil => exact nomatch h
    | cons t ts =>
      cases ts with
      | cons _ _ => cases t <;> exact nomatch h
      | nil =>
        cases t with
        | Subscript a i q =>
          have h : (noLc y && ch p Y false ob a && ch p Y false ix i && ch p Y false e y) = true := h
          obtain ⟨h, h4⟩ := and2 h
          obtain ⟨h, h3⟩ := and2 h
          obtain ⟨h1, h2⟩ := and2 h
          exact ss_dput o (ho.v o f a h2) (hi.v o f i h3) (he.v o f y h4) h1
        | _ => exact nomatch h
  | _ => exact nomatch h
theorem snds_app {i : Nat} {e : E} (he : Snd p e) : SndS p (.app i e) := SndS.one (fun _ _ => rfl) fun {G n g Y X W} o hp f st h => by
  cases st with
  | Expr x pos =>
    cases x with
    | Call fe xs ks q3 =>
      cases fe with
      | Attribute ob m q2 =>
        cases ob with
        | Name x q1 =>
          cases xs with
          | nil => exact nomatch h
          | cons y xs =>
          cases xs with
          | cons _ _ => exact nomatch h
          | nil =>
          cases ks with
          | cons _ _ => exact nomatch h
          | nil =>
            have h : (decide (m = "append") && decide (Y.N[i]? = some x) && visC Y.sc x && nmC x && noStar y && (q2.endLine == q3.line) && ch p Y false e y) = true := h
            obtain ⟨h, h7⟩ := and2 h
            obtain ⟨h, h6⟩ := and2 h
            obtain ⟨h, h5⟩ := and2 h
            obtain ⟨h, h4⟩ := and2 h
            obtain ⟨h, h3⟩ := and2 h
            obtain ⟨h1, h2⟩ := and2 h
            have em := of_decide_eq_true h1
            subst em
            exact ss_app o (by rw [f.N]; exact of_decide_eq_true h2) (by rw [f.sc]; exact visC_ok h3) (nmC_ok h4).1 (nmC_ok h4).2 (he.v o f y h7) h5 h6
        | _ => exact nomatch h
      | _ => exact nomatch h
    | _ => exact nomatch h
  | _ => exact nomatch h
theorem snds_ext {i : Nat} {e : E} (he : Snd p e) : SndS p (.ext i e) := SndS.one (fun _ _ => rfl) fun {G n g Y X W} o hp f st h => by
  cases st with
  | Expr x pos =>
    cases x with
    | Call fe xs ks q3 =>
      cases fe with
      | Attribute ob m q2 =>
        cases ob with
        | Name x q1 =>
          cases xs with
          | nil => exact nomatch h
          | cons y xs =>
          cases xs with
          | cons _ _ => exact nomatch h
          | nil =>
          cases ks with
          | cons _ _ => exact nomatch h
          | nil =>
            have h : (decide (m = "extend") && decide (Y.N[i]? = some x) && visC Y.sc x && nmC x && noStar y && (q2.endLine == q3.line) && ch p Y false e y) = true := h
            obtain ⟨h, h7⟩ := and2 h
            obtain ⟨h, h6⟩ := and2 h
            obtain ⟨h, h5⟩ := and2 h
            obtain ⟨h, h4⟩ := and2 h
            obtain ⟨h, h3⟩ := and2 h
            obtain ⟨h1, h2⟩ := and2 h
            have em := of_decide_eq_true h1
            subst em
            exact ss_ext o (by rw [f.N]; exact of_decide_eq_true h2) (by rw [f.sc]; exact visC_ok h3) (nmC_ok h4).1 (nmC_ok h4).2 (he.v o f y h7) h5 h6
        | _ => exact nomatch h
      | _ => exact nomatch h
    | _ => exact nomatch h
  | _ => exact nomatch h
theorem snds_for {tg : Tg} {it : E} {b : S} (hi : Snd p it) (hb : SndS p b) : SndS p (.for tg it b) := SndS.one (fun _ _ => rfl) fun {G n g Y X W} o hp f st h => by
  cases st with
  | For tgE iter body orelse pos =>
    cases orelse with
    | cons _ _ => exact nomatch h
    | nil =>
      have h : (noSet iter && tgC Y tg tgE && chI p Y it tgE iter && chSs p Y b body) = true := h
      obtain ⟨h, h4⟩ := and2 h
      obtain ⟨h, h3⟩ := and2 h
      obtain ⟨h1, h2⟩ := and2 h
      exact ss_for o hp (hi.i o f tgE iter h3) (tg_ok o f h2) (hb.ss o hp f body h4) h1
  | _ => exact nomatch h
theorem snds_whl {k : Nat} {c : E} {b : S} (hc : Snd p c) (hb : SndS p b) : SndS p (.whl k c b) := SndS.one (fun _ _ => rfl) fun {G n g Y X W} o hp f st h => by
  cases st with
  | While x body orelse pos =>
    cases orelse with
    | cons _ _ => exact nomatch h
    | nil =>
      have h : (ch p Y true c x && chSs p Y b body) = true := h
      exact ss_whl hp (hc.t o f x (and2 h).1) (hb.ss o hp f body (and2 h).2)
  | _ => exact nomatch h
theorem snds_rai {c : Nat} {es : E} : SndS p (.rai c es) := SndS.one (fun _ _ => rfl) fun o hp f st h => (nomatch h)
end
theorem sndS (p : Pg) (b : S) : SndS p b := by
  induction b with
  | nil => exact snds_nil
  | cons a r ha hr => exact snds_cons ha hr
  | asg t e => exact snds_asg (snd p e)
  | alc i own tg it tt el => exact snds_alc (snd p it) (snd p tt) (snd p el)
  | alc2 i own tg it own1 tg1 it1 tt el => exact snds_alc2 (snd p it) (snd p it1) (snd p tt) (snd p el)
  | par is es => exact snds_par (snd p es)
  | sfl o x e => exact snds_sfl (snd p o) (snd p e)
  | sfp xs e => exact snds_sfp (snd p e)
  | sit o i e => exact snds_sit (snd p o) (snd p i) (snd p e)
  | dput o i e => exact snds_dput (snd p o) (snd p i) (snd p e)
  | exp e => exact snds_exp (snd p e)
  | app x e => exact snds_app (snd p e)
  | ext x e => exact snds_ext (snd p e)
  | ret e => exact snds_ret (snd p e)
  | rtn => exact snds_rtn
  | ife c a b ha hb => exact snds_ife (snd p c) ha hb
  | «for» t it b hb => exact snds_for (snd p it) hb
  | whl n c b hb => exact snds_whl (snd p c) hb
  | rai c es => exact snds_rai
  | pas => exact snds_pas
  | nev => exact ss_nev'
  | fzv i => exact SndS.one (fun _ _ => rfl) fun o hp f st h => (nomatch h)
end Wv
namespace Wv
open PySem L2
/-- parameters without defaults that are in use -/
structure PlainArgs (a : Arguments) (ns : List Str) (star : Option Str) : Prop where
  po : a.posonlyargs = []
  ko : a.kwonlyargs = []
  kw : a.kwarg = none
  ar : a.args.map (·.arg) = ns
  va : a.vararg.map (·.arg) = star
theorem lookup_zip : ∀ {ns : List Str} {us : List Value} (n : Str), n ∈ ns → us.length = ns.length → ∃ u, (ns.zip us).lookup n = some u
  | [], _, n, h, _ => by cases h
  | m :: ns, [], n, _, l => by cases l
  | m :: ns, u :: us, n, h, l => by
    rw [List.zip_cons_cons, List.lookup_cons]
    cases q : n == m with
    | true => exact ⟨u, rfl⟩
    | false =>
      rcases List.mem_cons.mp h with e | e
      · rw [e, beq_self_eq_true] at q
        cases q
      · exact lookup_zip n e (Nat.succ.inj l)
theorem filter_zip : ∀ {ns : List Str} {us : List Value}, ns.Nodup → us.length = ns.length → ns.filterMap (fun n => ((ns.zip us).lookup n).map (n, ·)) = ns.zip us
  | [], us, _, _ => by cases us <;> rfl
  | m :: ns, [], _, l => by cases l
  | m :: ns, u :: us, nd, l => by
    obtain ⟨n1, n2⟩ := List.nodup_cons.mp nd
    rw [List.zip_cons_cons, List.filterMap_cons]
    have e1 : List.lookup m ((m, u) :: ns.zip us) = some u := by rw [List.lookup_cons, beq_self_eq_true]
    rw [e1]
    show (m, u) :: _ = _
    congr 1
    have z : ∀ l : List Str, (∀ n ∈ l, n ≠ m) → l.filterMap (fun n => (List.lookup n ((m, u) :: ns.zip us)).map (n, ·)) = l.filterMap fun n => ((ns.zip us).lookup n).map (n, ·) := fun l => by
      induction l with
      | nil => exact fun _ => rfl
      | cons n l ih =>
        intro hl
        have q : (n == m) = false := beq_false_of_ne (hl n List.mem_cons_self)
        rw [List.filterMap_cons, List.filterMap_cons, ih fun k hk => hl k (List.mem_cons_of_mem _ hk), List.lookup_cons, q]
    rw [z ns fun n hn e => n1 (e ▸ hn), filter_zip n2 (Nat.succ.inj l)]
theorem bind_plain {fd : FuncData} {ns : List Str} (h : PlainArgs fd.params ns none) (hd : fd.defaults = .none) (nd : ns.Nodup) {us : List Value} (hl : us.length = ns.length) : bindArgs fd ⟨us, []⟩ = pure (ns.zip us) := by
  have hv : fd.params.vararg = none := by
    cases z : fd.params.vararg with
    | none => rfl
    | some a =>
      have y := h.va
      rw [z] at y
      cases y
  have hs : seqItems? .none = pure none := rfl
  have hm : (ns.filter fun n => ((ns.zip us).lookup n).isNone) = [] := by
    rw [List.filter_eq_nil_iff]
    intro n hn
    obtain ⟨u, e⟩ := lookup_zip n hn hl
    rw [e]
    simp
  have hf := filter_zip nd hl
  unfold bindArgs
  simp only [h.po, h.ko, h.kw, h.ar, hv, hd, hs, List.map_nil, List.nil_append, List.append_nil, pure_bind, List.forIn_nil, Option.getD_none, List.length_nil, Nat.sub_zero, List.take_length, hm, List.isEmpty_nil, Bool.not_true, List.drop_nil, List.zip_nil_right, hl, gt_iff_lt, Nat.lt_irrefl, decide_false, Bool.false_and, Bool.false_eq_true, if_false, List.drop_length, Option.isNone_none, hf]
theorem take_zip : ∀ {ns : List Str} {us rest : List Value}, us.length = ns.length → ns.zip (us ++ rest) = ns.zip us
  | [], us, rest, _ => rfl
  | m :: ns, [], _, l => by cases l
  | m :: ns, u :: us, rest, l => by
    rw [List.cons_append, List.zip_cons_cons, List.zip_cons_cons, take_zip (Nat.succ.inj l)]
theorem bind_star {fd : FuncData} {ns : List Str} {v : Str} (h : PlainArgs fd.params ns (some v)) (hd : fd.defaults = .none) (nd : ns.Nodup) {us rest : List Value} (hl : us.length = ns.length) :
    bindArgs fd ⟨us ++ rest, []⟩ = (newTuple rest >>= fun t => pure (ns.zip us ++ [(v, t)])) := by
  obtain ⟨a, hv, ha⟩ : ∃ a, fd.params.vararg = some a ∧ a.arg = v := by
    have y := h.va
    cases z : fd.params.vararg with
    | none =>
      rw [z] at y
      cases y
    | some a =>
      rw [z] at y
      exact ⟨a, rfl, Option.some.inj y⟩
  have hs : seqItems? .none = pure none := rfl
  have hm : (ns.filter fun n => ((ns.zip us).lookup n).isNone) = [] := by
    rw [List.filter_eq_nil_iff]
    intro n hn
    obtain ⟨u, e⟩ := lookup_zip n hn hl
    rw [e]
    simp
  have hf := filter_zip nd hl
  have hz : ns.zip (us ++ rest) = ns.zip us := take_zip hl
  have hdr : (us ++ rest).drop ns.length = rest := by rw [← hl, List.drop_left]
  unfold bindArgs
  simp only [h.po, h.ko, h.kw, h.ar, hv, ha, hd, hs, hz, hdr, List.map_nil, List.nil_append, List.append_nil, pure_bind, List.forIn_nil, Option.getD_none, List.length_nil, Nat.sub_zero, List.take_length, hm, List.isEmpty_nil, Bool.not_true, List.drop_nil, List.zip_nil_right, Option.isNone_some, Bool.and_false, Bool.false_eq_true, if_false, List.drop_length, hf]

section
variable {G : Cfg} {B : Bs} {W : Wd} {env : Ev} {fs : FS} {hs : List (V × R)} {σ : St} {H : Hp}
/-- an own object that is still open becomes a cell; the frame ends -/
theorem Rel.seal (h : Rel G B W env fs hs σ H) {x : Addr} {k : Nat} {c : Cl} (e1 : W.ml[k]? = some x) (e2 : fs.ol[k]? = some (true, c)) :
    Rel G B ⟨W.F, W.mu ++ [x], []⟩ [] ⟨[], fs.st ++ [c]⟩ [(.ref x, .fz (.cel fs.st.length))] [] H := by
  obtain ⟨q1, q2, _⟩ := h.own k x true c e1 e2
  have nF : ¬ W.F x := q2 rfl
  have nm : x ∉ W.mu := fun z => h.disj z (get_mem e1)
  have f : ∀ b, W.F b → W.F b ∧ H b = H b := fun b y => ⟨y, rfl⟩
  have mp : ∀ (n : Nat) a, W.mu[n]? = some a → (W.mu ++ [x])[n]? = some a := fun n a e => by
    rw [List.getElem?_append_left (List.getElem?_eq_some_iff.mp e).1]
    exact e
  have cm : ∀ a c, ClAt G W.F W.mu H a c → ClAt G W.F (W.mu ++ [x]) H a c := fun a c z => z.mono (W' := ⟨W.F, W.mu ++ [x], []⟩) f mp rfl
  have lx : (W.mu ++ [x])[fs.st.length]? = some x := by rw [h.stl]; exact get_last
  refine ⟨h.keep, h.fsub, h.fnew, fun n a e => mp n a (h.mpre n a e), fun a e => ?_, (fun a e => nomatch e), ?_, fun a e => ?_, h.fdom, by rw [List.length_append, List.length_append, h.stl]; rfl, fun n a d z1 z2 => ?_, rfl, (fun k a b c e _ => by simp at e), rfl, (fun i r e => by simp at e), fun q hq => ?_⟩
  · rcases List.mem_append.mp e with z | z
    · exact h.mnew a z
    · rw [List.mem_singleton.mp z]
      exact .inr (h.lnew x (get_mem e1))
  · rw [List.append_nil]
    refine List.nodup_append.mpr ⟨h.ndM, by simp, fun a ha b hb e => ?_⟩
    rw [List.mem_singleton.mp hb] at e
    exact nm (e ▸ ha)
  · rcases List.mem_append.mp e with z | z
    · exact h.muF a z
    · rw [List.mem_singleton.mp z]
      exact nF
  · by_cases hl : n < W.mu.length
    · have z1 : (W.mu ++ [x])[n]? = some a := z1
      rw [List.getElem?_append_left hl] at z1
      have z2 : (fs.st ++ [c])[n]? = some d := z2
      rw [List.getElem?_append_left (by rw [h.stl]; exact hl)] at z2
      exact cm a d (h.cell n a d z1 z2)
    · have z1 : (W.mu ++ [x])[n]? = some a := z1
      have z2 : (fs.st ++ [c])[n]? = some d := z2
      have l1 := (List.getElem?_eq_some_iff.mp z1).1
      rw [List.length_append] at l1
      have l1 : n < W.mu.length + 1 := l1
      have e : n = W.mu.length := by omega
      subst e
      rw [get_last] at z1
      cases z1
      rw [← h.stl, get_last] at z2
      cases z2
      exact cm x c q1
  · rw [List.mem_singleton.mp hq]
    exact .cel lx
end
end Wv
namespace Wv
open PySem L2 GenW
section
variable {prog : Program} {w : World} {A : Around} {R : GenEnd} {Y : Protocol} {n : Nat} {s₀ : Shared} {c : Code} {fs : List Frame} {s : Shared} {env : Env}
  {K : Flow → Sem PySem.Fin} {J : Value → Sem PySem.Fin} {gd : Bool → Bool} {lv : List Value → List Value} {target iter : Expr} {it : Value} {body : List Stmt} {pos : Pos}
abbrev backK (env : Env) (K : Flow → Sem PySem.Fin) (J : Value → Sem PySem.Fin) (gd : Bool → Bool) (lv : List Value → List Value) : Result → Sem PySem.Fin := fun r =>
  ((match r with | .ok f => (.pure f : Sem Flow) | .error e => .raise e).onRaise (cameBack env)).wrap K J gd lv
abbrev outJ (env : Env) : Value → Sem PySem.Fin := fun x => (do noteFrame x env; theTreesLotGoes x : Sem Unit).wrap (fun _ => .raise x) .raise id id
theorem seg_For (hs : ∀ x, foldedSetIterable iter env x = pure x)
    (h : wpAny (model prog w) (A.over c fs) (eval iter env) (fun v s1 => wpAny (model prog w) (A.over c fs) (pyIter v) (fun itv s2 => ∀ p, Seg (model prog w) A R Y n s₀ (.forLoop target itv body [] env) ((model prog w).den (.forLoop target itv body [] env))
      (.ret (backK env K J gd lv) none (gd false) (lv []) c p [] :: fs) s2) (fun x s' => Seg (model prog w) A R Y n s₀ c (J x) fs s') s1) (fun x s' => Seg (model prog w) A R Y n s₀ c (J x) fs s') s) :
    Seg (model prog w) A R Y n s₀ c ((exec (.For target iter body [] pos) env).wrap K J gd lv) fs s := by
  rw [exec_For]
  refine seg_bind_wrap (wpAny_standAt (seg_bind_wrap (wpAny_mono h (fun v s1 h1 => ?_) fun _ _ z => z)))
  refine seg_bind_wrap (wpAny_of_eq (hs v) (seg_bind_wrap (wpAny_standAt (seg_bind_wrap (wpAny_holding (wpAny_mono h1 (fun itv s2 h2 => ?_) fun _ _ z => z))))))
  exact seg_call h2
theorem seg_forLoop
    (h : wpAny (model prog w) (A.over (.forLoop target it body [] env) fs) (pyNext it) (fun r s1 => match r with
        | none => Seg (model prog w) A R Y n s₀ (.forLoop target it body [] env) (.pure (.again (.block [] env))) fs s1
        | some v => wpAny (model prog w) (A.over (.forLoop target it body [] env) fs) (letOwnedTupleGo target it v) (fun _ s2 => wpAny (model prog w) (A.over (.forLoop target it body [] env) fs) (assign target env v) (fun _ s3 =>
            Seg (model prog w) A R Y n s₀ (.forLoop target it body [] env) ((execs body env).wrap (fun f => match f with
              | .next | .cont => .pure (.again (.forLoop target it body [] env))
              | .brk => .pure (.done .next)
              | .ret v => .pure (.done (.ret v))) (outJ env) id id) fs s3)
          (fun x s' => Seg (model prog w) A R Y n s₀ (.forLoop target it body [] env) (outJ env x) fs s') s2)
          (fun x s' => Seg (model prog w) A R Y n s₀ (.forLoop target it body [] env) (outJ env x) fs s') s1)
      (fun x s' => Seg (model prog w) A R Y n s₀ (.forLoop target it body [] env) (outJ env x) fs s') s) :
    Seg (model prog w) A R Y n s₀ (.forLoop target it body [] env) ((model prog w).den (.forLoop target it body [] env)) fs s := by
  show Seg _ A R Y n s₀ _ ((forTurn target it body [] env).onRaise (fun x => do noteFrame x env; theTreesLotGoes x)) fs s
  have ej : (fun e => (do noteFrame e env; theTreesLotGoes e : Sem Unit).bind fun _ => (.raise e : Sem PySem.Fin)) = outJ env := by
    funext e
    rw [Sem.bind_eq_wrap]
  unfold forTurn
  rw [Sem.onRaise_eq_wrap]
  rw [ej]
  refine seg_bind_wrap (wpAny_standAt (seg_bind_wrap (wpAny_onRaise (wpAny_mono h (fun r s1 h1 => ?_) fun x s' z => wpAny_standAt z))))
  cases r with
  | none => exact h1
  | some v =>
    refine seg_bind_wrap (wpAny_mono h1 (fun _ s2 h2 => ?_) fun _ _ z => z)
    refine seg_bind_wrap (wpAny_mono h2 (fun _ s3 h3 => ?_) fun _ _ z => z)
    rw [Sem.bind_eq_wrap', Sem.wrap_wrap]
    have e : Sem.wrap (fun a => Sem.wrap Sem.pure (outJ env) id id (match a with
        | Flow.next => again (Code.forLoop target it body [] env)
        | Flow.cont => again (Code.forLoop target it body [] env)
        | Flow.brk => pure (PySem.Fin.done Flow.next)
        | Flow.ret v => pure (PySem.Fin.done (Flow.ret v)))) (fun e => Sem.wrap Sem.pure (outJ env) id id (Sem.raise e)) id id (execs body env) = (execs body env).wrap (fun f => match f with
          | .next | .cont => .pure (.again (.forLoop target it body [] env))
          | .brk => .pure (.done .next)
          | .ret v => .pure (.done (.ret v))) (outJ env) id id := Sem.wrap_congr _ _ _ (fun f => by cases f <;> rfl) (fun e => rfl)
    exact Eq.mpr (congrArg (fun t => Seg (model prog w) A R Y n s₀ (.forLoop target it body [] env) t fs s3) e) h3
end
def tGFor (wi : TI) (g : TG) (tb : TGn) : TGn := fun D ys σ H => wi σ H fun J H1 => ∃ W : Nat → Nat → List V → St → Hp → Prop, (∃ m, W 0 m ys σ H1) ∧ ∀ i m ys σ H, W i m ys σ H →
  (J.stop i H ∧ D.nx ys σ H) ∨ (J.go i H ∧ ∃ N : List V → St → Hp → Prop, (∀ ys' σ' H', N ys' σ' H' → ∃ m', m' < m ∧ W (i + 1) m' ys' σ' H') ∧ ∀ x H', J.yld i H x H' → g x σ H' fun σ2 H2 => tb { D with nx := N, ct := N, bk := D.nx } ys σ2 H2)
theorem fp_stat {X : Cx} {S : Addr} {o o' : Obj} {ip : List (Addr × Obj)} {H H' : Hp} {b : Addr} (h : FpOk X ((S, o) :: ip) H b) (hn : H' b = none) : FpOk X ((S, o') :: ip) H' b := by
  obtain ⟨_, h1, h2, h3, h4, h5⟩ := h
  refine ⟨hn, h1, h2, h3, h4, fun p hp => ?_⟩
  rcases List.mem_append.mp hp with z | z
  · exact h5 p (List.mem_append_left _ z)
  · rcases List.mem_cons.mp z with z | z
    · rw [z]
      exact h5 (S, o) (List.mem_append_right _ List.mem_cons_self)
    · exact h5 p (List.mem_append_right _ (List.mem_cons_of_mem _ z))
theorem gs_for {X : Cx} {tg iter : Expr} {body : List Stmt} {pos : Pos} {wi : TI} {g : TG} {tb : TGn} (hp : PassesOwn (model X.prog X.w) X.A X.env X.xe) (hc : X.calm = true) (hi : PI X tg iter wi) (hg : PG X tg g) (hb : GSs X body tb)
    (hs : ∀ x, foldedSetIterable iter X.env x = pure x) : GS X (.For tg iter body [] pos) (tGFor wi g tb) := by
  refine ⟨fun A S ip R n ys s₀ c fs K J gd lv s σ H D gc hn k hI ht => ?_⟩
  obtain ⟨acc, cc, r, I⟩ := hI
  refine seg_For hs ?_
  rw [gc.over]
  refine wpAny_mono (hi.run _ s σ H _ I ht) (fun v s1 h1 => wpAny_mono h1 (fun itv s2 h2 p => ?_) fun x s' hx => k.exc n s₀ x s' hx) fun x s' hx => k.exc n s₀ x s' hx
  obtain ⟨it, fp, tn, JJ, H2, e, I2, T, st2, f2, W, ⟨m0, w0⟩, turn⟩ := h2
  subst e
  have gl := gc_loop (k := backK X.env K J gd lv) (c' := .forLoop tg (.ref it) body [] X.env) (l := lv []) (kp := []) (p := p) gc rfl rfl
  have gb := gc_loop (k := backK X.env K J gd lv) (c' := .block [] X.env) (l := lv []) (kp := []) (p := p) gc rfl rfl
  have ee : ∀ (n : Nat) (s₀ : Shared) (x : Value) (s' : Shared), X.xe x s' → Seg (model X.prog X.w) A R (GY X S) n s₀ (.forLoop tg (.ref it) body [] X.env) (outJ X.env x) (.ret (backK X.env K J gd lv) none (gd false) (lv []) c p [] :: fs) s' := fun n s₀ x s' hx => by
    refine seg_wrap ?_
    rw [gl.over]
    refine wpAny_bind (wpAny_mono (hp x s' hx) (fun _ s'' hcb => wpAny_theTreesLotGoes ?_) fun y s'' hcb => ?_)
    · exact seg_leaf (.error x) (seg_cameBack gc k hcb)
    · exact seg_leaf (.error y) (seg_cameBack gc k hcb)
  have loop : ∀ (m i n : Nat) (ys : List V) (s₀ s : Shared) (σ : St) (H : Hp) (acc : Array Value) (cc : Nat), n + ys.length = sizeLine → W i m ys σ H → Vals ys acc.toList → Inv X ((S, lstObj acc cc) :: ip) σ H s → tn i s.heap → (∀ b ∈ fp, FpOk X ((S, lstObj acc cc) :: ip) H b) →
      Seg (model X.prog X.w) A R (GY X S) n s₀ (.forLoop tg (.ref it) body [] X.env) ((model X.prog X.w).den (.forLoop tg (.ref it) body [] X.env)) (.ret (backK X.env K J gd lv) none (gd false) (lv []) c p [] :: fs) s := by
    intro m
    induction m using Nat.strongRecOn with
    | ind m ih =>
      intro i n ys s₀ s σ H acc cc hn w r I st f
      refine seg_forLoop ?_
      rw [gl.over]
      rcases turn i m ys σ H w with ⟨stop, qn⟩ | ⟨go, N, hN, step⟩
      · refine wpAny_mono (T.done X rfl rfl rfl hc i _ s σ H X.xe I f st stop) (fun rr s4 ⟨hr, I4⟩ => ?_) fun x s' hx => ee n s₀ x s' hx
        subst hr
        refine seg_again rfl ?_
        show Seg _ _ _ _ _ _ _ (((execs [] X.env).onRaise (fun x => do noteFrame x X.env; theTreesLotGoes x)) >>= fun f => pure (.done f)) _ _
        refine seg_bind ?_
        rw [gb.over]
        refine wpAny_onRaise (wpAny_execs_nil ?_)
        exact seg_leaf (.ok .next) (k.ok n ys s₀ s4 .next hn ⟨σ, H, ⟨acc, cc, r, I4⟩, qn⟩)
      · refine wpAny_mono (T.item X rfl rfl rfl hc i _ s σ H X.xe I f st go) (fun rr s4 ⟨u, hr, h4⟩ => ?_) fun x s' hx => ee n s₀ x s' hx
        subst hr
        refine wpAny_mono h4 (fun _ s5 ⟨x, H5, I5, r5, y5, st5, fr5⟩ => ?_) fun x s' hx => ee n s₀ x s' hx
        have f5 : ∀ b ∈ fp, FpOk X ((S, lstObj acc cc) :: ip) H5 b := fun b hb => fp_stat (f b hb) (fr5 b hb)
        have I5' := I5.pinned f5 (T.obj _ _ st5)
        refine wpAny_mono (hg.run _ s5 σ H5 x u _ I5' r5 (step x H5 y5)) (fun _ s6 ⟨σ6, H6, I6, q6⟩ => ?_) fun x s' hx => ee n s₀ x s' hx
        have gl' : GC X S (ip ++ pinsAt fp s5.heap) A (.forLoop tg (.ref it) body [] X.env) (.ret (backK X.env K J gd lv) none (gd false) (lv []) c p [] :: fs) id :=
          ⟨gl.pn, fun q hq => (List.mem_append.mp hq).elim (gl.ip q) fun z => fun e => (f5 q.1 (of_pinsAt z).1).2.2.2.2.2 (S, lstObj acc cc) (List.mem_append_right _ List.mem_cons_self) e.symm, gl.apart, gl.over, gl.split, gl.guard, gl.gd⟩
        have again : ∀ {n' : Nat} {ys' : List V} {s₀' s7 : Shared} {σ7 : St} {H7 : Hp}, n' + ys'.length = sizeLine → GI X S (ip ++ pinsAt fp s5.heap) ys' σ7 H7 s7 → N ys' σ7 H7 →
            Seg (model X.prog X.w) A R (GY X S) n' s₀' (.forLoop tg (.ref it) body [] X.env) (.pure (.again (.forLoop tg (.ref it) body [] X.env))) (.ret (backK X.env K J gd lv) none (gd false) (lv []) c p [] :: fs) s7 := fun {n' ys' s₀' s7 σ7 H7} hn' I7 n7 => by
          obtain ⟨acc7, cc7, r7, I7⟩ := I7
          obtain ⟨m', hm, w7⟩ := hN ys' σ7 H7 n7
          have pin : ∀ b ∈ fp, ∀ o, s5.heap.get? b = some o → s7.heap.get? b = some o ∧ H7 b = none := fun b hb o e => by
            have z := I7.pin (b, o) (List.mem_append_right _ (List.mem_cons_of_mem _ (List.mem_append_right _ (mem_pinsAt hb e))))
            exact ⟨z.1, z.2.1⟩
          refine seg_again rfl (ih m' hm (i + 1) n' ys' s₀' s7 σ7 H7 acc7 cc7 hn' w7 r7 ?_ (T.keep _ _ _ st5 fun b hb o e => (pin b hb o e).1) fun b hb => ?_)
          · exact Inv.unpinned (pins := (S, lstObj acc7 cc7) :: ip) (pl := pinsAt fp s5.heap) I7
          · obtain ⟨o, e, d⟩ := T.obj _ _ st5 b hb
            exact fp_stat (f b hb) (pin b hb o e).2
        refine hb.run A S (ip ++ pinsAt fp s5.heap) R n ys s₀ _ _ _ _ id id s6 σ6 H6 { D with nx := N, ct := N, bk := D.nx } gl' hn ⟨fun n' ys' s₀' s7 f hn' hs7 => ?_, fun n' s₀' x s3 hx => ee n' s₀' x s3 hx⟩ ⟨acc, cc, r, I6⟩ q6
        have back : ∀ {σ7 : St} {H7 : Hp} {ys' : List V}, GI X S (ip ++ pinsAt fp s5.heap) ys' σ7 H7 s7 → GI X S ip ys' σ7 H7 s7 := fun {σ7 H7 ys'} z => by
          obtain ⟨a7, c7, r7, I7⟩ := z
          exact ⟨a7, c7, r7, Inv.unpinned (pins := (S, lstObj a7 c7) :: ip) (pl := pinsAt fp s5.heap) I7⟩
        cases f with
        | next =>
          obtain ⟨σ7, H7, I7, n7⟩ := hs7
          exact again hn' I7 n7
        | cont =>
          obtain ⟨σ7, H7, I7, n7⟩ := hs7
          exact again hn' I7 n7
        | brk =>
          obtain ⟨σ7, H7, I7, n7⟩ := hs7
          exact seg_leaf (.ok .next) (k.ok n' ys' s₀' s7 .next hn' ⟨σ7, H7, back I7, n7⟩)
        | ret v =>
          obtain ⟨x7, σ7, H7, I7, rv7, n7⟩ := hs7
          exact seg_leaf (.ok (.ret v)) (k.ok n' ys' s₀' s7 (.ret v) hn' ⟨x7, σ7, H7, back I7, rv7, n7⟩)
  exact loop m0 0 n ys s₀ s2 σ H2 acc cc hn w0 r I2 st2 f2
def tGIf (c : TT) (ta tb : TGn) : TGn := fun D ys σ H => c σ H fun b H1 => if b = true then ta D ys σ H1 else tb D ys σ H1
theorem gs_if {X : Cx} {c : Expr} {a b : List Stmt} {pos : Pos} {tc : TT} {ta tb : TGn} (hc : PT X c tc) (ha : GSs X a ta) (hb : GSs X b tb) : GS X (.If c a b pos) (tGIf tc ta tb) := by
  refine ⟨fun A S ip R n ys s₀ cd fs K J gd lv s σ H D g hn k hI ht => ?_⟩
  obtain ⟨acc, cc, r, I⟩ := hI
  refine seg_bind_wrap (m := standAt pos) (wpAny_standAt ?_)
  refine seg_bind_wrap (m := isTrue c X.env (eval c X.env)) ?_
  rw [g.over]
  refine wpAny_mono (hc.run _ s σ H _ I ht) (fun v s1 ⟨H1, I1, q⟩ => ?_) fun x s' hx => k.exc n s₀ x s' hx
  cases v with
  | true =>
    rw [if_pos rfl] at q ⊢
    exact ha.run A S ip R n ys s₀ cd fs K J gd lv s1 σ H1 D g hn k ⟨acc, cc, r, I1⟩ q
  | false =>
    rw [if_neg Bool.false_ne_true] at q ⊢
    exact hb.run A S ip R n ys s₀ cd fs K J gd lv s1 σ H1 D g hn k ⟨acc, cc, r, I1⟩ q
section
variable {G : Cfg} {X : Cx} {W : WX} {P : Prm} {B : Bs} {U : Wd} {env : Ev} {fs : FS} {σ : St} {H : Hp}
theorem Reps.ofR {W : Wd} {H : Hp} : ∀ {vs : List V} {ds : List D}, RepRs G W H vs (ds.map R.fz) → Reps G W.F W.mu H vs ds
  | _, [], .nil => .nil
  | _, _ :: _, .cons h t => .cons h (Reps.ofR t)
def tGn (G : Cfg) (W : WX) (P : Prm) (tg : Tg) (it tt el : E) : TGn :=
  tGThen (tGFor (tI G W (evX P it)) (gT G tg) (tGThen (tGIf (tT G W (tb (ev P tt))) (tGThen (tGYield (tE G W (ev P el))) tG0) tG0) tG0)) tG0
theorem rd_gen {tg : Tg} {it tt el : E} {Q : List V → Hp → Prop} {DD : GEnds} (hD : DD.nx = fun ys _ H' => Q ys H') {rs : List R} {ds xs acc : List D} {s1 s2 s3 : FS} (g0 : Rel G B U env fs [] σ H) (e1 : evI P it env fs = .ok rs s1) (e2 : fzs s1 rs = some (ds, s2)) (e3 : itD it ds = some xs)
    (e4 : loopG P tg tt el xs env s2 [] = some (acc, s3)) (fin : ∀ U env fs hs σ H' ys, Rel G B U env fs hs σ H' → Reps G U.F U.mu H' ys acc → fs.st = s3.st → Q ys H') : tGn G W P tg it tt el DD [] σ H := by
  have ee : evX P it env fs = .ok (rs, ds, xs) s1 := by
    unfold evX
    rw [e1]
    show need (dvs s1 rs) _ = _
    rw [fzs_dvs e2]
    show need (itD it ds) _ = _
    rw [e3]
    rfl
  refine ⟨B, U, env, fs, [], g0, ?_⟩
  rw [ee]
  intro U1 H1 vs J g1 rr _ hJ
  obtain ⟨U2, g2, r2, _⟩ := g1.fzAll rr e2
  have hl : vs.length = (ds.map R.fz).length := by rw [List.length_map]; exact r2.length
  let hs1 : List (V × R) := vs.zip (ds.map R.fz)
  let Wi : Nat → Nat → List V → St → Hp → Prop := fun i m ys σ H => m = xs.length - i ∧ i ≤ xs.length ∧ ∃ U env fs a, Rel G B U env fs (ys.zip (a.map R.fz) ++ hs1) σ H ∧ ys.length = a.length ∧ loopG P tg tt el (xs.drop i) env fs a = some (acc, s3)
  refine ⟨Wi, ⟨_, rfl, Nat.zero_le _, U2, env, s2, [], by have z := g2.holdAll (.of r2); rw [List.append_nil] at z; exact z, rfl, e4⟩, ?_⟩
  rintro i m ys σ3 H3 ⟨rfl, hi, U3, env3, s4, a, g3, hla, y3⟩
  have hla' : ys.length = (a.map R.fz).length := by rw [List.length_map]; exact hla
  have g3' : Rel G B U3 env3 s4 hs1 σ3 H3 := g3.dropN
  have rd : RepRs G U3 H3 vs (ds.map R.fz) := Rel.heldAll (hs := []) (by rw [List.append_nil]; exact g3') hl
  have L : RepBs G U3 H3 vs ds := by
    refine g3.looks rd ?_
    have q : ∀ ds : List Wv.D, dvs s4 (ds.map R.fz) = some ds := fun ds => by
      induction ds with
      | nil => rfl
      | cons d ds ih =>
        show (dvs s4 (ds.map R.fz)).map (d :: ·) = some (d :: ds)
        rw [ih]
        rfl
    exact q ds
  obtain ⟨j1, j2⟩ := hJ U3 H3 L i
  by_cases hlt : i < xs.length
  · obtain ⟨jg, jy⟩ := j1 _ (List.getElem?_eq_getElem hlt)
    refine .inr ⟨jg, Wi (i + 1) (xs.length - (i + 1)), fun ys' σ' H' z => ⟨_, by omega, z⟩, fun v H' yy => ?_⟩
    obtain ⟨U4, g4⟩ := jy v H' yy _ _ _ _ _ g3
    rw [List.drop_eq_getElem_cons hlt] at y3
    have y3 : ((asgT tg xs[i] env3).bind fun env => match ev P tt env s4 with
      | .ok r s1 => (match bl? r with
        | some true => (match ev P el env s1 with
          | .ok r2 s2 => (fz s2 r2).bind fun p => if a.length < 1000000 then loopG P tg tt el (xs.drop (i + 1)) env p.2 (a ++ [p.1]) else none
          | _ => none)
        | some false => loopG P tg tt el (xs.drop (i + 1)) env s1 a
        | none => none)
      | _ => none) = some (acc, s3) := y3
    cases ea : asgT tg xs[i] env3 with
    | none =>
      rw [ea] at y3
      cases y3
    | some env4 =>
      rw [ea] at y3
      have y3 : (match ev P tt env4 s4 with
        | .ok r s1 => (match bl? r with
          | some true => (match ev P el env4 s1 with
            | .ok r2 s2 => (fz s2 r2).bind fun p => if a.length < 1000000 then loopG P tg tt el (xs.drop (i + 1)) env4 p.2 (a ++ [p.1]) else none
            | _ => none)
          | some false => loopG P tg tt el (xs.drop (i + 1)) env4 s1 a
          | none => none)
        | _ => none) = some (acc, s3) := y3
      refine ⟨B, U4, env3, env4, s4, _, xs[i], g4, ea, fun σ5 g5 _ => ?_⟩
      refine ⟨B, U4, env4, s4, _, g5, ?_⟩
      cases et : ev P tt env4 s4 with
      | bad =>
        rw [et] at y3
        cases y3
      | exc x s =>
        rw [et] at y3
        cases y3
      | ok r s5 =>
        rw [et] at y3
        have eb : tb (ev P tt) env4 s4 = need (bl? r) fun b => .ok b s5 := by
          show (ev P tt env4 s4).bnd _ = _
          rw [et]
          rfl
        rw [eb]
        have y3 : (match bl? r with
          | some true => (match ev P el env4 s5 with
            | .ok r2 s2 => (fz s2 r2).bind fun p => if a.length < 1000000 then loopG P tg tt el (xs.drop (i + 1)) env4 p.2 (a ++ [p.1]) else none
            | _ => none)
          | some false => loopG P tg tt el (xs.drop (i + 1)) env4 s5 a
          | none => none) = some (acc, s3) := y3
        cases ebl : bl? r with
        | none =>
          rw [ebl] at y3
          cases y3
        | some b =>
          rw [ebl] at y3
          intro U6 H6 g6
          cases b with
          | false =>
            rw [if_neg Bool.false_ne_true]
            exact ⟨rfl, hlt, U6, env4, s5, a, g6, hla, y3⟩
          | true =>
            rw [if_pos rfl]
            have y3 : (match ev P el env4 s5 with
              | .ok r2 s2 => (fz s2 r2).bind fun p => if a.length < 1000000 then loopG P tg tt el (xs.drop (i + 1)) env4 p.2 (a ++ [p.1]) else none
              | _ => none) = some (acc, s3) := y3
            cases eel : ev P el env4 s5 with
            | bad =>
              rw [eel] at y3
              cases y3
            | exc x s =>
              rw [eel] at y3
              cases y3
            | ok r2 s6 =>
              rw [eel] at y3
              have y3 : ((fz s6 r2).bind fun p => if a.length < 1000000 then loopG P tg tt el (xs.drop (i + 1)) env4 p.2 (a ++ [p.1]) else none) = some (acc, s3) := y3
              cases ez : fz s6 r2 with
              | none =>
                rw [ez] at y3
                cases y3
              | some q =>
                obtain ⟨d, s7⟩ := q
                rw [ez] at y3
                have y3 : (if a.length < 1000000 then loopG P tg tt el (xs.drop (i + 1)) env4 s7 (a ++ [d]) else none) = some (acc, s3) := y3
                split at y3
                · rename_i hsz
                  refine ⟨by rw [hla]; exact Nat.lt_of_lt_of_le hsz (by decide), B, U6, env4, s5, _, g6, ?_⟩
                  rw [eel]
                  intro x U7 H7 g7
                  obtain ⟨U8, g8, r8, _⟩ := g7.fz g7.top ez
                  have held : RepRs G U8 H7 ys (a.map R.fz) := g8.drop.heldAll hla'
                  have base : Rel G B U8 env4 s7 hs1 σ5 H7 := g8.drop.dropN
                  have z := base.holdAll (held.app (.cons (r := .fz d) r8 .nil))
                  rw [show a.map R.fz ++ [R.fz d] = (a ++ [d]).map R.fz by rw [List.map_append] <;> rfl] at z
                  exact ⟨rfl, hlt, U8, env4, s7, a ++ [d], z, by rw [List.length_append, List.length_append, hla] <;> rfl, y3⟩
                · cases y3
  · have e : i = xs.length := by omega
    subst e
    rw [List.drop_length] at y3
    have y3 : some (a, s4) = some (acc, s3) := y3
    cases y3
    refine .inl ⟨j2 rfl, ?_⟩
    show DD.nx ys σ3 H3
    rw [hD]
    exact fin U3 env3 _ _ σ3 H3 ys g3 (Reps.ofR (g3.heldAll hla')) rfl
end
end Wv
namespace Wv
open PySem L2
/-- the def's object as the written part has it, checked -/
def FnAt (K : PySem.W.Frag) (a : Addr) (p : Pg) (f : Fn) : Prop := ∃ (oc : Value) (od : Option Addr) (osl : Array (Option Value)) (name qual : Str) (params : Arguments) (body : List Stmt) (scope : Scope) (kV doc pm : Value) (an : Option Addr) (cdv ct : Value),
  K.lookup a = some ⟨oc, od, .func (PySem.W.fnOf name qual params body scope .none kV doc pm an cdv ct), osl⟩ ∧ PySem.W.codeIn K cdv qual = true ∧ FnScope f.N (f.N.take f.np) scope ∧ f.np ≤ f.N.length ∧
  chSs p ⟨f.N, scope, stD scope⟩ f.body body = true ∧ (if f.star = true then 1 ≤ f.np ∧ PlainArgs params (f.N.take (f.np - 1)) f.N[f.np - 1]? else PlainArgs params (f.N.take f.np) none)
section
variable {G : Cfg} {p : Pg} {n : Nat} {g : Bool} {P : Program} {w : World} {base : Heap}
/-- a def's end: what its statements promise -/
theorem post_end {B : Bs} {Q : VK} {E : XK} {hs : List (V × R)} {o : SO} (h : OcP G B Q E (endOf o)) : PostS G (fun cls d _ H => E cls d H) B hs { nx := fun _ H' => Q .non H', rt := Q } o := by
  cases o with
  | bad => exact h
  | bk env s => exact False.elim h
  | ct env s => exact False.elim h
  | nx env s => exact fun U H σ r => h U env s hs σ H .non (r.push (r := .fz .non) .non) rfl
  | exc x env s => exact fun cls d U H σ r y => h U env s hs σ H cls d r y rfl
  | rt r env s =>
    cases r with
    | fz d => exact fun U H σ v r => h U env s hs σ H v r rfl
    | own k =>
      have h : OcP G B Q E (match s.ol[k]? with
        | some (true, c) => .ok (.ow c) s.st
        | some (false, c) => .ok (.fz c.d) s.st
        | none => .bad) := h
      cases z : s.ol[k]? with
      | none =>
        rw [z] at h
        exact h.elim
      | some q =>
        obtain ⟨b, c⟩ := q
        rw [z] at h
        cases b with
        | true => exact fun U H σ v r => h U env s hs σ H v k r z rfl
        | false =>
          intro U H σ v r
          obtain ⟨a, e1, e2⟩ : ∃ a, U.ml[k]? = some a ∧ v = .ref a := r.top
          subst e2
          obtain ⟨q1, _, q3⟩ := r.own k a false c e1 z
          exact h U env s hs σ H _ (r.drop.push (r := .fz c.d) (q1.rep (q3 rfl))) rfl
theorem start_len {N : List Str} {vs : List V} (h : vs.length ≤ N.length) : (L2.start N vs).length = N.length := by
  unfold L2.start
  rw [List.length_append, List.length_map, List.length_replicate]
  omega
/-- the names at a def's entry -/
theorem Rel.entry {B : Bs} {W : Wd} {st : List Cl} {H : Hp} {N : List Str} {vs : List V} {rs : List R} {ol : List (Bool × Cl)} {hs : List (V × R)} (h : Rel G B W [] ⟨ol, st⟩ hs [] H) (r : RepRs G W H vs rs) :
    Rel G B W (rs.map some ++ List.replicate (N.length - rs.length) none) ⟨ol, st⟩ hs (L2.start N vs) H := by
  have l := r.length
  refine h.names ?_ fun i q e => ?_
  · unfold L2.start
    rw [List.length_append, List.length_append, List.length_map, List.length_map, List.length_replicate, List.length_replicate, l]
  · have z : ∀ {vs : List V} {rs : List R}, RepRs G W H vs rs → ∀ i q (m : Nat), (rs.map some ++ List.replicate m none)[i]? = some (some q) → ∃ v, (vs.map some ++ List.replicate m none)[i]? = some (some v) ∧ RepR G W H v q := fun {vs rs} r => by
      induction r with
      | nil =>
        intro i q m e
        rw [List.map_nil, List.nil_append, List.getElem?_replicate] at e
        split at e <;> cases e
      | cons h t ih =>
        intro i q m e
        cases i with
        | zero =>
          cases e
          exact ⟨_, rfl, h⟩
        | succ i => exact ih i q m e
    unfold L2.start
    rw [l]
    exact z r i q _ e
theorem Reps.of {W : Wd} {H : Hp} : ∀ {vs : List V} {ds : List D}, RepRs G W H vs (ds.map R.fz) → Reps G W.F W.mu H vs ds
  | _, [], .nil => .nil
  | _, _ :: _, .cons h t => .cons h (Reps.of t)
theorem fits_def {CX : CXT} {K : PySem.W.Frag} {mg : Str → Option Value} {N : List Str} {qual : Str} {scope : Scope} {f : Addr} {cdv : Value} {A : Around} {out : List Env} {s : Shared} {H : Hp} {E : XK} : Fits ⟨N, scope, stD scope⟩ (cxOf CX P w K mg base N qual scope f cdv A out s H E) :=
  ⟨rfl, rfl, fun x h => by
    have h : (match scope.names.lookup x with
      | some .local => true
      | some .cell => true
      | _ => false) = true := h
    split at h
    · rename_i e
      exact ⟨.inl e, .inl rfl⟩
    · rename_i e
      exact ⟨.inr e, .inl rfl⟩
    · cases h⟩
/-- what is wanted of a def's body at its entry -/
def Go (G : Cfg) (p : Pg) (g : Bool) (n : Nat) (f : Fn) (Q : VK) (E : XK) (H : Hp) (xs : List V) : Prop :=
  ∃ B U env fs hs, Rel G B U env fs hs (L2.start f.N xs) H ∧ PostS G (fun cls d _ H => E cls d H) B hs { nx := fun _ H' => Q .non H', rt := Q } (ex (prm p g n) f.body env fs)
theorem fn_core (pg : PgOk G p) {fa : Addr} {f : Fn} (at_ : FnAt G.K fa p f) (ihF : ∀ i f, p.fns[i]? = some f → FnG P w G.K G.mg base (4 * n) g (G.fa i) (SpF G ((prm p g n).call i))) (ihM : ∀ c k, p.cls[c]? = some k → FnG P w G.K G.mg base (4 * n) g (G.fa k.init) (SpI G c ((prm p g n).make c))) (ihG : ∀ i q, p.gens[i]? = some q → GnG P w G.K G.mg base (4 * n) (G.gb i) (SpGD G ((prm p g n).gens i))) (ihN : ∀ i f, p.fns[i]? = some f → FnG P w G.K G.mg base (4 * n) false (G.fa i) (SpF G ((prm p g n).callF i)))
    {A : Around} {out : List Env} {s : Shared} {H : Hp} {us : List Value} {vs : List V} {Q : VK} {E : XK} (hr : Room (4 * (n + 1)) A) (hg : g = true → A.guards = some []) (e0 : Env0 P w G.K G.mg base A out s H) (rv : Vals vs us)
    (hb : if f.star = true then f.np - 1 ≤ vs.length ∧ vs.length ≤ 4000 ∧ ∀ q, H q = none → Go G p g n f Q E (upd H q (.tup (vs.drop (f.np - 1)))) (vs.take (f.np - 1) ++ [.ref q]) else vs.length = f.np ∧ Go G p g n f Q E H vs) :
    codeAny (model P w) A (.call (.ref fa) ⟨us, []⟩) (CR (L2.CX P w) out P w H s Q E) s := by
  obtain ⟨oc, od, osl, name, qual, params, body, scope, kV, doc, pm, an, cdv, ct, lk, hcd, S, hnp, hch, hargs⟩ := at_
  have go : ∀ (s2 : Shared) (H2 : Hp) (xs : List V), Room (4 * n + 3) (A.deeper (PyProof.Rows.envOfC qual scope s2.heap.objs.size fa cdv)) → Go G p g n f Q E H2 xs →
      ∃ t, PSs (cxOf (L2.CX P w) P w G.K G.mg base f.N qual scope fa cdv A out s2 H2 E) body t ∧ t { nx := fun _ H' => Q .non H', rt := Q } (L2.start f.N xs) H2 := fun s2 H2 xs hr' ⟨B, U, env, fs, hs, g1, q⟩ => by
    have ok : XOk G p n g (cxOf (L2.CX P w) P w G.K G.mg base f.N qual scope fa cdv A out s2 H2 E) (fun cls d _ H => E cls d H) := ⟨pg, rfl, rfl, rfl, S.nd, takes_of rfl rfl rfl rfl, hr', hg, ihF, ihM, ihG, ihN⟩
    exact ⟨_, (sndS p f.body).ss ok (passes_of (X := cxOf (L2.CX P w) P w G.K G.mg base f.N qual scope fa cdv A out s2 H2 E) rfl) fits_def body hch, B, U, env, fs, hs, g1, q⟩
  by_cases hs : f.star = true
  · rw [if_pos hs] at hb hargs
    obtain ⟨h1, hpa⟩ := hargs
    obtain ⟨hl, hl4, hq⟩ := hb
    obtain ⟨pv, epv⟩ : ∃ pv, f.N[f.np - 1]? = some pv := ⟨_, List.getElem?_eq_getElem (show f.np - 1 < f.N.length by omega)⟩
    rw [epv] at hpa
    have eN : f.N.take f.np = f.N.take (f.np - 1) ++ [pv] := by
      have e1 : f.np = (f.np - 1) + 1 := by omega
      rw [e1, List.take_succ, epv]
      rfl
    rw [eN] at S
    have lN : (f.N.take (f.np - 1)).length = f.np - 1 := by rw [List.length_take]; omega
    have hsplit : vs = vs.take (f.np - 1) ++ vs.drop (f.np - 1) := (List.take_append_drop _ _).symm
    rw [hsplit] at rv
    obtain ⟨u1, u2, eu, rv1, rv2⟩ := StX.vals_split rv
    subst eu
    have hl1 : u1.length = (f.N.take (f.np - 1)).length := by rw [← rv1.length, lN, List.length_take]; omega
    have hz : (vs.drop (f.np - 1)).length ≤ sizeLine := by
      rw [List.length_drop]
      exact Nat.le_trans (Nat.sub_le _ _) (Nat.le_trans hl4 (by decide))
    have hn : H s.heap.objs.size = none := e0.hok.fresh (Nat.le_refl _)
    have hl2 : u2.length ≤ sizeLine := by rw [← rv2.length]; exact hz
    refine StX.run_bnd (k := 4 * n + 3) (N := f.N) (ps := f.N.take (f.np - 1) ++ [pv]) (G := fun xs H2 => ∃ q, H q = none ∧ xs = vs.take (f.np - 1) ++ [.ref q] ∧ H2 = upd H q (.tup (vs.drop (f.np - 1)))) lk hcd S hr e0 (fun A' Ex Q' h => ?_) (fun s2 H2 xs hG hr' => ?_)
    · rw [bind_star hpa rfl (List.Sublist.nodup (List.take_sublist _ _) S.nd) hl1]
      refine wpAny_bind (wpAny_newTuple (wpAny_pure ?_) hl2)
      have new : ObjOk P w (upd H s.heap.objs.size (.tup (vs.drop (f.np - 1)))) (s.heap.push ({ cls := .type "tuple", data := .seq u2.toArray } : Obj)) s.heap.objs.size (.tup (vs.drop (f.np - 1))) := ⟨hz, u2, rv2, ⟨_, Heap.get?_push_size _ rfl, rfl, _, rfl⟩⟩
      have un := StX.un_laid (fs := frs out) (s := s) (o := ({ cls := .type "tuple", data := .seq u2.toArray } : Obj)) (u := .tup (vs.drop (f.np - 1))) hn
      have z := h _ _ (vs.take (f.np - 1) ++ [V.ref s.heap.objs.size]) (u1 ++ [Value.ref s.heap.objs.size]) (StX.env0_laid e0 new) un rfl (fun e s' => StX.cxUp out s H _ _ E e s' un (fun b o q => Heap.get?_push_of_some _ q) rfl) (rv1.append (.cons rfl .nil))
        (by rw [List.length_append, List.length_append, rv1.length, hl1] <;> rfl) ⟨_, hn, rfl, rfl⟩
      rw [List.zip_append hl1.symm] at z
      exact z
    · obtain ⟨q, hq1, e1, e2⟩ := hG
      subst e1 e2
      exact go s2 _ _ hr' (hq q hq1)
  · rw [if_neg hs] at hb hargs
    obtain ⟨hl, hq⟩ := hb
    have lN : (f.N.take f.np).length = f.np := by rw [List.length_take]; omega
    have hlu : us.length = (f.N.take f.np).length := by rw [← rv.length, lN, hl]
    refine StX.run_bnd (k := 4 * n + 3) (N := f.N) (ps := f.N.take f.np) (G := fun xs H2 => xs = vs ∧ H2 = H) lk hcd S hr e0 (fun A' Ex Q' hb => ?_) (fun s2 H2 xs hG hr' => ?_)
    · rw [bind_plain hargs rfl (List.Sublist.nodup (List.take_sublist _ _) S.nd) hlu]
      exact wpAny_pure (hb s H vs us e0 Un.refl rfl (fun e s' z => z) rv (by rw [lN, hl]) ⟨rfl, rfl⟩)
    · obtain ⟨e1, e2⟩ := hG
      subst e1 e2
      exact go s2 H2 xs hr' hq
theorem def_run (pg : PgOk G p) {i : Nat} {f : Fn} (hf : p.fns[i]? = some f) (at_ : FnAt G.K (G.fa i) p f)
    (ihF : ∀ i f, p.fns[i]? = some f → FnG P w G.K G.mg base (4 * n) g (G.fa i) (SpF G ((prm p g n).call i))) (ihM : ∀ c k, p.cls[c]? = some k → FnG P w G.K G.mg base (4 * n) g (G.fa k.init) (SpI G c ((prm p g n).make c))) (ihG : ∀ i q, p.gens[i]? = some q → GnG P w G.K G.mg base (4 * n) (G.gb i) (SpGD G ((prm p g n).gens i))) (ihN : ∀ i f, p.fns[i]? = some f → FnG P w G.K G.mg base (4 * n) false (G.fa i) (SpF G ((prm p g n).callF i))) :
    FnG P w G.K G.mg base (4 * (n + 1)) g (G.fa i) (SpF G ((prm p g (n + 1)).call i)) := by
  intro A out s H us vs Q E hr hg e0 rv hsp
  obtain ⟨F, mu, ds, st, g0, rd, hq⟩ := hsp
  have hq : OcP G ⟨H, F, mu⟩ Q E (match p.fns[i]? with
    | some f => runF (prm p g n) f ds st
    | none => .bad) := hq
  rw [hf] at hq
  have hq : OcP G ⟨H, F, mu⟩ Q E (match f.bind ds with
    | some es => endOf (ex (prm p g n) f.body (f.env es) ⟨[], st⟩)
    | none => .bad) := hq
  have lv := rd.length
  have go : ∀ (H2 : Hp) (xs : List V) (es : List D), f.bind ds = some es → (∃ U, Rel G ⟨H, F, mu⟩ U [] ⟨[], st⟩ [] [] H2 ∧ Reps G U.F U.mu H2 xs es) → Go G p g n f Q E H2 xs := fun H2 xs es eb ⟨U, g1, r1⟩ => by
    refine ⟨⟨H, F, mu⟩, U, f.env es, ⟨[], st⟩, [], ?_, ?_⟩
    · have z := Rel.entry (N := f.N) g1 (RepRs.of r1)
      rw [List.length_map] at z
      unfold Fn.env
      rw [List.map_map] at z
      exact z
    · rw [eb] at hq
      exact post_end hq
  refine fn_core pg at_ ihF ihM ihG ihN hr hg e0 rv ?_
  unfold Fn.bind at hq go
  by_cases hs : f.star = true
  · rw [if_pos hs] at hq go ⊢
    by_cases hl : f.np - 1 ≤ ds.length ∧ ds.length ≤ 4000
    · rw [if_pos hl] at hq go
      refine ⟨by rw [lv]; exact hl.1, by rw [lv]; exact hl.2, fun q hq1 => go _ _ _ rfl ?_⟩
      obtain ⟨U, g1⟩ := (g0.holdAll (.of (rd.take (f.np - 1)))).made (o := .tup (vs.drop (f.np - 1))) (d := .tup (ds.drop (f.np - 1))) hq1 fun F' ff fp m => .tup ⟨fp, upd_same⟩ ((rd.drop (f.np - 1)).imp fun v d y => m y)
      refine ⟨U, g1.hold (fun q hq => nomatch hq), ?_⟩
      have hlt : (vs.take (f.np - 1)).length = ((ds.take (f.np - 1)).map R.fz).length := by rw [List.length_map, List.length_take, List.length_take, lv]
      exact (Reps.of (g1.drop.heldAll hlt)).app (.cons g1.top .nil)
    · rw [if_neg hl] at hq
      exact hq.elim
  · rw [if_neg hs] at hq go ⊢
    by_cases hl : ds.length = f.np
    · rw [if_pos hl] at hq go
      exact ⟨by rw [lv]; exact hl, go _ _ _ rfl ⟨_, g0, rd⟩⟩
    · rw [if_neg hl] at hq
      exact hq.elim
/-- an __init__'s end -/
theorem post_init {B : Bs} {Q : VK} {E : XK} {x : Addr} {still : Bool} {o : SO} (h : OcP G B (fun v H' => v = .ref x → Q .non H') E (endI still o)) :
    PostS G (fun cls d _ H => E cls d H) B [(.ref x, .own 0)] { nx := fun _ H' => Q .non H', rt := Q } o := by
  cases o with
  | bad => exact h
  | bk env s => exact False.elim h
  | ct env s => exact False.elim h
  | rt r env s => exact False.elim h
  | exc y env s => exact fun cls d U H σ r z => h U env s [(.ref x, .own 0)] σ H cls d r z rfl
  | nx env s =>
    intro U H σ r
    have h : OcP G B (fun v H' => v = .ref x → Q .non H') E (match s.ol[0]? with
      | some (b, Cl.ins c fs vs) => if still = true then .ok (.fz (.ins c fs vs)) s.st else if b = true then .ok (.fz (.cel s.st.length)) (s.st ++ [.ins c fs vs]) else .bad
      | _ => .bad) := h
    obtain ⟨a, e1, e2⟩ : ∃ a, U.ml[0]? = some a ∧ V.ref x = .ref a := r.top
    cases e2
    obtain ⟨b, cl, e3, _⟩ := r.ownAt e1
    rw [e3] at h
    cases cl with
    | lst xs => exact False.elim h
    | dic kvs => exact False.elim h
    | ins c ks vs =>
      have h : OcP G B (fun v H' => v = .ref x → Q .non H') E (if still = true then .ok (.fz (.ins c ks vs)) s.st else if b = true then .ok (.fz (.cel s.st.length)) (s.st ++ [.ins c ks vs]) else .bad) := h
      by_cases hs : still = true
      · rw [if_pos hs] at h
        have ef : fz s (.own 0) = some (.ins c ks vs, ⟨s.ol.set 0 (false, .ins c ks vs), s.st⟩) := by
          show (s.get 0).map _ = _
          unfold FS.get
          rw [e3]
          rfl
        obtain ⟨U2, g2, r2, _⟩ := r.fz r.top ef
        exact h U2 env _ [] σ H (.ref x) (g2.drop.push (r := .fz _) r2) rfl rfl
      · rw [if_neg hs] at h
        cases b with
        | false => exact False.elim h
        | true => exact h _ _ _ _ _ H (.ref x) (r.seal e1 e3) rfl rfl
theorem init_run (pg : PgOk G p) {c : Nat} {k : Cla} {f : Fn} (hk : p.cls[c]? = some k) (hf : p.fns[k.init]? = some f) (at_ : FnAt G.K (G.fa k.init) p f)
    (ihF : ∀ i f, p.fns[i]? = some f → FnG P w G.K G.mg base (4 * n) g (G.fa i) (SpF G ((prm p g n).call i))) (ihM : ∀ c k, p.cls[c]? = some k → FnG P w G.K G.mg base (4 * n) g (G.fa k.init) (SpI G c ((prm p g n).make c))) (ihG : ∀ i q, p.gens[i]? = some q → GnG P w G.K G.mg base (4 * n) (G.gb i) (SpGD G ((prm p g n).gens i))) (ihN : ∀ i f, p.fns[i]? = some f → FnG P w G.K G.mg base (4 * n) false (G.fa i) (SpF G ((prm p g n).callF i))) :
    FnG P w G.K G.mg base (4 * (n + 1)) g (G.fa k.init) (SpI G c ((prm p g (n + 1)).make c)) := by
  intro A out s H us vs Q E hr hg e0 rv hsp
  obtain ⟨H1, x, dx, ws, F, mu, ds, st, ev, hx, hdx, hne, eH, g0, rd, hq⟩ := hsp
  subst ev
  have hq : OcP G ⟨H1, F, mu⟩ (fun v H' => v = .ref x → Q .non H') E (match p.cls[c]? with
    | some k => (match p.fns[k.init]? with
      | some f => runI (prm p g n) c k f ds st
      | none => .bad)
    | none => .bad) := hq
  rw [hk] at hq
  have hq : OcP G ⟨H1, F, mu⟩ (fun v H' => v = .ref x → Q .non H') E (match p.fns[k.init]? with
    | some f => runI (prm p g n) c k f ds st
    | none => .bad) := hq
  rw [hf] at hq
  have hq : OcP G ⟨H1, F, mu⟩ (fun v H' => v = .ref x → Q .non H') E (if f.star = true ∧ f.np < 2 then .bad else match f.bind (.non :: ds) with
    | some (_ :: es) => endI k.still (ex (prm p g n) f.body (some (.own 0) :: ((es.map fun d => some (R.fz d)) ++ List.replicate (f.N.length - (es.length + 1)) none)) ⟨[(true, .ins c [] [])], st⟩)
    | _ => .bad) := hq
  have lv := rd.length
  -- the instance, the frame's own
  have g1 : Rel G ⟨H1, F, mu⟩ ⟨F, mu, []⟩ [] ⟨[], st⟩ [] [] (upd H1 dx (.own x)) := g0.grow hdx fun a e => upd_ne e
  have rd1 : Reps G F mu (upd H1 dx (.own x)) ws ds := by
    have z := Rel.grow (H' := upd H1 dx (.own x)) (g0.holdAll (.of rd)) hdx fun a e => upd_ne e
    exact Reps.of (z.heldAll (by rw [List.length_map]; exact lv))
  have hx1 : (upd H1 dx (.own x)) x = none := by rw [upd_ne fun e => hne e.symm]; exact hx
  obtain ⟨U, g2⟩ := (g1.holdAll (.of rd1)).begun (c0 := .ins c [] []) (o := .ins (G.ca c) dx []) hx1 fun H' e m => ⟨dx, [], e, ⟨rfl, fun i hi => nomatch hi⟩, .nil⟩
  rw [← eH] at g2
  have rw2 : RepRs G U H ws (ds.map R.fz) := g2.drop.heldAll (by rw [List.length_map]; exact lv)
  have r0 : RepR G U H (.ref x) (.own 0) := g2.top
  have g3 : Rel G ⟨H1, F, mu⟩ U [] ⟨[(true, .ins c [] [])], st⟩ [(.ref x, .own 0)] [] H := g2.hold fun q hq => by
    rw [List.mem_singleton.mp hq]
    exact r0
  have go : ∀ (H2 : Hp) (xs : List V) (es : List D), (OcP G ⟨H1, F, mu⟩ (fun v H' => v = .ref x → Q .non H') E (endI k.still (ex (prm p g n) f.body (some (.own 0) :: ((es.map fun d => some (R.fz d)) ++ List.replicate (f.N.length - (es.length + 1)) none)) ⟨[(true, .ins c [] [])], st⟩))) →
      (∃ U, Rel G ⟨H1, F, mu⟩ U [] ⟨[(true, .ins c [] [])], st⟩ [(.ref x, .own 0)] [] H2 ∧ Reps G U.F U.mu H2 xs es) → Go G p g n f Q E H2 (.ref x :: xs) := fun H2 xs es eb ⟨U, g1, r1⟩ => by
    refine ⟨⟨H1, F, mu⟩, U, _, ⟨[(true, .ins c [] [])], st⟩, [(.ref x, .own 0)], ?_, post_init eb⟩
    have z := Rel.entry (N := f.N) g1 (RepRs.cons (g1.top) (RepRs.of r1))
    rw [List.map_cons, List.map_map, List.length_cons, List.length_map] at z
    exact z
  by_cases hs2 : f.star = true ∧ f.np < 2
  · rw [if_pos hs2] at hq
    exact hq.elim
  rw [if_neg hs2] at hq
  refine fn_core pg at_ ihF ihM ihG ihN hr hg e0 rv ?_
  unfold Fn.bind at hq
  by_cases hs : f.star = true
  · rw [if_pos hs] at hq ⊢
    by_cases hl : f.np - 1 ≤ (D.non :: ds).length ∧ (D.non :: ds).length ≤ 4000
    · rw [if_pos hl] at hq
      obtain ⟨m, hm⟩ : ∃ m, f.np - 1 = m + 1 := ⟨f.np - 2, by
        have : ¬ f.np < 2 := fun e => hs2 ⟨hs, e⟩
        omega⟩
      rw [hm] at hq hl ⊢
      have hlv : (V.ref x :: ws).length = (D.non :: ds).length := congrArg (· + 1) lv
      refine ⟨by rw [hlv]; exact hl.1, by rw [hlv]; exact hl.2, fun q hq1 => ?_⟩
      have hq2 : OcP G ⟨H1, F, mu⟩ (fun v H' => v = .ref x → Q .non H') E (endI k.still (ex (prm p g n) f.body (some (.own 0) :: (((ds.take m ++ [D.tup (ds.drop m)]).map fun d => some (R.fz d)) ++ List.replicate (f.N.length - ((ds.take m ++ [D.tup (ds.drop m)]).length + 1)) none)) ⟨[(true, .ins c [] [])], st⟩)) := hq
      refine go (upd H q (.tup (ws.drop m))) (ws.take m ++ [.ref q]) (ds.take m ++ [D.tup (ds.drop m)]) hq2 ?_
      have rw3 := Reps.of rw2
      obtain ⟨U3, g4⟩ := (g3.holdAll (.of (rw3.take m))).made (o := .tup (ws.drop m)) (d := .tup (ds.drop m)) hq1 fun F' ff fp mm => .tup ⟨fp, upd_same⟩ ((rw3.drop m).imp fun v d y => mm y)
      refine ⟨U3, g4.drop.dropN, ?_⟩
      have hlt : (ws.take m).length = ((ds.take m).map R.fz).length := by rw [List.length_map, List.length_take, List.length_take, lv]
      exact (Reps.of (g4.drop.heldAll hlt)).app (.cons g4.top .nil)
    · rw [if_neg hl] at hq
      exact hq.elim
  · rw [if_neg hs] at hq ⊢
    by_cases hl : (D.non :: ds).length = f.np
    · rw [if_pos hl] at hq
      exact ⟨by rw [← hl]; exact congrArg (· + 1) lv, go H ws ds hq ⟨U, g3, Reps.of rw2⟩⟩
    · rw [if_neg hl] at hq
      exact hq.elim
/-- the generator def's object, checked -/
def GnAt (K : PySem.W.Frag) (a : Addr) (p : Pg) (q : Gn) : Prop := ∃ (oc : Value) (od : Option Addr) (osl : Array (Option Value)) (name qual : Str) (params : Arguments) (scope : Scope) (kV doc pm : Value) (an : Option Addr) (cdv ct : Value) (tgE iter test ey : Expr) (yp p2 p3 p4 : Pos),
  K.lookup a = some ⟨oc, od, .func (PySem.W.fnOf name qual params [.For tgE iter [.If test [.Expr (.Yield (some ey) yp) p2] [] p3] [] p4] scope .none kV doc pm an cdv ct), osl⟩ ∧ PySem.W.codeIn K cdv qual = true ∧ GScope q.N (q.N.take q.np) scope ∧ q.np ≤ q.N.length ∧
  PlainArgs params (q.N.take q.np) none ∧ (noSet iter = true ∧ tgC ⟨q.N, scope, stD scope⟩ q.tg tgE = true ∧ chI p ⟨q.N, scope, stD scope⟩ q.it tgE iter = true ∧ ch p ⟨q.N, scope, stD scope⟩ true q.tt test = true ∧ ch p ⟨q.N, scope, stD scope⟩ false q.el ey = true)
theorem fits_gen {K : PySem.W.Frag} {mg : Str → Option Value} {N : List Str} {qual : Str} {scope : Scope} {f : Addr} {cdv : Value} {A : Around} {out : List Env} {s : Shared} {H : Hp} {E : XK} {pn : List (Addr × Obj)} : Fits ⟨N, scope, stD scope⟩ (gcxOf P w K mg base N qual scope f cdv A out s H E pn) :=
  ⟨rfl, rfl, fun x h => by
    have h : (match scope.names.lookup x with
      | some .local => true
      | some .cell => true
      | _ => false) = true := h
    split at h
    · rename_i e
      exact ⟨.inl e, .inl rfl⟩
    · rename_i e
      exact ⟨.inr e, .inl rfl⟩
    · cases h⟩
theorem gen_run (pg : PgOk G p) {i : Nat} {q : Gn} (hq : p.gens[i]? = some q) (at_ : GnAt G.K (G.gb i) p q)
    (ihF : ∀ i f, p.fns[i]? = some f → FnG P w G.K G.mg base (4 * n) false (G.fa i) (SpF G ((prm p false n).call i))) (ihM : ∀ c k, p.cls[c]? = some k → FnG P w G.K G.mg base (4 * n) false (G.fa k.init) (SpI G c ((prm p false n).make c)))
    (ihG : ∀ i q, p.gens[i]? = some q → GnG P w G.K G.mg base (4 * n) (G.gb i) (SpGD G ((prm p false n).gens i))) (ihN : ∀ i f, p.fns[i]? = some f → FnG P w G.K G.mg base (4 * n) false (G.fa i) (SpF G ((prm p false n).callF i))) : GnG P w G.K G.mg base (4 * (n + 1)) (G.gb i) (SpGD G ((prm p g (n + 1)).gens i)) := by
  obtain ⟨oc, od, osl, name, qual, params, scope, kV, doc, pm, an, cdv, ct, tgE, iter, test, ey, yp, p2, p3, p4, lk, hcd, S, hnp, hargs, h1, h2, h3, h4, h5⟩ := at_
  have lN : (q.N.take q.np).length = q.np := by rw [List.length_take]; omega
  have run : ∀ ds st acc st', (prm p g (n + 1)).gens i ds st = some (acc, st') → ds.length = q.np ∧ ∃ rs s1 es s2 xs s3, evI (prm p false n) q.it (q.env ds) ⟨[], st⟩ = .ok rs s1 ∧ fzs s1 rs = some (es, s2) ∧ itD q.it es = some xs ∧ loopG (prm p false n) q.tg q.tt q.el xs (q.env ds) s2 [] = some (acc, s3) ∧ s3.st = st' := fun ds st acc st' e => by
    have e : (match p.gens[i]? with
      | some q => runG (prm p false n) q ds st
      | none => none) = some (acc, st') := e
    rw [hq] at e
    have e : (if ds.length = q.np then (match evI (prm p false n) q.it (q.env ds) ⟨[], st⟩ with
      | .ok rs s => (fzs s rs).bind fun z => (itD q.it z.1).bind fun xs => (loopG (prm p false n) q.tg q.tt q.el xs (q.env ds) z.2 []).map fun z => (z.1, z.2.st)
      | _ => none) else none) = some (acc, st') := e
    split at e
    · rename_i hl
      refine ⟨hl, ?_⟩
      split at e
      · rename_i rs s1 e1
        obtain ⟨⟨es, s2⟩, e2, e⟩ := Option.bind_eq_some_iff.mp e
        obtain ⟨xs, e3, e⟩ := Option.bind_eq_some_iff.mp e
        obtain ⟨⟨a, s3⟩, e4, e⟩ := Option.map_eq_some_iff.mp e
        cases e
        exact ⟨rs, s1, es, s2, xs, s3, e1, e2, e3, e4, rfl⟩
      · cases e
    · cases e
  refine ⟨_, q.N.take q.np, gfn_of (k := 4 * n + 3) (N := q.N) lk hcd S (fun vs H Q E sp => ?_) (fun A outer s H vs Q E pn hr sp => ?_), Binds.all fun us hl => bind_plain hargs rfl (List.Sublist.nodup (List.take_sublist _ _) S.nd) hl⟩
  · obtain ⟨F, mu, ds, st, acc, st', _, rd, eo, _⟩ := sp
    rw [rd.length, (run ds st acc st' eo).1, lN]
  · obtain ⟨F, mu, ds, st, acc, st', g0, rd, eo, fin⟩ := sp
    obtain ⟨hl, rs, s1, es, s2, xs, s3, e1, e2, e3, e4, e5⟩ := run ds st acc st' eo
    have ok : XOk G p n false (gcxOf P w G.K G.mg base q.N qual scope (G.gb i) cdv A outer s H E pn) (fun cls d _ H => E cls d H) := ⟨pg, rfl, rfl, rfl, S.nd, takes_gcx, hr, (fun e => nomatch e), ihF, ihM, ihG, ihN⟩
    have f := fits_gen (P := P) (w := w) (base := base) (K := G.K) (mg := G.mg) (N := q.N) (qual := qual) (scope := scope) (f := G.gb i) (cdv := cdv) (A := A) (out := outer) (s := s) (H := H) (E := E) (pn := pn)
    have hint : interactive (gcxOf P w G.K G.mg base q.N qual scope (G.gb i) cdv A outer s H E pn).env = false := by
      unfold interactive
      have e : (gcxOf P w G.K G.mg base q.N qual scope (G.gb i) cdv A outer s H E pn).env.scope.kind = .function := S.kind
      rw [e]
      rfl
    refine ⟨tGn G (fun cls d _ H => E cls d H) (prm p false n) q.tg q.it q.tt q.el, gss_cons (gs_for owns_gcx rfl ((snd p q.it).i ok f tgE iter h3) (tg_ok ok f h2) (gss_cons (gs_if ((snd p q.tt).t ok f test h4) (gss_cons (gs_yield ((snd p q.el).v ok f ey h5) S.co hint) gss_nil) gss_nil) gss_nil) (set_no h1)) gss_nil, ?_⟩
    have z := Rel.entry (N := q.N) g0 (RepRs.of rd)
    rw [List.length_map, List.map_map] at z
    exact rd_gen (Q := Q) rfl z e1 e2 e3 e4 fun U env fs hs σ H' ys r ry est => fin U env fs hs σ H' ys r ry (est.trans e5)
theorem gen_zero {i : Nat} {q : Gn} (at_ : GnAt G.K (G.gb i) p q) : GnG P w G.K G.mg base (4 * 0) (G.gb i) (SpGD G ((prm p g 0).gens i)) := by
  obtain ⟨oc, od, osl, name, qual, params, scope, kV, doc, pm, an, cdv, ct, tgE, iter, test, ey, yp, p2, p3, p4, lk, hcd, S, hnp, hargs, h1, h2, h3, h4, h5⟩ := at_
  have no : ∀ vs H Q E, ¬ SpGD G ((prm p g 0).gens i) vs H Q E := fun vs H Q E sp => by
    obtain ⟨F, mu, ds, st, acc, st', _, _, eo, _⟩ := sp
    cases eo
  exact ⟨PySem.W.fnOf name qual params [] scope .none kV doc pm an cdv ct, q.N.take q.np, ⟨fun vs H Q E sp => (no vs H Q E sp).elim, fun A outer s H args us vs Q E _ _ _ _ sp => (no vs H Q E sp).elim⟩, Binds.all fun us hl => bind_plain hargs rfl (List.Sublist.nodup (List.take_sublist _ _) S.nd) hl⟩
theorem callF_eq (g : Bool) (n i : Nat) : (prm p g n).callF i = (prm p false n).call i := by cases n <;> rfl
/-- .. all of them, n calls deep -/
theorem all_run (pg : PgOk G p) (hf : ∀ i f, p.fns[i]? = some f → FnAt G.K (G.fa i) p f) (hi : ∀ (c : Nat) (k : Cla), p.cls[c]? = some k → ∃ f, p.fns[k.init]? = some f) (hgn : ∀ i q, p.gens[i]? = some q → GnAt G.K (G.gb i) p q) : ∀ (n : Nat) (g : Bool),
    (∀ i f, p.fns[i]? = some f → FnG P w G.K G.mg base (4 * n) g (G.fa i) (SpF G ((prm p g n).call i))) ∧ (∀ c k, p.cls[c]? = some k → FnG P w G.K G.mg base (4 * n) g (G.fa k.init) (SpI G c ((prm p g n).make c))) ∧
    ∀ i q, p.gens[i]? = some q → GnG P w G.K G.mg base (4 * n) (G.gb i) (SpGD G ((prm p g n).gens i))
  | 0, g => ⟨fun i f _ A out s H us vs Q E _ _ _ _ hsp => by
      obtain ⟨F, mu, ds, st, _, _, hq⟩ := hsp
      exact False.elim hq, fun c k _ A out s H us vs Q E _ _ _ _ hsp => by
      obtain ⟨H1, x, dx, ws, F, mu, ds, st, _, _, _, _, _, _, _, hq⟩ := hsp
      exact False.elim hq, fun i q hq => gen_zero (hgn i q hq)⟩
  | n + 1, g => by
    obtain ⟨ih1, ih2, ih3⟩ := all_run pg hf hi hgn n g
    obtain ⟨jh1, jh2, jh3⟩ := all_run pg hf hi hgn n false
    have jn : ∀ (g : Bool) i f, p.fns[i]? = some f → FnG P w G.K G.mg base (4 * n) false (G.fa i) (SpF G ((prm p g n).callF i)) := fun g i f e => by
      rw [callF_eq]
      exact jh1 i f e
    refine ⟨fun i f e => def_run pg e (hf i f e) ih1 ih2 ih3 (jn g), fun c k e => ?_, fun i q e => gen_run pg e (hgn i q e) jh1 jh2 jh3 (jn false)⟩
    obtain ⟨f, ef⟩ := hi c k e
    exact init_run pg e ef (hf _ f ef) ih1 ih2 ih3 (jn g)
end
end Wv
namespace Wv
open PySem L2 He
theorem scC_ok {N : List Str} {np : Nat} {sc : Scope} (h : scC N np sc = true) : FnScope N (N.take np) sc := by
  unfold scC at h
  obtain ⟨h, h6⟩ := and2 h
  obtain ⟨h, h5⟩ := and2 h
  obtain ⟨h, h4⟩ := and2 h
  obtain ⟨h, h3⟩ := and2 h
  obtain ⟨h1, h2⟩ := and2 h
  refine ⟨fnC_ok h1, not_b h2, not_b h3, of_decide_eq_true h4, ?_, fun x hx => ?_, fun y hy e => ?_⟩
  · rw [List.length_take, List.take_eq_take_iff]
    omega
  · have z := List.all_eq_true.mp h5 x hx
    unfold stD at z
    split at z
    · rename_i e
      exact .inl e
    · rename_i e
      exact .inr e
    · cases z
  · have z := List.all_eq_true.mp h6 y hy
    rw [e] at z
    cases z
theorem pargC_ok {a : Arguments} {ns : List Str} {star : Option Str} (h : pargC a ns star = true) : PlainArgs a ns star := by
  unfold pargC at h
  obtain ⟨h, h5⟩ := and2 h
  obtain ⟨h, h4⟩ := and2 h
  obtain ⟨h, h3⟩ := and2 h
  obtain ⟨h1, h2⟩ := and2 h
  exact ⟨List.isEmpty_iff.mp h1, List.isEmpty_iff.mp h2, Option.isNone_iff_eq_none.mp h3, of_decide_eq_true h4, of_decide_eq_true h5⟩
theorem fnAtC_ok {K : PySem.W.Frag} {a : Addr} {p : Pg} {f : Fn} (h : fnAtC K a p f = true) : FnAt K a p f := by
  unfold fnAtC at h
  cases q : K.lookup a with
  | none =>
    rw [q] at h
    cases h
  | some o =>
    obtain ⟨oc, od, dt, osl⟩ := o
    rw [q] at h
    cases dt with
    | func fd =>
      obtain ⟨n1, n2, n3, n4, n5, n6, n7, n8, n9, n10, n11, n12, n13, n14, n15⟩ := fd
      have h : (decide (n6 = mainGlobals) && n7.isEmpty && isNone' n8 && decide (n15 = builtinsNs) && PySem.W.codeIn K n13 n2 && decide (f.np ≤ f.N.length) && scC f.N f.np n5 &&
        (if f.star = true then decide (1 ≤ f.np) && pargC n3 (f.N.take (f.np - 1)) f.N[f.np - 1]? else pargC n3 (f.N.take f.np) none) && (match (generalizing := false) n4 with
          | .stmts b => chSs p ⟨f.N, n5, stD n5⟩ f.body b
          | _ => false)) = true := h
      obtain ⟨h, h9⟩ := and2 h
      obtain ⟨h, h8⟩ := and2 h
      obtain ⟨h, h7⟩ := and2 h
      obtain ⟨h, h6⟩ := and2 h
      obtain ⟨h, h5⟩ := and2 h
      obtain ⟨h, h4⟩ := and2 h
      obtain ⟨h, h3⟩ := and2 h
      obtain ⟨h1, h2⟩ := and2 h
      have e1 := of_decide_eq_true h1
      have e2 := List.isEmpty_iff.mp h2
      have e4 := of_decide_eq_true h4
      have e3 : n8 = .none := by
        cases n8 <;> first | rfl | cases h3
      subst e1 e2 e3 e4
      cases n4 with
      | stmts b =>
        refine ⟨oc, od, osl, n1, n2, n3, b, n5, n9, n10, n11, n12, n13, n14, q, h5, scC_ok h7, of_decide_eq_true h6, h9, ?_⟩
        by_cases hs : f.star = true
        · rw [if_pos hs] at h8 ⊢
          obtain ⟨k1, k2⟩ := and2 h8
          exact ⟨of_decide_eq_true k1, pargC_ok k2⟩
        · rw [if_neg hs] at h8 ⊢
          exact pargC_ok h8
      | _ => cases h9
    | _ => cases h
theorem fnAtC_in {K : PySem.W.Frag} {a : Addr} {p : Pg} {f : Fn} (h : fnAtC K a p f = true) : PySem.W.fnIn K a = true := by
  unfold fnAtC at h
  unfold PySem.W.fnIn
  cases q : K.lookup a with
  | none =>
    rw [q] at h
    cases h
  | some o =>
    obtain ⟨oc, od, dt, osl⟩ := o
    rw [q] at h
    cases dt with
    | func fd => rfl
    | _ => cases h
theorem gscC_ok {N : List Str} {np : Nat} {sc : Scope} (h : gscC N np sc = true) : GScope N (N.take np) sc := by
  unfold gscC at h
  obtain ⟨h, h6⟩ := and2 h
  obtain ⟨h, h5⟩ := and2 h
  obtain ⟨h, h4⟩ := and2 h
  obtain ⟨h, h3⟩ := and2 h
  obtain ⟨h1, h2⟩ := and2 h
  refine ⟨fnC_ok h1, not_b h2, h3, of_decide_eq_true h4, ?_, fun x hx => ?_, fun y hy e => ?_⟩
  · rw [List.length_take, List.take_eq_take_iff]
    omega
  · have z := List.all_eq_true.mp h5 x hx
    unfold stD at z
    split at z
    · rename_i e
      exact .inl e
    · rename_i e
      exact .inr e
    · cases z
  · have z := List.all_eq_true.mp h6 y hy
    rw [e] at z
    cases z
theorem gbC_ok {p : Pg} {q : Gn} {sc : Scope} {b : List Stmt} (h : gbC p q sc b = true) : ∃ tgE iter test ey yp p2 p3 p4, b = [.For tgE iter [.If test [.Expr (.Yield (some ey) yp) p2] [] p3] [] p4] ∧
    (noSet iter = true ∧ tgC ⟨q.N, sc, stD sc⟩ q.tg tgE = true ∧ chI p ⟨q.N, sc, stD sc⟩ q.it tgE iter = true ∧ ch p ⟨q.N, sc, stD sc⟩ true q.tt test = true ∧ ch p ⟨q.N, sc, stD sc⟩ false q.el ey = true) := by
  unfold gbC at h
  split at h
  · obtain ⟨h, k5⟩ := and2 h
    obtain ⟨h, k4⟩ := and2 h
    obtain ⟨h, k3⟩ := and2 h
    obtain ⟨k1, k2⟩ := and2 h
    exact ⟨_, _, _, _, _, _, _, _, rfl, k1, k2, k3, k4, k5⟩
  · cases h
theorem gnAtC_ok {K : PySem.W.Frag} {a : Addr} {p : Pg} {q : Gn} (h : gnAtC K a p q = true) : GnAt K a p q := by
  unfold gnAtC at h
  cases e : K.lookup a with
  | none =>
    rw [e] at h
    cases h
  | some o =>
    obtain ⟨oc, od, dt, osl⟩ := o
    rw [e] at h
    cases dt with
    | func fd =>
      obtain ⟨n1, n2, n3, n4, n5, n6, n7, n8, n9, n10, n11, n12, n13, n14, n15⟩ := fd
      have h : (decide (n6 = mainGlobals) && n7.isEmpty && isNone' n8 && decide (n15 = builtinsNs) && PySem.W.codeIn K n13 n2 && decide (q.np ≤ q.N.length) && gscC q.N q.np n5 && pargC n3 (q.N.take q.np) none && (match (generalizing := false) n4 with
          | .stmts b => gbC p q n5 b
          | _ => false)) = true := h
      obtain ⟨h, h9⟩ := and2 h
      obtain ⟨h, h8⟩ := and2 h
      obtain ⟨h, h7⟩ := and2 h
      obtain ⟨h, h6⟩ := and2 h
      obtain ⟨h, h5⟩ := and2 h
      obtain ⟨h, h4⟩ := and2 h
      obtain ⟨h, h3⟩ := and2 h
      obtain ⟨h1, h2⟩ := and2 h
      have e1 := of_decide_eq_true h1
      have e2 := List.isEmpty_iff.mp h2
      have e4 := of_decide_eq_true h4
      have e3 : n8 = .none := by
        cases n8 <;> first | rfl | cases h3
      subst e1 e2 e3 e4
      cases n4 with
      | stmts b =>
        obtain ⟨tgE, iter, test, ey, yp, p2, p3, p4, eb, k⟩ := gbC_ok h9
        subst eb
        exact ⟨oc, od, osl, n1, n2, n3, n5, n9, n10, n11, n12, n13, n14, tgE, iter, test, ey, yp, p2, p3, p4, e, h5, gscC_ok h7, of_decide_eq_true h6, pargC_ok h8, k⟩
      | _ => cases h9
    | _ => cases h
theorem noNumC_ok {K : PySem.W.Frag} {a : Addr} {nm : String} (h : noNumC K a nm = true) : NoNum K a nm := by
  unfold noNumC at h
  obtain ⟨h, h3⟩ := and2 h
  obtain ⟨h1, h2⟩ := and2 h
  refine ⟨?_, eqO_ok h2, eqO_ok h3⟩
  split at h1
  · rename_i cd e
    exact ⟨cd, e, of_decide_eq_true h1⟩
  · cases h1
theorem staC_ok {K : PySem.W.Frag} {a : Addr} {m : Str} {f : Addr} (h : staC K a m f = true) : StaOf K a m (ma K a m) f := by
  unfold staC at h
  obtain ⟨h, h4⟩ := and2 h
  obtain ⟨h, h3⟩ := and2 h
  obtain ⟨h1, h2⟩ := and2 h
  obtain ⟨q1, q2⟩ := He5.wrapB_ok h3
  rw [of_decide_eq_true h4] at q2
  exact ⟨h1, eqO_ok h2, q1, q2⟩
theorem mem_lookup {l : List (Nat × Nat)} {x f : Nat} (h : l.lookup x = some f) : (x, f) ∈ l := by
  induction l with
  | nil => cases h
  | cons q l ih =>
    obtain ⟨y, g⟩ := q
    rw [List.lookup_cons] at h
    cases z : x == y with
    | true =>
      rw [z] at h
      cases h
      rw [eq_of_beq z]
      exact List.mem_cons_self
    | false =>
      rw [z] at h
      exact List.mem_cons_of_mem _ (ih h)
theorem clsC_ok {K : PySem.W.Frag} {h : Heap} {mg : Str → Option Value} {p : Pg} (X : K.In h) (N : h.Ns mainGlobals mg) {c : Nat} {k : Cla} (hk : p.cls[c]? = some k) (hc : clsC (p.cfg K mg) p k = true) : ClsOk (p.cfg K mg) p c k := by
  have ea : (p.cfg K mg).ca c = k.ad K := by
    show (match p.cls[c]? with
      | some k => k.ad K
      | none => 0) = _
    rw [hk]
  unfold clsC at hc
  obtain ⟨hc, h19⟩ := and2 hc
  obtain ⟨hc, h18⟩ := and2 hc
  obtain ⟨hc, h17⟩ := and2 hc
  obtain ⟨hc, h16⟩ := and2 hc
  obtain ⟨hc, h15⟩ := and2 hc
  obtain ⟨hc, h14⟩ := and2 hc
  obtain ⟨hc, h13⟩ := and2 hc
  obtain ⟨hc, h12⟩ := and2 hc
  obtain ⟨hc, h11⟩ := and2 hc
  obtain ⟨hc, h10⟩ := and2 hc
  obtain ⟨hc, h9⟩ := and2 hc
  obtain ⟨hc, h8⟩ := and2 hc
  obtain ⟨hc, h7⟩ := and2 hc
  obtain ⟨hc, h6⟩ := and2 hc
  obtain ⟨hc, h5⟩ := and2 hc
  obtain ⟨hc, h4⟩ := and2 hc
  obtain ⟨hc, h3⟩ := and2 hc
  obtain ⟨h1, h2⟩ := and2 hc
  refine { glob := ?_, cls := ?_, make := ?_, prop := fun x f e => ?_, meth := fun x f e => ?_, fld := fun x e => ?_, klass := ?_, isOwn := fun d hd => ?_, isTy := fun t ht => ?_, ofTy := fun t ht => ?_, num := fun x f e hx => ?_, nn := fun x hx => ?_, gmeth := fun x f e => ?_, ne := ?_, stat := fun x f e => ?_ }
  · rw [ea]
    exact PySem.W.mg_of X N (eqO_ok h1)
  · rw [ea]
    exact cls_ok h2
  · rw [ea]
    exact ⟨h3, eqO_ok h4, h5, h6⟩
  · have z := List.all_eq_true.mp h7 (x, f) (mem_lookup e)
    rw [ea]
    cases q : PySem.W.findIn K (.ref (k.ad K)) ((p.cfg K mg).nm x) with
    | none =>
      rw [show PySem.W.findIn (p.cfg K mg).K (.ref (k.ad (p.cfg K mg).K)) ((p.cfg K mg).nm (x, f).1) = none from q] at z
      cases z
    | some v =>
      rw [show PySem.W.findIn (p.cfg K mg).K (.ref (k.ad (p.cfg K mg).K)) ((p.cfg K mg).nm (x, f).1) = some v from q] at z
      cases v with
      | none => cases z
      | some v =>
        cases v with
        | ref r =>
          have z : (eqO (PySem.W.specialIn K (.ref r) "__get__") (some (some (.builtin "property.__get__"))) && decide (PySem.W.takesIn K (.ref r) = some true) && (match PySem.W.recIn K r "property" with
            | some (.ref g :: _) => decide (g = (p.cfg K mg).fa f)
            | _ => false)) = true := z
          obtain ⟨z, z3⟩ := and2 z
          obtain ⟨z1, z2⟩ := and2 z
          refine ⟨r, q, eqO_ok z1, of_decide_eq_true z2, ?_⟩
          cases y : PySem.W.recIn K r "property" with
          | none =>
            rw [y] at z3
            cases z3
          | some l =>
            rw [y] at z3
            cases l with
            | nil => cases z3
            | cons v rest =>
              cases v with
              | ref g => exact ⟨rest, by rw [show g = (p.cfg K mg).fa f from of_decide_eq_true z3] at y; exact y⟩
              | _ => cases z3
        | _ => cases z
  · have z := List.all_eq_true.mp h8 (x, f) (mem_lookup e)
    obtain ⟨z, z4⟩ := and2 z
    obtain ⟨z, z3⟩ := and2 z
    obtain ⟨z1, z2⟩ := and2 z
    rw [ea]
    exact ⟨⟨eqO_ok z1, z2, z3⟩, of_decide_eq_true z4⟩
  · obtain ⟨z1, z2⟩ := and2 (List.all_eq_true.mp h9 x e)
    rw [ea]
    exact ⟨eqO_ok z1, of_decide_eq_true z2⟩
  · rw [ea]
    exact ⟨eqO_ok h10, of_decide_eq_true h11⟩
  · rw [ea]
    exact of_decide_eq_true (List.all_eq_true.mp h12 d (List.mem_range.mpr hd))
  · rw [ea]
    exact of_decide_eq_true (List.all_eq_true.mp h13 t ht)
  · rw [ea]
    exact of_decide_eq_true (List.all_eq_true.mp h14 t ht)
  · rw [ea]
    have z := List.all_eq_true.mp h15 (x, f) (mem_lookup e)
    rw [Bool.or_eq_true] at z
    rcases z with z | z
    · rw [decide_eq_true hx] at z
      cases z
    · exact z
  · obtain ⟨z1, z2⟩ := and2 (List.all_eq_true.mp h16 x hx)
    rw [ea]
    exact fun _ => noNumC_ok z2
  · have z := List.all_eq_true.mp h17 (x, f) (mem_lookup e)
    obtain ⟨z, z4⟩ := and2 z
    obtain ⟨z, z3⟩ := and2 z
    obtain ⟨z1, z2⟩ := and2 z
    rw [ea]
    exact ⟨⟨eqO_ok z1, z2, z3⟩, of_decide_eq_true z4⟩
  · rw [ea]
    exact eqO_ok h19
  · have z := List.all_eq_true.mp h18 (x, f) (mem_lookup e)
    rw [ea]
    exact ⟨_, staC_ok z⟩
theorem clsC_mg {p : Pg} {K : PySem.W.Frag} {mg mg' : Str → Option Value} {k : Cla} (h : clsC (p.cfg K mg) p k = true) : clsC (p.cfg K mg') p k = true := h
theorem chPg_ok {K : PySem.W.Frag} {h : Heap} {mg : Str → Option Value} {p : Pg} (X : K.In h) (N : h.Ns mainGlobals mg) (hc : chPg p K = true) :
    PgOk (p.cfg K mg) p ∧ (∀ i f, p.fns[i]? = some f → FnAt K ((p.cfg K mg).fa i) p f) ∧ (∀ (c : Nat) (k : Cla), p.cls[c]? = some k → ∃ f, p.fns[k.init]? = some f) ∧ ∀ i q, p.gens[i]? = some q → GnAt K ((p.cfg K mg).gb i) p q := by
  unfold chPg at hc
  obtain ⟨hc, h8⟩ := and2 hc
  obtain ⟨hc, h7⟩ := and2 hc
  obtain ⟨hc, h6⟩ := and2 hc
  obtain ⟨hc, h5⟩ := and2 hc
  obtain ⟨hc, h4⟩ := and2 hc
  obtain ⟨hc, h3⟩ := and2 hc
  obtain ⟨hc, h2⟩ := and2 hc
  obtain ⟨h1, h0⟩ := and2 hc
  have ef : ∀ i f, p.fns[i]? = some f → (p.cfg K mg).fa i = f.ad K := fun i f e => by
    show (match p.fns[i]? with
      | some f => f.ad K
      | none => 0) = _
    rw [e]
  have hf : ∀ i f, p.fns[i]? = some f → glbC (p.cfg K fun _ => none) f (f.ad K) = true ∧ PySem.W.keepIn K (.ref (f.ad K)) = true ∧ PySem.W.isFn K (.ref (f.ad K)) = true ∧ fnAtC K (f.ad K) p f = true := fun i f e => by
    have z := List.all_eq_true.mp h2 f (List.mem_of_getElem? e)
    obtain ⟨z, z4⟩ := and2 z
    obtain ⟨z, z3⟩ := and2 z
    obtain ⟨z1, z2⟩ := and2 z
    exact ⟨z1, z2, z3, z4⟩
  have hk : ∀ (c : Nat) (k : Cla), p.cls[c]? = some k → clsC (p.cfg K fun _ => none) p k = true ∧ k.init < p.fns.length := fun c k e => by
    obtain ⟨z1, z2⟩ := and2 (List.all_eq_true.mp h3 k (List.mem_of_getElem? e))
    exact ⟨z1, of_decide_eq_true z2⟩
  refine ⟨{ nms := rfl, nnd := of_decide_eq_true h1, spc := of_decide_eq_true h0, fn := fun i f e hp => ?_, kp := fun i f e => ?_, isf := fun i f e => ?_, fin := fun i f e => ?_, cls := fun c k e => clsC_ok X N e (clsC_mg (hk c k e).1), free := fun x hx => ?_, ks := fun x k e => ?_, klass := ⟨eqO_ok h6, of_decide_eq_true h7⟩ }, fun i f e => ?_, fun c k e => ⟨_, List.getElem?_eq_getElem (hk c k e).2⟩, fun i q e => ?_⟩
  · rw [ef i f e]
    have z := (hf i f e).1
    unfold glbC at z
    rw [hp] at z
    exact PySem.W.mg_of X N (eqO_ok z)
  · rw [ef i f e]
    exact (hf i f e).2.1
  · rw [ef i f e]
    exact (hf i f e).2.2.1
  · rw [ef i f e]
    exact fnAtC_in (hf i f e).2.2.2
  · exact PySem.W.mg_none_of X N (eqO_ok (List.all_eq_true.mp h4 x hx))
  · have z := List.all_eq_true.mp h5 (x, k) e
    cases q : PySem.W.nsIn K mainGlobals (p.nms.getD x "") with
    | none =>
      rw [show PySem.W.nsIn K mainGlobals (p.nms.getD (x, k).1 "") = none from q] at z
      cases z
    | some v =>
      rw [show PySem.W.nsIn K mainGlobals (p.nms.getD (x, k).1 "") = some v from q] at z
      cases v with
      | none => cases z
      | some u => exact ⟨k.v, u, PySem.W.mg_of X N q, relB_ok z, k.rep⟩
  · rw [ef i f e]
    exact fnAtC_ok (hf i f e).2.2.2
  · have eg : (p.cfg K mg).gb i = fAd K q.pl := by
      show (match p.gens[i]? with
        | some q => fAd K q.pl
        | none => 0) = _
      rw [e]
    rw [eg]
    exact gnAtC_ok (List.all_eq_true.mp h8 q (List.mem_of_getElem? e))
section
variable {α : Type}
variable (g : Addr → Option Obj)
end
end Wv
namespace Wv
open PySem L2 PySem.Spec PyProof.Rows
/-- the law's promise at the heap behind the top; nothing is being shown around the call -/
theorem law_callG {P : Program} {w : World} {K : PySem.W.Frag} {mg mb : Str → Option Value} {k : Nat} {fa a : Addr} {sp : Sp} {s₁ : Shared} {vs : List Value} {ns : List Int}
    (KX : K.In s₁.heap) (hns : s₁.heap.Ns mainGlobals mg) (hb : s₁.heap.Ns builtinsNs mb) (hbb : ∀ x : Str, x ≠ "__name__" → mb x = bootBuiltins x) (hlim : s₁.heap.NoLimit) (hg : s₁.gens = #[])
    (ha : s₁.heap.get? a = some { cls := .type "list", data := .seq vs.toArray }) (hi : IntsAre vs ns) (hl : ns.length ≤ sizeLine) (hr : Room k PySem.callerA)
    (F : ∀ base : Heap, K.In base → base.Ns mainGlobals mg → FnG P w K mg base k true fa sp)
    (hsp : ∀ H : Hp, Only H → SqL K H a (ns.map V.int) → sp [.ref a] H (fun v _ => v = .bl true) fun _ _ _ => False) :
    codeAny (model P w) PySem.callerA (.call (.ref fa) ⟨[.ref a], []⟩) (fun r s' => r = .ok (.ret (.bool true)) ∧ OldK s₁.heap s'.heap ∧ s'.os = s₁.os ∧ AllBare s'.gens) s₁ := by
  have rv := vals_ints hi
  have lenV := hi.length
  have core : ∀ H : Hp, Only H → SqL K H a (ns.map V.int) → HOk P w H s₁.heap → (∀ b, H b ≠ none → b = a) → (H a ≠ none → K.lookup a = none) →
      codeAny (model P w) PySem.callerA (.call (.ref fa) ⟨[.ref a], []⟩) (fun r s' => r = .ok (.ret (.bool true)) ∧ OldK s₁.heap s'.heap ∧ s'.os = s₁.os ∧ AllBare s'.gens) s₁ := by
    intro H hO hS hok hA hK
    have base_of : ∀ {b : Addr} {o : Obj}, s₁.heap.get? b = some o → H b = none → (hidT s₁.heap H).get? b = some o := fun e n => hidT_get e n
    have noA : ∀ {b : Addr} {o : Obj} {es : Array DictEntry} {ep : Nat}, s₁.heap.get? b = some o → o.data = .dict es ep → H b = none := fun {b o es ep} e d => by
      cases q : H b with
      | none => rfl
      | some u =>
        have e' : b = a := hA b (by rw [q]; simp)
        subst e'
        rw [ha] at e
        cases e
        have d' : Data.seq vs.toArray _ = Data.dict es ep := d
        cases d'
    have nsK : ∀ {b : Addr} {m : Str → Option Value}, s₁.heap.Ns b m → (hidT s₁.heap H).Ns b m := fun {b m} ⟨o, es, ep, e, d, r⟩ => ⟨o, es, ep, base_of e (noA e d), d, r⟩
    have hKb : K.In (hidT s₁.heap H) := fun b o e => base_of (KX b o e) (by
      cases q : H b with
      | none => rfl
      | some u =>
        have e' : b = a := hA b (by rw [q]; simp)
        subst e'
        rw [hK (by rw [q]; simp)] at e
        cases e)
    have hM : Mod K mg (hidT s₁.heap H) := ⟨hKb, nsK hns, ⟨mb, nsK hb, hbb⟩, let ⟨mc, h1, h2⟩ := hlim; ⟨mc, nsK h1, h2⟩⟩
    have e0 : Env0 P w K mg (hidT s₁.heap H) PySem.callerA [] s₁ H := ⟨rfl, hM, fun b o e => of_hidT e, Nat.le_of_eq (hidT_size _ _), trivial, fun b hb => absurd (show b ∈ ([] : List Addr) from hb) (by simp), hok, .of_eq hg⟩
    refine codeAny_mono (F _ hKb (nsK hns) PySem.callerA [] s₁ H [.ref a] [.ref a] _ _ hr (fun _ => rfl) e0 (.cons rfl .nil) (hsp H hO hS)) fun r s' h => ?_
    cases r with
    | error e =>
      obtain ⟨_, _, _, _, _, _, _, _, _, _, _, _, z⟩ := h
      exact z.elim
    | ok fl =>
      cases fl with
      | next => exact False.elim h
      | brk => exact False.elim h
      | cont => exact False.elim h
      | ret u =>
        obtain ⟨v, H', os, bare, un, hok', r', q⟩ := h
        have q' : v = .bl true := q
        subst q'
        obtain rfl : u = Value.bool true := r'
        refine ⟨rfl, OldK.of_keep fun b o e => ?_, os, bare⟩
        cases q : H b with
        | none => exact un.keep b o e q (by intro z; exact absurd (show b ∈ ([] : List Addr) from z) (by simp)) (by simp)
        | some u =>
          rcases hO b with z | ⟨ob, xs, z⟩
          · rw [q] at z
            cases z
          · have z2 := un.frzs b ob _ z
            obtain ⟨e1, _⟩ := hok b _ z
            obtain ⟨e2, _⟩ := hok' b _ z2
            rw [e] at e1
            cases e1
            exact e2
  cases hk : K.lookup a with
  | some o =>
    have e := KX a o hk
    rw [ha] at e
    cases e
    refine core (fun _ => none) (fun _ => .inl rfl) (.inr ⟨_, vs.toArray, _, hk, rfl, rfl, rfl, by rw [List.size_toArray, lenV]; exact hl, by simpa using rv⟩) (fun b u z => by have z' : (none : Option HO) = some u := z; cases z') (fun b z => absurd rfl z) fun z => absurd rfl z
  | none =>
    refine core (fun b => if b = a then some (.frz { cls := .type "list", data := .seq vs.toArray } (.lst (ns.map V.int))) else none) (fun b => ?_) (.inl (.inr ⟨{ cls := .type "list", data := .seq vs.toArray }, if_pos rfl⟩)) (fun b u z => ?_) (fun b z => ?_) fun _ => hk
    · by_cases hb : b = a
      · exact .inr ⟨_, _, if_pos hb⟩
      · exact .inl (if_neg hb)
    · by_cases hb : b = a
      · have z' := (if_pos hb).symm.trans z
        cases z'
        subst hb
        exact ⟨ha, by rw [List.length_map]; exact hl, vs, _, rv, ha⟩
      · have z' := (if_neg hb).symm.trans z
        cases z'
    · by_cases hb : b = a
      · exact hb
      · exact absurd (if_neg hb) z
/-- the law's call, told by the mirror -/
theorem law_sp {G : Cfg} {o : List D → List Cl → Oc} {a : Addr} {ns : List Int} {st : List Cl} (h : o [.scr ns] [] = .ok (.fz (.bl true)) st) {H : Hp} (hO : Only H) (hS : SqL G.K H a (ns.map V.int)) :
    SpF G o [.ref a] H (fun v _ => v = .bl true) fun _ _ _ => False := by
  refine ⟨fun b => H b ≠ none, [], [.scr ns], [], ?_, .cons (.scr ?_) .nil, ?_⟩
  · exact ⟨fun _ _ e _ => e, fun _ e => e, fun _ e => .inl e, fun _ _ e => e, fun _ e => .inl e, (fun _ e => nomatch e), List.nodup_nil, (fun _ e => nomatch e), fun _ e => e, rfl, (fun n a c e _ => by simp at e), rfl, (fun k a b c e _ => by simp at e), rfl, (fun i r e => by simp at e), fun _ e => nomatch e⟩
  · rcases hS with h | h
    · refine .inl ⟨?_, h⟩
      rcases h with h | ⟨o, h⟩ <;> (rw [h]; exact Option.some_ne_none _)
    · exact .inr h
  · rw [h]
    intro U env fs hs σ H' v r _
    have z : Rep G U.F U.mu H' v (.bl true) := r.top
    exact rep_bl z
/-- the walk of a law: N calls deep -/
theorem law_walk {l : PySem.W.OpenLaw} {n N i : Nat} {q : Program} {loose : List Str} {XP : (Str → Option Value) → Heap → Prop} {m : Nat} {p : Pg} {f : Fn} {d : DefRec}
    (hn : l.most = some n) (hn2 : n ≤ sizeLine) (hdf : d.params.defaults = []) (hr : Room (4 * N) PySem.callerA) (hf : p.fns[i]? = some f) (hp : f.pl = (d.name, none))
    (law : ∀ ns : List Int, ns.length ≤ n → ∃ st, (prm p true N).call i [.scr ns] [] = .ok (.fz (.bl true)) st) :
    PySem.W.WalkO q loose XP (hookW m p).says l.row.toRowW d [] (fun f vs => PySem.call f vs) := by
  refine Att.attach_call hn hdf fun w s₀ s₁ mg mb fa o pm cd doc a vs ns G Y ho hd hcd hmg hobj hints hlen hg => ?_
  obtain ⟨K, KX, hc⟩ := Y
  obtain ⟨pg, hfn, hin, hgn⟩ := chPg_ok KX G.T.g hc
  have efa : fa = (p.cfg K mg).fa i := by
    have z := pg.fn i f hf (by rw [hp])
    rw [hp] at z
    have z : mg d.name = some (.ref ((p.cfg K mg).fa i)) := z
    rw [hmg] at z
    cases z
    rfl
  obtain ⟨st, hlaw⟩ := law ns hlen
  refine law_callG (k := 4 * N) (sp := SpF (p.cfg K mg) ((prm p true N).call i)) KX G.T.g G.T.b G.T.builtins G.T.nolimit hg hobj hints (Nat.le_trans hlen hn2) hr (fun base _ _ => ?_) fun H hO hS => law_sp hlaw hO hS
  rw [efa]
  exact (all_run (P := l.prog) (w := w) (base := base) pg hfn hin hgn N true).1 i f hf
end Wv
namespace Wv
open PySem L2
theorem bnd_ext {α β : Type} {o : Out α} {k k' : α → FS → Out β} (h : ∀ a s, k a s = k' a s) : o.bnd k = o.bnd k' := by rw [show k = k' from funext fun a => funext fun s => h a s]
theorem need_ext {α β : Type} {o : Option α} {k k' : α → Out β} (h : ∀ a, k a = k' a) : need o k = need o k' := by rw [show k = k' from funext h]
def cnd {α : Type} (b : Bool) (x y : α) : α := match b with
  | true => x
  | false => y
@[simp] theorem cnd_true {α : Type} (x y : α) : cnd true x y = x := Eq.trans rfl rfl
@[simp] theorem cnd_false {α : Type} (x y : α) : cnd false x y = y := Eq.trans rfl rfl
theorem cnd_ite {α : Type} (b : Bool) (x y : α) : (if b = true then x else y) = cnd b x y := by cases b <;> rfl
theorem cnd_iteD {α : Type} (b : Prop) [Decidable b] (x y : α) : (if b then x else y) = cnd (decide b) x y := by by_cases h : b <;> simp [h]
def SO.seq (o : SO) (k : Ev → FS → SO) : SO := match o with
  | .nx env s => k env s
  | o => o
@[simp] theorem seq_nx (env : Ev) (s : FS) (k : Ev → FS → SO) : (SO.nx env s).seq k = k env s := Eq.trans rfl rfl
@[simp] theorem seq_rt (r : R) (env : Ev) (s : FS) (k : Ev → FS → SO) : (SO.rt r env s).seq k = .rt r env s := Eq.trans rfl rfl
@[simp] theorem seq_exc (x : Xc) (env : Ev) (s : FS) (k : Ev → FS → SO) : (SO.exc x env s).seq k = .exc x env s := Eq.trans rfl rfl
@[simp] theorem seq_bk (env : Ev) (s : FS) (k : Ev → FS → SO) : (SO.bk env s).seq k = .bk env s := Eq.trans rfl rfl
@[simp] theorem seq_ct (env : Ev) (s : FS) (k : Ev → FS → SO) : (SO.ct env s).seq k = .ct env s := Eq.trans rfl rfl
/-- a name's value -/
def var? : Option (Option R) → FS → Out R
  | some (some r), s => .ok r s
  | _, _ => .bad
@[simp] theorem var?_some (r : R) (s : FS) : var? (some (some r)) s = .ok r s := Eq.trans rfl rfl

def okB (s : FS) : Bool → Out R := fun c => .ok (.fz (.bl c)) s
@[simp] theorem okB_ap (s : FS) (c : Bool) : okB s c = .ok (.fz (.bl c)) s := Eq.trans rfl rfl
def okD (s : FS) : D → Out R := fun d => .ok (.fz d) s
@[simp] theorem okD_ap (s : FS) (d : D) : okD s d = .ok (.fz d) s := Eq.trans rfl rfl
def okRs (s : FS) : Rs → Out R := fun r => r.out s
@[simp] theorem okRs_ap (s : FS) (r : Rs) : okRs s r = r.out s := Eq.trans rfl rfl
@[simp] theorem ev_var (P : Prm) (env : Ev) (s : FS) (i : Nat) : ev P (.var i) env s = var? env[i]? s := by
  show (match env[i]? with
    | some (some r) => Out.ok r s
    | _ => .bad) = _
  cases env[i]? with
  | none => rfl
  | some o => cases o <;> rfl
@[simp] theorem ev_con (P : Prm) (env : Ev) (s : FS) (k : Kc) : ev P (.con k) env s = .ok (.fz k.d) s := Eq.trans rfl rfl
@[simp] theorem ev_glo (P : Prm) (env : Ev) (s : FS) (i : Nat) (k : Kc) : ev P (.glo i k) env s = .ok (.fz k.d) s := Eq.trans rfl rfl
def kCmp4 (o : Cmp) (d : D) (s : FS) : D → Out R := fun e => need (cmpD o d e) (okB s)
@[simp] theorem kCmp4_ap (o : Cmp) (d : D) (s : FS) (e : D) : kCmp4 o d s e = need (cmpD o d e) (okB s) := Eq.trans rfl rfl
def kCmp3 (o : Cmp) (y : R) (s : FS) : D → Out R := fun d => need (dv s y) (kCmp4 o d s)
@[simp] theorem kCmp3_ap (o : Cmp) (y : R) (s : FS) (d : D) : kCmp3 o y s d = need (dv s y) (kCmp4 o d s) := Eq.trans rfl rfl
def kCmp2 (o : Cmp) (x : R) : R → FS → Out R := fun y s => need (dv s x) (kCmp3 o y s)
@[simp] theorem kCmp2_ap (o : Cmp) (x : R) (y : R) (s : FS) : kCmp2 o x y s = need (dv s x) (kCmp3 o y s) := Eq.trans rfl rfl
def kCmp1 (P : Prm) (o : Cmp) (b : E) (env : Ev) : R → FS → Out R := fun x s => (ev P b env s).bnd (kCmp2 o x)
@[simp] theorem kCmp1_ap (P : Prm) (o : Cmp) (b : E) (env : Ev) (x : R) (s : FS) : kCmp1 P o b env x s = (ev P b env s).bnd (kCmp2 o x) := Eq.trans rfl rfl
@[simp] theorem ev_cmp (P : Prm) (env : Ev) (s : FS) (o : Cmp) (a b : E) : ev P (.cmp o a b) env s = (ev P a env s).bnd (kCmp1 P o b env) := Eq.trans rfl rfl
def kBo3 (P : Prm) (m : Nat) (q0 : D × FS) : D × FS → Out R := fun q => P.binO q0.1 m q.1 q.2
@[simp] theorem kBo3_ap (P : Prm) (m : Nat) (q0 : D × FS) (q : D × FS) : kBo3 P m q0 q = P.binO q0.1 m q.1 q.2 := Eq.trans rfl rfl
def kBo2 (P : Prm) (y : R) (m : Nat) : D × FS → Out R := fun q0 => need (Wv.fz q0.2 y) (kBo3 P m q0)
@[simp] theorem kBo2_ap (P : Prm) (y : R) (m : Nat) (q0 : D × FS) : kBo2 P y m q0 = need (Wv.fz q0.2 y) (kBo3 P m q0) := Eq.trans rfl rfl
def kBo1 (P : Prm) (x : R) (y : R) (s : FS) : Nat → Out R := fun m => need (Wv.fz s x) (kBo2 P y m)
@[simp] theorem kBo1_ap (P : Prm) (x : R) (y : R) (s : FS) (m : Nat) : kBo1 P x y s m = need (Wv.fz s x) (kBo2 P y m) := Eq.trans rfl rfl
def kBin4 (P : Prm) (o : Bin) (x : R) (y : R) (d : D) (s : FS) : D → Out R := fun e => cnd (isObj d) (need (binM o) (kBo1 P x y s)) (need (binD o d e) (okRs s))
@[simp] theorem kBin4_ap (P : Prm) (o : Bin) (x : R) (y : R) (d : D) (s : FS) (e : D) : kBin4 P o x y d s e = cnd (isObj d) (need (binM o) (kBo1 P x y s)) (need (binD o d e) (okRs s)) := Eq.trans rfl rfl
def kBin3 (P : Prm) (o : Bin) (x : R) (y : R) (s : FS) : D → Out R := fun d => need (dv s y) (kBin4 P o x y d s)
@[simp] theorem kBin3_ap (P : Prm) (o : Bin) (x : R) (y : R) (s : FS) (d : D) : kBin3 P o x y s d = need (dv s y) (kBin4 P o x y d s) := Eq.trans rfl rfl
def kBin2 (P : Prm) (o : Bin) (x : R) : R → FS → Out R := fun y s => need (dv s x) (kBin3 P o x y s)
@[simp] theorem kBin2_ap (P : Prm) (o : Bin) (x : R) (y : R) (s : FS) : kBin2 P o x y s = need (dv s x) (kBin3 P o x y s) := Eq.trans rfl rfl
def kBin1 (P : Prm) (o : Bin) (b : E) (env : Ev) : R → FS → Out R := fun x s => (ev P b env s).bnd (kBin2 P o x)
@[simp] theorem kBin1_ap (P : Prm) (o : Bin) (b : E) (env : Ev) (x : R) (s : FS) : kBin1 P o b env x s = (ev P b env s).bnd (kBin2 P o x) := Eq.trans rfl rfl
@[simp] theorem ev_bin (P : Prm) (env : Ev) (s : FS) (o : Bin) (a b : E) : ev P (.bin o a b) env s = (ev P a env s).bnd (kBin1 P o b env) := by
  show ((ev P a env s).bnd fun x s => (ev P b env s).bnd fun y s => need (dv s x) fun d => need (dv s y) fun e =>
      if isObj d = true then need (binM o) fun m => need (Wv.fz s x) fun q0 => need (Wv.fz q0.2 y) fun q => P.binO q0.1 m q.1 q.2 else need (binD o d e) fun r => r.out s) = _
  refine bnd_ext fun x s => bnd_ext fun y s => need_ext fun d => need_ext fun e => ?_
  exact cnd_ite _ _ _
def kCh6 (p : Cmp) (e : D) (s : FS) : D → Out R := fun g => need (cmpD p e g) (okB s)
@[simp] theorem kCh6_ap (p : Cmp) (e : D) (s : FS) (g : D) : kCh6 p e s g = need (cmpD p e g) (okB s) := Eq.trans rfl rfl
def kCh5 (p : Cmp) (z : R) (s : FS) : D → Out R := fun e => need (dv s z) (kCh6 p e s)
@[simp] theorem kCh5_ap (p : Cmp) (z : R) (s : FS) (e : D) : kCh5 p z s e = need (dv s z) (kCh6 p e s) := Eq.trans rfl rfl
def kCh4 (p : Cmp) (y : R) : R → FS → Out R := fun z s => need (dv s y) (kCh5 p z s)
@[simp] theorem kCh4_ap (p : Cmp) (y : R) (z : R) (s : FS) : kCh4 p y z s = need (dv s y) (kCh5 p z s) := Eq.trans rfl rfl
def kCh3 (P : Prm) (p : Cmp) (c : E) (env : Ev) (y : R) (s : FS) : Bool → Out R := fun k => cnd k ((ev P c env s).bnd (kCh4 p y)) (.ok (.fz (.bl false)) s)
@[simp] theorem kCh3_ap (P : Prm) (p : Cmp) (c : E) (env : Ev) (y : R) (s : FS) (k : Bool) : kCh3 P p c env y s k = cnd k ((ev P c env s).bnd (kCh4 p y)) (.ok (.fz (.bl false)) s) := Eq.trans rfl rfl
def kCh2 (P : Prm) (o : Cmp) (p : Cmp) (c : E) (env : Ev) (y : R) (d : D) (s : FS) : D → Out R := fun e => need (cmpD o d e) (kCh3 P p c env y s)
@[simp] theorem kCh2_ap (P : Prm) (o : Cmp) (p : Cmp) (c : E) (env : Ev) (y : R) (d : D) (s : FS) (e : D) : kCh2 P o p c env y d s e = need (cmpD o d e) (kCh3 P p c env y s) := Eq.trans rfl rfl
def kCh1 (P : Prm) (o : Cmp) (p : Cmp) (c : E) (env : Ev) (y : R) (s : FS) : D → Out R := fun d => need (dv s y) (kCh2 P o p c env y d s)
@[simp] theorem kCh1_ap (P : Prm) (o : Cmp) (p : Cmp) (c : E) (env : Ev) (y : R) (s : FS) (d : D) : kCh1 P o p c env y s d = need (dv s y) (kCh2 P o p c env y d s) := Eq.trans rfl rfl
def kChB (P : Prm) (o : Cmp) (p : Cmp) (c : E) (env : Ev) (x : R) : R → FS → Out R := fun y s => need (dv s x) (kCh1 P o p c env y s)
@[simp] theorem kChB_ap (P : Prm) (o : Cmp) (p : Cmp) (c : E) (env : Ev) (x : R) (y : R) (s : FS) : kChB P o p c env x y s = need (dv s x) (kCh1 P o p c env y s) := Eq.trans rfl rfl
def kChA (P : Prm) (o : Cmp) (p : Cmp) (b : E) (c : E) (env : Ev) : R → FS → Out R := fun x s => (ev P b env s).bnd (kChB P o p c env x)
@[simp] theorem kChA_ap (P : Prm) (o : Cmp) (p : Cmp) (b : E) (c : E) (env : Ev) (x : R) (s : FS) : kChA P o p b c env x s = (ev P b env s).bnd (kChB P o p c env x) := Eq.trans rfl rfl
@[simp] theorem ev_chn (P : Prm) (env : Ev) (s : FS) (o p : Cmp) (a b c : E) : ev P (.chn o p a b c) env s = (ev P a env s).bnd (kChA P o p b c env) := by
  show ((ev P a env s).bnd fun x s => (ev P b env s).bnd fun y s => need (dv s x) fun d => need (dv s y) fun e => need (cmpD o d e) fun k =>
      if k = true then (ev P c env s).bnd fun z s => need (dv s y) fun e => need (dv s z) fun g => need (cmpD p e g) fun k => Out.ok (R.fz (.bl k)) s else Out.ok (R.fz (.bl false)) s) = _
  refine bnd_ext fun x s => bnd_ext fun y s => need_ext fun d => need_ext fun e => need_ext fun k => ?_
  exact cnd_ite _ _ _
def kAnd2 (P : Prm) (b : E) (env : Ev) (s : FS) : Bool → Out R := fun c => cnd c (ev P b env s) (Out.ok (R.fz (.bl false)) s)
@[simp] theorem kAnd2_ap (P : Prm) (b : E) (env : Ev) (s : FS) (c : Bool) : kAnd2 P b env s c = cnd c (ev P b env s) (Out.ok (R.fz (.bl false)) s) := Eq.trans rfl rfl
def kAnd1 (P : Prm) (b : E) (env : Ev) : R → FS → Out R := fun x s => need (bl? x) (kAnd2 P b env s)
@[simp] theorem kAnd1_ap (P : Prm) (b : E) (env : Ev) (x : R) (s : FS) : kAnd1 P b env x s = need (bl? x) (kAnd2 P b env s) := Eq.trans rfl rfl
@[simp] theorem ev_and (P : Prm) (env : Ev) (s : FS) (a b : E) : ev P (.and a b) env s = (ev P a env s).bnd (kAnd1 P b env) := by
  show ((ev P a env s).bnd fun x s => need (bl? x) fun c => if c = true then ev P b env s else Out.ok (R.fz (.bl false)) s) = _
  exact bnd_ext fun x s => need_ext fun c => cnd_ite _ _ _
def kOr2 (P : Prm) (b : E) (env : Ev) (s : FS) : Bool → Out R := fun c => cnd c (Out.ok (R.fz (.bl true)) s) (ev P b env s)
@[simp] theorem kOr2_ap (P : Prm) (b : E) (env : Ev) (s : FS) (c : Bool) : kOr2 P b env s c = cnd c (Out.ok (R.fz (.bl true)) s) (ev P b env s) := Eq.trans rfl rfl
def kOr1 (P : Prm) (b : E) (env : Ev) : R → FS → Out R := fun x s => need (bl? x) (kOr2 P b env s)
@[simp] theorem kOr1_ap (P : Prm) (b : E) (env : Ev) (x : R) (s : FS) : kOr1 P b env x s = need (bl? x) (kOr2 P b env s) := Eq.trans rfl rfl
@[simp] theorem ev_or (P : Prm) (env : Ev) (s : FS) (a b : E) : ev P (.or a b) env s = (ev P a env s).bnd (kOr1 P b env) := by
  show ((ev P a env s).bnd fun x s => need (bl? x) fun c => if c = true then Out.ok (R.fz (.bl true)) s else ev P b env s) = _
  exact bnd_ext fun x s => need_ext fun c => cnd_ite _ _ _
def okN (s : FS) : Bool → Out R := fun c => .ok (.fz (.bl !c)) s
@[simp] theorem okN_ap (s : FS) (c : Bool) : okN s c = .ok (.fz (.bl !c)) s := Eq.trans rfl rfl
def kNot  : R → FS → Out R := fun x s => need (bl? x) (okN s)
@[simp] theorem kNot_ap  (x : R) (s : FS) : kNot  x s = need (bl? x) (okN s) := Eq.trans rfl rfl
@[simp] theorem ev_not (P : Prm) (env : Ev) (s : FS) (a : E) : ev P (.not a) env s = (ev P a env s).bnd kNot := Eq.trans rfl rfl
def negO : R → FS → Out R
  | .fz (.int i), s => .ok (.fz (.int (-i))) s
  | _, _ => .bad
@[simp] theorem negO_int (i : Int) (s : FS) : negO (.fz (.int i)) s = .ok (.fz (.int (-i))) s := Eq.trans rfl rfl

@[simp] theorem ev_neg (P : Prm) (env : Ev) (s : FS) (a : E) : ev P (.neg a) env s = (ev P a env s).bnd negO := by
  show ((ev P a env s).bnd fun x s => match x with
    | .fz (.int i) => Out.ok (R.fz (.int (-i))) s
    | _ => .bad) = _
  refine bnd_ext fun x s => ?_
  cases x with
  | own k => rfl
  | fz d => cases d <;> rfl
def kIfe2 (P : Prm) (a : E) (b : E) (env : Ev) (s : FS) : Bool → Out R := fun c => cnd c (ev P a env s) (ev P b env s)
@[simp] theorem kIfe2_ap (P : Prm) (a : E) (b : E) (env : Ev) (s : FS) (c : Bool) : kIfe2 P a b env s c = cnd c (ev P a env s) (ev P b env s) := Eq.trans rfl rfl
def kIfe1 (P : Prm) (a : E) (b : E) (env : Ev) : R → FS → Out R := fun x s => need (bl? x) (kIfe2 P a b env s)
@[simp] theorem kIfe1_ap (P : Prm) (a : E) (b : E) (env : Ev) (x : R) (s : FS) : kIfe1 P a b env x s = need (bl? x) (kIfe2 P a b env s) := Eq.trans rfl rfl
@[simp] theorem ev_ife (P : Prm) (env : Ev) (s : FS) (t a b : E) : ev P (.ife t a b) env s = (ev P t env s).bnd (kIfe1 P a b env) := by
  show ((ev P t env s).bnd fun x s => need (bl? x) fun c => if c = true then ev P a env s else ev P b env s) = _
  exact bnd_ext fun x s => need_ext fun c => cnd_ite _ _ _
def kTup2  : List D × FS → Out R := fun p => cnd (decide (p.1.length ≤ sizeLine)) (Out.ok (R.fz (.tup p.1)) p.2) .bad
@[simp] theorem kTup2_ap  (p : List D × FS) : kTup2  p = cnd (decide (p.1.length ≤ sizeLine)) (Out.ok (R.fz (.tup p.1)) p.2) .bad := Eq.trans rfl rfl
def kTup1  : List R → FS → Out R := fun rs s => need (Wv.fzs s rs) kTup2
@[simp] theorem kTup1_ap  (rs : List R) (s : FS) : kTup1  rs s = need (Wv.fzs s rs) kTup2 := Eq.trans rfl rfl
@[simp] theorem ev_tup (P : Prm) (env : Ev) (s : FS) (es : E) : ev P (.tup es) env s = (evs P es env s).bnd kTup1 := by
  show ((evs P es env s).bnd fun rs s => need (Wv.fzs s rs) fun p => if p.1.length ≤ sizeLine then Out.ok (R.fz (.tup p.1)) p.2 else .bad) = _
  exact bnd_ext fun x s => need_ext fun c => cnd_iteD _ _ _
def kLst2  : List D × FS → Out R := fun p => cnd (decide (p.1.length ≤ sizeLine)) ((Rs.l p.1).out p.2) .bad
@[simp] theorem kLst2_ap  (p : List D × FS) : kLst2  p = cnd (decide (p.1.length ≤ sizeLine)) ((Rs.l p.1).out p.2) .bad := Eq.trans rfl rfl
def kLst1  : List R → FS → Out R := fun rs s => need (Wv.fzs s rs) kLst2
@[simp] theorem kLst1_ap  (rs : List R) (s : FS) : kLst1  rs s = need (Wv.fzs s rs) kLst2 := Eq.trans rfl rfl
@[simp] theorem ev_lst (P : Prm) (env : Ev) (s : FS) (es : E) : ev P (.lst es) env s = (evs P es env s).bnd kLst1 := by
  show ((evs P es env s).bnd fun rs s => need (Wv.fzs s rs) fun p => if p.1.length ≤ sizeLine then (Rs.l p.1).out p.2 else .bad) = _
  exact bnd_ext fun x s => need_ext fun c => cnd_iteD _ _ _
def kLsc2  : List D × FS → Out R := fun p => cnd (decide (p.1.length ≤ sizeLine)) (Out.ok (R.fz (.cel p.2.st.length)) ⟨p.2.ol, p.2.st ++ [.lst p.1]⟩) .bad
@[simp] theorem kLsc2_ap  (p : List D × FS) : kLsc2  p = cnd (decide (p.1.length ≤ sizeLine)) (Out.ok (R.fz (.cel p.2.st.length)) ⟨p.2.ol, p.2.st ++ [.lst p.1]⟩) .bad := Eq.trans rfl rfl
def kLsc1  : List R → FS → Out R := fun rs s => need (Wv.fzs s rs) kLsc2
@[simp] theorem kLsc1_ap  (rs : List R) (s : FS) : kLsc1  rs s = need (Wv.fzs s rs) kLsc2 := Eq.trans rfl rfl
@[simp] theorem ev_lsc (P : Prm) (env : Ev) (s : FS) (es : E) : ev P (.lsc es) env s = (evs P es env s).bnd kLsc1 := by
  show ((evs P es env s).bnd fun rs s => need (Wv.fzs s rs) fun p => if p.1.length ≤ sizeLine then Out.ok (R.fz (.cel p.2.st.length)) ⟨p.2.ol, p.2.st ++ [.lst p.1]⟩ else .bad) = _
  exact bnd_ext fun x s => need_ext fun c => cnd_iteD _ _ _
/-- x[e] -/
def idxO (d e : D) (s : FS) : Out R := match d with
  | .cel n => (match s.st[n]?, e with
    | some (.lst xs), .int i => need (atI xs i) fun r => .ok (.fz r) s
    | _, _ => .bad)
  | _ => need (idxD d e) fun r => .ok (.fz r) s
@[simp] theorem idxO_tup (xs : List D) (i : Int) (s : FS) : idxO (.tup xs) (.int i) s = need (atI xs i) (okD s) := Eq.trans rfl rfl
@[simp] theorem idxO_lst (xs : List D) (i : Int) (s : FS) : idxO (.lst xs) (.int i) s = need (atI xs i) (okD s) := Eq.trans rfl rfl
@[simp] theorem idxO_scr (ns : List Int) (i : Int) (s : FS) : idxO (.scr ns) (.int i) s = need ((atI ns i).map D.int) (okD s) := Eq.trans rfl rfl
def celO (c : Option Cl) (i : Int) (s : FS) : Out R := match c with
  | some (.lst xs) => need (atI xs i) (okD s)
  | _ => .bad
@[simp] theorem idxO_cel (n : Nat) (i : Int) (s : FS) : idxO (.cel n) (.int i) s = celO s.st[n]? i s := by
  show (match s.st[n]?, D.int i with
    | some (.lst xs), .int i => need (atI xs i) fun r => Out.ok (R.fz r) s
    | _, _ => .bad) = _
  unfold celO
  cases s.st[n]? with
  | none => rfl
  | some c => cases c <;> rfl
@[simp] theorem celO_lst (xs : List D) (i : Int) (s : FS) : celO (some (.lst xs)) i s = need (atI xs i) (okD s) := Eq.trans rfl rfl

def kIdx4 (d : D) (s : FS) : D → Out R := fun e => idxO d e s
@[simp] theorem kIdx4_ap (d : D) (s : FS) (e : D) : kIdx4 d s e = idxO d e s := Eq.trans rfl rfl
def kIdx3 (y : R) (s : FS) : D → Out R := fun d => need (dv s y) (kIdx4 d s)
@[simp] theorem kIdx3_ap (y : R) (s : FS) (d : D) : kIdx3 y s d = need (dv s y) (kIdx4 d s) := Eq.trans rfl rfl
def kIdx2 (x : R) : R → FS → Out R := fun y s => need (dv s x) (kIdx3 y s)
@[simp] theorem kIdx2_ap (x : R) (y : R) (s : FS) : kIdx2 x y s = need (dv s x) (kIdx3 y s) := Eq.trans rfl rfl
def kIdx1 (P : Prm) (b : E) (env : Ev) : R → FS → Out R := fun x s => (ev P b env s).bnd (kIdx2 x)
@[simp] theorem kIdx1_ap (P : Prm) (b : E) (env : Ev) (x : R) (s : FS) : kIdx1 P b env x s = (ev P b env s).bnd (kIdx2 x) := Eq.trans rfl rfl
@[simp] theorem ev_idx (P : Prm) (env : Ev) (s : FS) (a b : E) : ev P (.idx a b) env s = (ev P a env s).bnd (kIdx1 P b env) := Eq.trans rfl rfl
def kSlc4 (l : Option Int) (h : Option Int) (s : FS) : D → Out R := fun d => need (slcD d l h) (okRs s)
@[simp] theorem kSlc4_ap (l : Option Int) (h : Option Int) (s : FS) (d : D) : kSlc4 l h s d = need (slcD d l h) (okRs s) := Eq.trans rfl rfl
def kSlc3 (x : R) (l : Option Int) : Option Int → FS → Out R := fun h s => need (dv s x) (kSlc4 l h s)
@[simp] theorem kSlc3_ap (x : R) (l : Option Int) (h : Option Int) (s : FS) : kSlc3 x l h s = need (dv s x) (kSlc4 l h s) := Eq.trans rfl rfl
def kSlc2 (P : Prm) (hi : E) (env : Ev) (x : R) : Option Int → FS → Out R := fun l s => (evP P hi env s).bnd (kSlc3 x l)
@[simp] theorem kSlc2_ap (P : Prm) (hi : E) (env : Ev) (x : R) (l : Option Int) (s : FS) : kSlc2 P hi env x l s = (evP P hi env s).bnd (kSlc3 x l) := Eq.trans rfl rfl
def kSlc1 (P : Prm) (lo : E) (hi : E) (env : Ev) : R → FS → Out R := fun x s => (evP P lo env s).bnd (kSlc2 P hi env x)
@[simp] theorem kSlc1_ap (P : Prm) (lo : E) (hi : E) (env : Ev) (x : R) (s : FS) : kSlc1 P lo hi env x s = (evP P lo env s).bnd (kSlc2 P hi env x) := Eq.trans rfl rfl
@[simp] theorem ev_slc (P : Prm) (env : Ev) (s : FS) (a lo hi : E) : ev P (.slc a lo hi) env s = (ev P a env s).bnd (kSlc1 P lo hi env) := Eq.trans rfl rfl
def kPop (k : Nat) : R → FS → Out R := fun r s => popD k r s
@[simp] theorem kPop_ap (k : Nat) (r : R) (s : FS) : kPop k r s = popD k r s := Eq.trans rfl rfl
def popO (P : Prm) (i : E) (env : Ev) (s : FS) : Option (Option R) → Out R
  | some (some (.own k)) => cnd (isLst s (.own k)) ((ev P i env s).bnd (kPop k)) .bad
  | _ => .bad
@[simp] theorem popO_own (P : Prm) (i : E) (env : Ev) (s : FS) (k : Nat) : popO P i env s (some (some (.own k))) = cnd (isLst s (.own k)) ((ev P i env s).bnd (kPop k)) .bad := Eq.trans rfl rfl
@[simp] theorem ev_pop (P : Prm) (env : Ev) (s : FS) (x : Nat) (i : E) : ev P (.pop x i) env s = popO P i env s env[x]? := by
  show (match env[x]? with
    | some (some (.own k)) => if isLst s (.own k) = true then (ev P i env s).bnd fun r s => popD k r s else .bad
    | _ => .bad) = _
  unfold popO
  split
  · exact cnd_ite _ _ _
  · rfl

def kFrz2  : D × FS → Out R := fun p => .ok (.fz p.1) p.2
@[simp] theorem kFrz2_ap  (p : D × FS) : kFrz2  p = .ok (.fz p.1) p.2 := Eq.trans rfl rfl
def kFrz1  : R → FS → Out R := fun x s => need (Wv.fz s x) kFrz2
@[simp] theorem kFrz1_ap  (x : R) (s : FS) : kFrz1  x s = need (Wv.fz s x) kFrz2 := Eq.trans rfl rfl
@[simp] theorem ev_frz (P : Prm) (env : Ev) (s : FS) (a : E) : ev P (.frz a) env s = (ev P a env s).bnd kFrz1 := Eq.trans rfl rfl
def kRev2 (s : FS) : D → Out R := fun d => need (revD d) (okRs s)
@[simp] theorem kRev2_ap (s : FS) (d : D) : kRev2 s d = need (revD d) (okRs s) := Eq.trans rfl rfl
def kRev1  : R → FS → Out R := fun x s => need (dv s x) (kRev2 s)
@[simp] theorem kRev1_ap  (x : R) (s : FS) : kRev1  x s = need (dv s x) (kRev2 s) := Eq.trans rfl rfl
@[simp] theorem ev_rev (P : Prm) (env : Ev) (s : FS) (a : E) : ev P (.rev a) env s = (ev P a env s).bnd kRev1 := Eq.trans rfl rfl
def kCal2 (P : Prm) (f : Nat) : List D × FS → Out R := fun p => (P.call f p.1 p.2.st).out p.2.ol
@[simp] theorem kCal2_ap (P : Prm) (f : Nat) (p : List D × FS) : kCal2 P f p = (P.call f p.1 p.2.st).out p.2.ol := Eq.trans rfl rfl
def kCal1 (P : Prm) (f : Nat) : List R → FS → Out R := fun rs s => need (Wv.fzs s rs) (kCal2 P f)
@[simp] theorem kCal1_ap (P : Prm) (f : Nat) (rs : List R) (s : FS) : kCal1 P f rs s = need (Wv.fzs s rs) (kCal2 P f) := Eq.trans rfl rfl
@[simp] theorem ev_cal (P : Prm) (env : Ev) (s : FS) (f : Nat) (es : E) : ev P (.cal f es) env s = (evs P es env s).bnd (kCal1 P f) := Eq.trans rfl rfl
def kNew2 (P : Prm) (c : Nat) : List D × FS → Out R := fun p => (P.make c p.1 p.2.st).out p.2.ol
@[simp] theorem kNew2_ap (P : Prm) (c : Nat) (p : List D × FS) : kNew2 P c p = (P.make c p.1 p.2.st).out p.2.ol := Eq.trans rfl rfl
def kNew1 (P : Prm) (c : Nat) : List R → FS → Out R := fun rs s => need (Wv.fzs s rs) (kNew2 P c)
@[simp] theorem kNew1_ap (P : Prm) (c : Nat) (rs : List R) (s : FS) : kNew1 P c rs s = need (Wv.fzs s rs) (kNew2 P c) := Eq.trans rfl rfl
@[simp] theorem ev_new (P : Prm) (env : Ev) (s : FS) (c : Nat) (es : E) : ev P (.new c es) env s = (evs P es env s).bnd (kNew1 P c) := Eq.trans rfl rfl
def kMet5 (P : Prm) (d : D) (f : Nat) : List D × FS → Out R := fun p => (P.call f (d :: p.1) p.2.st).out p.2.ol
@[simp] theorem kMet5_ap (P : Prm) (d : D) (f : Nat) (p : List D × FS) : kMet5 P d f p = (P.call f (d :: p.1) p.2.st).out p.2.ol := Eq.trans rfl rfl
def kMet4 (P : Prm) (d : D) (f : Nat) : List R → FS → Out R := fun rs s => need (Wv.fzs s rs) (kMet5 P d f)
@[simp] theorem kMet4_ap (P : Prm) (d : D) (f : Nat) (rs : List R) (s : FS) : kMet4 P d f rs s = need (Wv.fzs s rs) (kMet5 P d f) := Eq.trans rfl rfl
def kMet3 (P : Prm) (es : E) (env : Ev) (q : D × FS) : Nat → Out R := fun f => (evs P es env q.2).bnd (kMet4 P q.1 f)
@[simp] theorem kMet3_ap (P : Prm) (es : E) (env : Ev) (q : D × FS) (f : Nat) : kMet3 P es env q f = (evs P es env q.2).bnd (kMet4 P q.1 f) := Eq.trans rfl rfl
def kMet2 (P : Prm) (m : Nat) (es : E) (env : Ev) (q : D × FS) : Nat × List Nat × List D → Out R := fun c => need (P.fnOf c m) (kMet3 P es env q)
@[simp] theorem kMet2_ap (P : Prm) (m : Nat) (es : E) (env : Ev) (q : D × FS) (c : Nat × List Nat × List D) : kMet2 P m es env q c = need (P.fnOf c m) (kMet3 P es env q) := Eq.trans rfl rfl
def kMet1 (P : Prm) (m : Nat) (es : E) (env : Ev) : D × FS → Out R := fun q => need (clsOf q.1 q.2.st) (kMet2 P m es env q)
@[simp] theorem kMet1_ap (P : Prm) (m : Nat) (es : E) (env : Ev) (q : D × FS) : kMet1 P m es env q = need (clsOf q.1 q.2.st) (kMet2 P m es env q) := Eq.trans rfl rfl
def kMet0 (P : Prm) (m : Nat) (es : E) (env : Ev) : R → FS → Out R := fun x s => need (Wv.fz s x) (kMet1 P m es env)
@[simp] theorem kMet0_ap (P : Prm) (m : Nat) (es : E) (env : Ev) (x : R) (s : FS) : kMet0 P m es env x s = need (Wv.fz s x) (kMet1 P m es env) := Eq.trans rfl rfl
@[simp] theorem ev_met (P : Prm) (env : Ev) (s : FS) (o : E) (m : Nat) (es : E) : ev P (.met o m es) env s = (ev P o env s).bnd (kMet0 P m es env) := Eq.trans rfl rfl
def kFld4 (P : Prm) (f : Nat) : D × FS → Out R := fun z => (P.call f [z.1] z.2.st).nox.out z.2.ol
@[simp] theorem kFld4_ap (P : Prm) (f : Nat) (z : D × FS) : kFld4 P f z = (P.call f [z.1] z.2.st).nox.out z.2.ol := Eq.trans rfl rfl
/-- o.x -/
def fldO (P : Prm) (x : Nat) (q : Nat × List Nat × List D) (r : R) (s : FS) : Option Nat → Out R
  | some f => need (Wv.fz s r) (kFld4 P f)
  | none => cnd (P.fldOk q.1 x) (need ((q.2.1.zip q.2.2).lookup x) (okD s)) .bad
@[simp] theorem fldO_some (P : Prm) (x : Nat) (q : Nat × List Nat × List D) (r : R) (s : FS) (f : Nat) : fldO P x q r s (some f) = need (Wv.fz s r) (kFld4 P f) := Eq.trans rfl rfl
@[simp] theorem fldO_none (P : Prm) (x : Nat) (q : Nat × List Nat × List D) (r : R) (s : FS) : fldO P x q r s none = cnd (P.fldOk q.1 x) (need ((q.2.1.zip q.2.2).lookup x) (okD s)) .bad := Eq.trans rfl rfl
@[simp] theorem nox_ok (r : RV) (st : List Cl) : (Oc.ok r st).nox = .ok r st := Eq.trans rfl rfl
def kFld3 (P : Prm) (x : Nat) (r : R) (s : FS) : Nat × List Nat × List D → Out R := fun q => fldO P x q r s (P.propOf q.1 x)
@[simp] theorem kFld3_ap (P : Prm) (x : Nat) (r : R) (s : FS) (q : Nat × List Nat × List D) : kFld3 P x r s q = fldO P x q r s (P.propOf q.1 x) := Eq.trans rfl rfl
def kFld2 (P : Prm) (x : Nat) (r : R) (s : FS) : D → Out R := fun d => need (clsOf d s.st) (kFld3 P x r s)
@[simp] theorem kFld2_ap (P : Prm) (x : Nat) (r : R) (s : FS) (d : D) : kFld2 P x r s d = need (clsOf d s.st) (kFld3 P x r s) := Eq.trans rfl rfl
def kFld1 (P : Prm) (x : Nat) : R → FS → Out R := fun r s => need (dv s r) (kFld2 P x r s)
@[simp] theorem kFld1_ap (P : Prm) (x : Nat) (r : R) (s : FS) : kFld1 P x r s = need (dv s r) (kFld2 P x r s) := Eq.trans rfl rfl
@[simp] theorem ev_fld (P : Prm) (env : Ev) (s : FS) (o : E) (x : Nat) : ev P (.fld o x) env s = (ev P o env s).bnd (kFld1 P x) := by
  show ((ev P o env s).bnd fun r s => need (dv s r) fun d => need (clsOf d s.st) fun q => match P.propOf q.1 x with
    | some f => need (Wv.fz s r) fun z => (P.call f [z.1] z.2.st).nox.out z.2.ol
    | none => if P.fldOk q.1 x = true then need ((q.2.1.zip q.2.2).lookup x) fun d => Out.ok (R.fz d) s else .bad) = _
  refine bnd_ext fun r s => need_ext fun d => need_ext fun q => ?_
  show _ = fldO P x q r s (P.propOf q.1 x)
  cases P.propOf q.1 x with
  | some f => rfl
  | none => exact cnd_ite _ _ _
def kIsi2 (P : Prm) (c : Ty) (s : FS) : D → Out R := fun d => need (P.isi s.st d c) (okB s)
@[simp] theorem kIsi2_ap (P : Prm) (c : Ty) (s : FS) (d : D) : kIsi2 P c s d = need (P.isi s.st d c) (okB s) := Eq.trans rfl rfl
def kIsi1 (P : Prm) (c : Ty) : R → FS → Out R := fun x s => need (dv s x) (kIsi2 P c s)
@[simp] theorem kIsi1_ap (P : Prm) (c : Ty) (x : R) (s : FS) : kIsi1 P c x s = need (dv s x) (kIsi2 P c s) := Eq.trans rfl rfl
@[simp] theorem ev_isi (P : Prm) (env : Ev) (s : FS) (a : E) (c : Ty) : ev P (.isi a c) env s = (ev P a env s).bnd (kIsi1 P c) := Eq.trans rfl rfl
def kLns2 (s : FS) : D → Out R := fun d => need (biD .lens [d]) (okRs s)
@[simp] theorem kLns2_ap (s : FS) (d : D) : kLns2 s d = need (biD .lens [d]) (okRs s) := Eq.trans rfl rfl
def kLns1  : R → FS → Out R := fun x s => need (dv s x) (kLns2 s)
@[simp] theorem kLns1_ap  (x : R) (s : FS) : kLns1  x s = need (dv s x) (kLns2 s) := Eq.trans rfl rfl
@[simp] theorem ev_lens (P : Prm) (env : Ev) (s : FS) (a : E) : ev P (.lens a) env s = (ev P a env s).bnd kLns1 := Eq.trans rfl rfl
def kBi3 (P : Prm) (b : Bi) (s : FS) : List D → Out R := fun ds => P.bi b ds s
@[simp] theorem kBi3_ap (P : Prm) (b : Bi) (s : FS) (ds : List D) : kBi3 P b s ds = P.bi b ds s := Eq.trans rfl rfl
def biO (P : Prm) (b : Bi) (rs : List R) (s : FS) : Option D → Out R
  | some d => (P.meth d mLen [] s).bnd lenO
  | none => need (dvs s rs) (kBi3 P b s)
@[simp] theorem biO_some (P : Prm) (b : Bi) (rs : List R) (s : FS) (d : D) : biO P b rs s (some d) = (P.meth d mLen [] s).bnd lenO := Eq.trans rfl rfl
@[simp] theorem biO_none (P : Prm) (b : Bi) (rs : List R) (s : FS) : biO P b rs s none = need (dvs s rs) (kBi3 P b s) := Eq.trans rfl rfl
def kBi1 (P : Prm) (b : Bi) : List R → FS → Out R := fun rs s => biO P b rs s (lenS b rs)
@[simp] theorem kBi1_ap (P : Prm) (b : Bi) (rs : List R) (s : FS) : kBi1 P b rs s = biO P b rs s (lenS b rs) := Eq.trans rfl rfl
@[simp] theorem ev_bi (P : Prm) (env : Ev) (s : FS) (b : Bi) (es : E) : ev P (.bi b es) env s = (evs P es env s).bnd (kBi1 P b) := by
  show ((evs P es env s).bnd fun rs s => match lenS b rs with
    | some d => (P.meth d mLen [] s).bnd lenO
    | none => need (dvs s rs) fun ds => P.bi b ds s) = _
  refine bnd_ext fun rs s => ?_
  show _ = biO P b rs s (lenS b rs)
  cases lenS b rs <;> rfl
def ktupr3 (s : FS) : List D → Out R := fun xs => .ok (.fz (.tup xs)) s
@[simp] theorem ktupr3_ap (s : FS) (xs : List D) : ktupr3 s xs = .ok (.fz (.tup xs)) s := Eq.trans rfl rfl
def ktupr2 (s : FS) : List D → Out R := fun ds => need (rngD ds) (ktupr3 s)
@[simp] theorem ktupr2_ap (s : FS) (ds : List D) : ktupr2 s ds = need (rngD ds) (ktupr3 s) := Eq.trans rfl rfl
def ktupr1  : List R → FS → Out R := fun rs s => need (dvs s rs) (ktupr2 s)
@[simp] theorem ktupr1_ap  (rs : List R) (s : FS) : ktupr1  rs s = need (dvs s rs) (ktupr2 s) := Eq.trans rfl rfl
@[simp] theorem ev_tupr (P : Prm) (env : Ev) (s : FS) (es : E) : ev P (.tupr es) env s = (evs P es env s).bnd ktupr1 := Eq.trans rfl rfl
def klstr3 (s : FS) : List D → Out R := fun xs => (Rs.l xs).out s
@[simp] theorem klstr3_ap (s : FS) (xs : List D) : klstr3 s xs = (Rs.l xs).out s := Eq.trans rfl rfl
def klstr2 (s : FS) : List D → Out R := fun ds => need (rngD ds) (klstr3 s)
@[simp] theorem klstr2_ap (s : FS) (ds : List D) : klstr2 s ds = need (rngD ds) (klstr3 s) := Eq.trans rfl rfl
def klstr1  : List R → FS → Out R := fun rs s => need (dvs s rs) (klstr2 s)
@[simp] theorem klstr1_ap  (rs : List R) (s : FS) : klstr1  rs s = need (dvs s rs) (klstr2 s) := Eq.trans rfl rfl
@[simp] theorem ev_lstr (P : Prm) (env : Ev) (s : FS) (es : E) : ev P (.lstr es) env s = (evs P es env s).bnd klstr1 := Eq.trans rfl rfl
/-- a turn of a comprehension -/
def tstO (P : Prm) (el : E) (acc : List D) (env1 : Ev) : Out Bool → Option (List D × List Cl)
  | .ok b s1 => cnd b (itemO acc (ev P el env1 s1)) (some (acc, s1.st))
  | _ => none
@[simp] theorem tstO_ok (P : Prm) (el : E) (acc : List D) (env1 : Ev) (b : Bool) (s1 : FS) : tstO P el acc env1 (.ok b s1) = cnd b (itemO acc (ev P el env1 s1)) (some (acc, s1.st)) := Eq.trans rfl rfl
def trnO (P : Prm) (tt el : E) (acc : List D) (st : List Cl) : Option Ev → Option (List D × List Cl)
  | some env1 => tstO P el acc env1 (evt P tt env1 ⟨[], st⟩)
  | none => none
@[simp] theorem trnO_some (P : Prm) (tt el : E) (acc : List D) (st : List Cl) (env1 : Ev) : trnO P tt el acc st (some env1) = tstO P el acc env1 (evt P tt env1 ⟨[], st⟩) := Eq.trans rfl rfl
def comT (P : Prm) (own : List Nat) (tg : Tg) (tt el : E) (env : Ev) (x : D) (acc : List D) (st : List Cl) : Option (List D × List Cl) := trnO P tt el acc st (asgT tg x (wipeE (hideE env) own))
@[simp] theorem comT_ap (P : Prm) (own : List Nat) (tg : Tg) (tt el : E) (env : Ev) (x : D) (acc : List D) (st : List Cl) : comT P own tg tt el env x acc st = trnO P tt el acc st (asgT tg x (wipeE (hideE env) own)) := Eq.trans rfl rfl
def comO (ol : List (Bool × Cl)) (r : Option (List D × List Cl)) : Out R := need r fun r => (Rs.l r.1).out ⟨ol, r.2⟩
@[simp] theorem comO_some (xs : List D) (st : List Cl) (ol : List (Bool × Cl)) : comO ol (some (xs, st)) = .ok (.own ol.length) ⟨ol ++ [(true, .lst xs)], st⟩ := Eq.trans rfl rfl
theorem comT_eq (P : Prm) (own : List Nat) (tg : Tg) (tt el : E) (env : Ev) : comT P own tg tt el env = fun x acc st => match asgT tg x (wipeE (hideE env) own) with
    | some env1 => (match evt P tt env1 ⟨[], st⟩ with
      | .ok true s1 => itemO acc (ev P el env1 s1)
      | .ok false s1 => some (acc, s1.st)
      | _ => none)
    | none => none := funext fun x => funext fun acc => funext fun st => by
  unfold comT
  cases asgT tg x (wipeE (hideE env) own) with
  | none => rfl
  | some env1 =>
    show tstO P el acc env1 (evt P tt env1 ⟨[], st⟩) = (match evt P tt env1 ⟨[], st⟩ with
      | .ok true s1 => itemO acc (ev P el env1 s1)
      | .ok false s1 => some (acc, s1.st)
      | _ => none)
    cases evt P tt env1 ⟨[], st⟩ with
    | ok b s1 => cases b <;> rfl
    | _ => rfl
def obnd {α β : Type} (o : Option α) (k : α → Option β) : Option β := match o with
  | some a => k a
  | none => none
@[simp] theorem obnd_some {α β : Type} (a : α) (k : α → Option β) : obnd (some a) k = k a := Eq.trans rfl rfl
theorem obnd_eq {α β : Type} (o : Option α) (k : α → Option β) : o.bind k = obnd o k := by cases o <;> rfl
def inrY (P : Prm) (own1 : List Nat) (tg1 : Tg) (tt el : E) (env1 : Ev) (acc : List D) (st : List Cl) (ys : List D) : Option (List D × List Cl) := turns (comT P own1 tg1 tt el env1) ys acc st
@[simp] theorem inrY_ap (P : Prm) (own1 : List Nat) (tg1 : Tg) (tt el : E) (env1 : Ev) (acc : List D) (st : List Cl) (ys : List D) : inrY P own1 tg1 tt el env1 acc st ys = turns (comT P own1 tg1 tt el env1) ys acc st := Eq.trans rfl rfl
def inrP (P : Prm) (own1 : List Nat) (tg1 : Tg) (it1 tt el : E) (env1 : Ev) (acc : List D) (p : List D × FS) : Option (List D × List Cl) := obnd (itD it1 p.1) (inrY P own1 tg1 tt el env1 acc p.2.st)
@[simp] theorem inrP_ap (P : Prm) (own1 : List Nat) (tg1 : Tg) (it1 tt el : E) (env1 : Ev) (acc : List D) (ds : List D) (s : FS) : inrP P own1 tg1 it1 tt el env1 acc (ds, s) = obnd (itD it1 ds) (inrY P own1 tg1 tt el env1 acc s.st) := Eq.trans rfl rfl
def inrO (P : Prm) (own1 : List Nat) (tg1 : Tg) (it1 tt el : E) (env1 : Ev) (acc : List D) : Out (List R) → Option (List D × List Cl)
  | .ok rs s1 => (Wv.fzs s1 rs).bind fun p => (itD it1 p.1).bind fun ys => turns (comT P own1 tg1 tt el env1) ys acc p.2.st
  | _ => none
@[simp] theorem inrO_ok (P : Prm) (own1 : List Nat) (tg1 : Tg) (it1 tt el : E) (env1 : Ev) (acc : List D) (rs : List R) (s1 : FS) : inrO P own1 tg1 it1 tt el env1 acc (.ok rs s1) = obnd (Wv.fzs s1 rs) (inrP P own1 tg1 it1 tt el env1 acc) := by
  show ((Wv.fzs s1 rs).bind fun p => (itD it1 p.1).bind fun ys => turns (comT P own1 tg1 tt el env1) ys acc p.2.st) = _
  rw [obnd_eq]
  cases Wv.fzs s1 rs with
  | none => rfl
  | some p =>
    show (itD it1 p.1).bind _ = _
    rw [obnd_eq]
    rfl
def co2O (P : Prm) (own1 : List Nat) (tg1 : Tg) (it1 tt el : E) (acc : List D) (st : List Cl) : Option Ev → Option (List D × List Cl)
  | some env1 => inrO P own1 tg1 it1 tt el env1 acc (evI P it1 env1 ⟨[], st⟩)
  | none => none
@[simp] theorem co2O_some (P : Prm) (own1 : List Nat) (tg1 : Tg) (it1 tt el : E) (acc : List D) (st : List Cl) (env1 : Ev) : co2O P own1 tg1 it1 tt el acc st (some env1) = inrO P own1 tg1 it1 tt el env1 acc (evI P it1 env1 ⟨[], st⟩) := Eq.trans rfl rfl
def co2T (P : Prm) (own : List Nat) (tg : Tg) (own1 : List Nat) (tg1 : Tg) (it1 tt el : E) (env : Ev) (x : D) (acc : List D) (st : List Cl) : Option (List D × List Cl) := co2O P own1 tg1 it1 tt el acc st (asgT tg x (wipeE (hideE env) own))
@[simp] theorem co2T_ap (P : Prm) (own : List Nat) (tg : Tg) (own1 : List Nat) (tg1 : Tg) (it1 tt el : E) (env : Ev) (x : D) (acc : List D) (st : List Cl) : co2T P own tg own1 tg1 it1 tt el env x acc st = co2O P own1 tg1 it1 tt el acc st (asgT tg x (wipeE (hideE env) own)) := Eq.trans rfl rfl
def kCom3 (b : D → List D → List Cl → Option (List D × List Cl)) (s : FS) : List D → Out R := fun xs => comO s.ol (turns b xs [] s.st)
@[simp] theorem kCom3_ap (b : D → List D → List Cl → Option (List D × List Cl)) (s : FS) (xs : List D) : kCom3 b s xs = comO s.ol (turns b xs [] s.st) := Eq.trans rfl rfl
def kCom2 (b : D → List D → List Cl → Option (List D × List Cl)) (it : E) (s : FS) : List D → Out R := fun ds => need (itD it ds) (kCom3 b s)
@[simp] theorem kCom2_ap (b : D → List D → List Cl → Option (List D × List Cl)) (it : E) (s : FS) (ds : List D) : kCom2 b it s ds = need (itD it ds) (kCom3 b s) := Eq.trans rfl rfl
def kCom1 (b : D → List D → List Cl → Option (List D × List Cl)) (it : E) : List R → FS → Out R := fun rs s => need (dvs s rs) (kCom2 b it s)
@[simp] theorem kCom1_ap (b : D → List D → List Cl → Option (List D × List Cl)) (it : E) (rs : List R) (s : FS) : kCom1 b it rs s = need (dvs s rs) (kCom2 b it s) := Eq.trans rfl rfl
@[simp] theorem ev_com (P : Prm) (env : Ev) (s : FS) (own : List Nat) (tg : Tg) (it tt el : E) : ev P (.com own tg it tt el) env s = (evI P it env s).bnd (kCom1 (comT P own tg tt el env) it) := by
  show ((evI P it env s).bnd fun rs s => need (dvs s rs) fun ds => need (itD it ds) fun xs =>
      need (turns (fun x acc st => match asgT tg x (wipeE (hideE env) own) with
        | some env1 => (match evt P tt env1 ⟨[], st⟩ with
          | .ok true s1 => itemO acc (ev P el env1 s1)
          | .ok false s1 => some (acc, s1.st)
          | _ => none)
        | none => none) xs [] s.st) fun r => (Rs.l r.1).out ⟨s.ol, r.2⟩) = _
  rw [comT_eq]
  rfl
@[simp] theorem ev_co2 (P : Prm) (env : Ev) (s : FS) (own : List Nat) (tg : Tg) (it : E) (own1 : List Nat) (tg1 : Tg) (it1 tt el : E) : ev P (.co2 own tg it own1 tg1 it1 tt el) env s = (evI P it env s).bnd (kCom1 (co2T P own tg own1 tg1 it1 tt el env) it) := by
  have e : co2T P own tg own1 tg1 it1 tt el env = fun x acc st => match asgT tg x (wipeE (hideE env) own) with
        | some env1 => (match evI P it1 env1 ⟨[], st⟩ with
          | .ok rs s1 => (Wv.fzs s1 rs).bind fun p => (itD it1 p.1).bind fun ys => turns (fun y acc st => match asgT tg1 y (wipeE (hideE env1) own1) with
            | some env2 => (match evt P tt env2 ⟨[], st⟩ with
              | .ok true s2 => itemO acc (ev P el env2 s2)
              | .ok false s2 => some (acc, s2.st)
              | _ => none)
            | none => none) ys acc p.2.st
          | _ => none)
        | none => none := by
    funext x acc st
    unfold co2T
    cases asgT tg x (wipeE (hideE env) own) with
    | none => rfl
    | some env1 =>
      show inrO P own1 tg1 it1 tt el env1 acc (evI P it1 env1 ⟨[], st⟩) = _
      unfold inrO
      rw [comT_eq]
  rw [e]
  rfl
@[simp] theorem evt_nil (P : Prm) (env : Ev) (s : FS) : evt P .nil env s = .ok true s := Eq.trans rfl rfl
@[simp] theorem evI_rng (P : Prm) (env : Ev) (s : FS) (es : E) : evI P (.rng es) env s = evs P es env s := Eq.trans rfl rfl
@[simp] theorem evI_zip (P : Prm) (env : Ev) (s : FS) (es : E) : evI P (.zip es) env s = evs P es env s := Eq.trans rfl rfl
@[simp] theorem evs_nil (P : Prm) (env : Ev) (s : FS) : evs P .nil env s = .ok [] s := Eq.trans rfl rfl
@[simp] theorem evP_nil (P : Prm) (env : Ev) (s : FS) : evP P .nil env s = .ok none s := Eq.trans rfl rfl
@[simp] theorem itD_rng (es : E) (ds : List D) : itD (.rng es) ds = rngD ds := Eq.trans rfl rfl
@[simp] theorem itD_zip (es : E) (ds : List D) : itD (.zip es) ds = zipD ds := Eq.trans rfl rfl
@[simp] theorem itD_enu (a : E) (d : D) : itD (.enu a) [d] = enuD d := Eq.trans rfl rfl
@[simp] theorem itD_one (a : E) (d : D) : itD (.cons a .nil) [d] = itvD d := Eq.trans rfl rfl
def prtO : R → FS → Out (Option Int)
  | .fz (.int i), s => .ok (some i) s
  | _, _ => .bad
@[simp] theorem prtO_int (i : Int) (s : FS) : prtO (.fz (.int i)) s = .ok (some i) s := Eq.trans rfl rfl
def kEvs2 (x : R) : List R → FS → Out (List R) := fun xs s => .ok (x :: xs) s
@[simp] theorem kEvs2_ap (x : R) (xs : List R) (s : FS) : kEvs2 x xs s = .ok (x :: xs) s := Eq.trans rfl rfl
def kEvs1 (P : Prm) (r : E) (env : Ev) : R → FS → Out (List R) := fun x s => (evs P r env s).bnd (kEvs2 x)
@[simp] theorem kEvs1_ap (P : Prm) (r : E) (env : Ev) (x : R) (s : FS) : kEvs1 P r env x s = (evs P r env s).bnd (kEvs2 x) := Eq.trans rfl rfl
@[simp] theorem evs_cons (P : Prm) (env : Ev) (s : FS) (a r : E) : evs P (.cons a r) env s = (ev P a env s).bnd (kEvs1 P r env) := Eq.trans rfl rfl
def kSta4 (ds : List D) : List R → FS → Out (List R) := fun xs s => .ok (ds.map R.fz ++ xs) s
@[simp] theorem kSta4_ap (ds : List D) (xs : List R) (s : FS) : kSta4 ds xs s = .ok (ds.map R.fz ++ xs) s := Eq.trans rfl rfl
def kSta3 (P : Prm) (r : E) (env : Ev) (s : FS) : List D → Out (List R) := fun ds => (evs P r env s).bnd (kSta4 ds)
@[simp] theorem kSta3_ap (P : Prm) (r : E) (env : Ev) (s : FS) (ds : List D) : kSta3 P r env s ds = (evs P r env s).bnd (kSta4 ds) := Eq.trans rfl rfl
def kSta2 (P : Prm) (r : E) (env : Ev) (s : FS) : D → Out (List R) := fun d => need (itvD d) (kSta3 P r env s)
@[simp] theorem kSta2_ap (P : Prm) (r : E) (env : Ev) (s : FS) (d : D) : kSta2 P r env s d = need (itvD d) (kSta3 P r env s) := Eq.trans rfl rfl
def kSta1 (P : Prm) (r : E) (env : Ev) : R → FS → Out (List R) := fun x s => need (dv s x) (kSta2 P r env s)
@[simp] theorem kSta1_ap (P : Prm) (r : E) (env : Ev) (x : R) (s : FS) : kSta1 P r env x s = need (dv s x) (kSta2 P r env s) := Eq.trans rfl rfl
@[simp] theorem evs_sta (P : Prm) (env : Ev) (s : FS) (a r : E) : evs P (.sta a r) env s = (ev P a env s).bnd (kSta1 P r env) := Eq.trans rfl rfl
def kTst2 (s : FS) : Bool → Out Bool := fun c => .ok c s
@[simp] theorem kTst2_ap (s : FS) (c : Bool) : kTst2 s c = .ok c s := Eq.trans rfl rfl
def kTst1  : R → FS → Out Bool := fun x s => need (bl? x) (kTst2 s)
@[simp] theorem kTst1_ap  (x : R) (s : FS) : kTst1  x s = need (bl? x) (kTst2 s) := Eq.trans rfl rfl
@[simp] theorem evt_one (P : Prm) (env : Ev) (s : FS) (a : E) : evt P (.cons a .nil) env s = (ev P a env s).bnd kTst1 := Eq.trans rfl rfl
@[simp] theorem evP_one (P : Prm) (env : Ev) (s : FS) (a : E) : evP P (.cons a .nil) env s = (ev P a env s).bnd prtO := by
  show ((ev P a env s).bnd fun x s => match x with
    | .fz (.int i) => Out.ok (some i) s
    | _ => .bad) = _
  refine bnd_ext fun x s => ?_
  cases x with
  | own k => rfl
  | fz d => cases d <;> rfl
def kOne  : R → FS → Out (List R) := fun r s => .ok [r] s
@[simp] theorem kOne_ap  (r : R) (s : FS) : kOne  r s = .ok [r] s := Eq.trans rfl rfl
@[simp] theorem evI_enu (P : Prm) (env : Ev) (s : FS) (a : E) : evI P (.enu a) env s = (ev P a env s).bnd kOne := Eq.trans rfl rfl
@[simp] theorem evI_one (P : Prm) (env : Ev) (s : FS) (a : E) : evI P (.cons a .nil) env s = (ev P a env s).bnd kOne := Eq.trans rfl rfl
@[simp] theorem ex_nil (P : Prm) (env : Ev) (s : FS)  : ex P .nil env s = .nx env s := Eq.trans rfl rfl
@[simp] theorem ex_cons (P : Prm) (env : Ev) (s : FS) (a r : S) : ex P (.cons a r) env s = (ex P a env s).seq (ex P r) := by
  show (match ex P a env s with
    | .nx env s => ex P r env s
    | o => o) = _
  cases ex P a env s <;> rfl
@[simp] theorem ex_pas (P : Prm) (env : Ev) (s : FS)  : ex P .pas env s = .nx env s := Eq.trans rfl rfl
def sAsg (i : Nat) (env : Ev) : R → FS → SO := fun r s => .nx (env.set i (some r)) s
@[simp] theorem sAsg_ap (i : Nat) (env : Ev) (r : R) (s : FS) : sAsg i env r s = .nx (env.set i (some r)) s := Eq.trans rfl rfl
@[simp] theorem ex_asg (P : Prm) (env : Ev) (s : FS) (i : Nat) (e : E) : ex P (.asg (.n i) e) env s = (ev P e env s).st env (sAsg i env) := Eq.trans rfl rfl
def sAst3 (s : FS) : Ev → SO := fun env => .nx env s
@[simp] theorem sAst3_ap (s : FS) (env : Ev) : sAst3 s env = .nx env s := Eq.trans rfl rfl
def sAst2 (is : List Nat) (env : Ev) : D × FS → SO := fun p => needS (asgT (.t is) p.1 env) (sAst3 p.2)
@[simp] theorem sAst2_ap (is : List Nat) (env : Ev) (p : D × FS) : sAst2 is env p = needS (asgT (.t is) p.1 env) (sAst3 p.2) := Eq.trans rfl rfl
def sAst1 (is : List Nat) (env : Ev) : R → FS → SO := fun r s => needS (Wv.fz s r) (sAst2 is env)
@[simp] theorem sAst1_ap (is : List Nat) (env : Ev) (r : R) (s : FS) : sAst1 is env r s = needS (Wv.fz s r) (sAst2 is env) := Eq.trans rfl rfl
@[simp] theorem ex_asgT (P : Prm) (env : Ev) (s : FS) (is : List Nat) (e : E) : ex P (.asg (.t is) e) env s = (ev P e env s).st env (sAst1 is env) := Eq.trans rfl rfl
@[simp] theorem ex_alc (P : Prm) (env : Ev) (s : FS) (i : Nat) (own : List Nat) (tg : Tg) (it tt el : E) : ex P (.alc i own tg it tt el) env s = (ev P (.com own tg it tt el) env s).st env (sAsg i env) := Eq.trans rfl rfl
@[simp] theorem ex_alc2 (P : Prm) (env : Ev) (s : FS) (i : Nat) (own : List Nat) (tg : Tg) (it : E) (own1 : List Nat) (tg1 : Tg) (it1 tt el : E) : ex P (.alc2 i own tg it own1 tg1 it1 tt el) env s = (ev P (.co2 own tg it own1 tg1 it1 tt el) env s).st env (sAsg i env) := Eq.trans rfl rfl
theorem st_ext {α : Type} {o : Out α} {env : Ev} {k k' : α → FS → SO} (h : ∀ a s, k a s = k' a s) : o.st env k = o.st env k' := by rw [show k = k' from funext fun a => funext fun s => h a s]
theorem needS_ext {α : Type} {o : Option α} {k k' : α → SO} (h : ∀ a, k a = k' a) : needS o k = needS o k' := by rw [show k = k' from funext h]
def sPar (is : List Nat) (env : Ev) : List R → FS → SO := fun rs s => cnd (decide (is.length = rs.length)) (.nx ((is.zip rs).foldl (fun e p => e.set p.1 (some p.2)) env) s) .bad
@[simp] theorem sPar_ap (is : List Nat) (env : Ev) (rs : List R) (s : FS) : sPar is env rs s = cnd (decide (is.length = rs.length)) (.nx ((is.zip rs).foldl (fun e p => e.set p.1 (some p.2)) env) s) .bad := Eq.trans rfl rfl
@[simp] theorem ex_par (P : Prm) (env : Ev) (s : FS) (is : List Nat) (es : E) : ex P (.par is es) env s = (evs P es env s).st env (sPar is env) := by
  show ((evs P es env s).st env fun rs s => if is.length = rs.length then SO.nx ((is.zip rs).foldl (fun e p => e.set p.1 (some p.2)) env) s else .bad) = _
  exact st_ext fun rs s => cnd_iteD _ _ _
def sNx (env : Ev) : FS → SO := fun s => .nx env s
@[simp] theorem sNx_ap (env : Ev) (s : FS) : sNx env s = .nx env s := Eq.trans rfl rfl
def sfpE (P : Prm) (xs : List Nat) (env : Ev) (s : FS) (ds : List D) : Option (Option R) → SO
  | some (some q) => needS (putAll P q (xs.zip ds) s) (sNx env)
  | _ => .bad
@[simp] theorem sfpE_some (P : Prm) (xs : List Nat) (env : Ev) (s : FS) (ds : List D) (q : R) : sfpE P xs env s ds (some (some q)) = needS (putAll P q (xs.zip ds) s) (sNx env) := Eq.trans rfl rfl
def sfpO (P : Prm) (xs : List Nat) (env : Ev) (s : FS) : D → SO
  | .tup ds => cnd (decide (xs.length = ds.length)) (sfpE P xs env s ds env[0]?) .bad
  | _ => .bad
@[simp] theorem sfpO_tup (P : Prm) (xs : List Nat) (env : Ev) (s : FS) (ds : List D) : sfpO P xs env s (.tup ds) = cnd (decide (xs.length = ds.length)) (sfpE P xs env s ds env[0]?) .bad := Eq.trans rfl rfl
def sSfp2 (P : Prm) (xs : List Nat) (env : Ev) : D × FS → SO := fun p => sfpO P xs env p.2 p.1
@[simp] theorem sSfp2_ap (P : Prm) (xs : List Nat) (env : Ev) (p : D × FS) : sSfp2 P xs env p = sfpO P xs env p.2 p.1 := Eq.trans rfl rfl
def sSfp1 (P : Prm) (xs : List Nat) (env : Ev) : R → FS → SO := fun r s => needS (Wv.fz s r) (sSfp2 P xs env)
@[simp] theorem sSfp1_ap (P : Prm) (xs : List Nat) (env : Ev) (r : R) (s : FS) : sSfp1 P xs env r s = needS (Wv.fz s r) (sSfp2 P xs env) := Eq.trans rfl rfl
@[simp] theorem ex_sfp (P : Prm) (env : Ev) (s : FS) (xs : List Nat) (e : E) : ex P (.sfp xs e) env s = (ev P e env s).st env (sSfp1 P xs env) := by
  show ((ev P e env s).st env fun r s => needS (Wv.fz s r) fun p => match p.1 with
    | .tup ds => if xs.length = ds.length then (match env[0]? with
      | some (some q) => needS (putAll P q (xs.zip ds) p.2) fun s => .nx env s
      | _ => .bad) else .bad
    | _ => .bad) = _
  refine st_ext fun r s => needS_ext fun p => ?_
  show _ = sfpO P xs env p.2 p.1
  cases p.1 with
  | tup ds =>
    refine (cnd_iteD _ _ _).trans ?_
    rfl
  | _ => rfl
def sExp (env : Ev) : R → FS → SO := fun r s => .nx env s
@[simp] theorem sExp_ap (env : Ev) (r : R) (s : FS) : sExp env r s = .nx env s := Eq.trans rfl rfl
@[simp] theorem ex_exp (P : Prm) (env : Ev) (s : FS) (e : E) : ex P (.exp e) env s = (ev P e env s).st env (sExp env) := Eq.trans rfl rfl
def sApp2 (q : R) (env : Ev) : D × FS → SO := fun p => needS (putLst p.2 q [p.1]) (sNx env)
@[simp] theorem sApp2_ap (q : R) (env : Ev) (p : D × FS) : sApp2 q env p = needS (putLst p.2 q [p.1]) (sNx env) := Eq.trans rfl rfl
def sApp1 (q : R) (env : Ev) : R → FS → SO := fun r s => needS (Wv.fz s r) (sApp2 q env)
@[simp] theorem sApp1_ap (q : R) (env : Ev) (r : R) (s : FS) : sApp1 q env r s = needS (Wv.fz s r) (sApp2 q env) := Eq.trans rfl rfl
def appO (P : Prm) (e : E) (env : Ev) (s : FS) : Option (Option R) → SO
  | some (some q) => cnd (isLst s q) ((ev P e env s).st env (sApp1 q env)) .bad
  | _ => .bad
@[simp] theorem appO_some (P : Prm) (e : E) (env : Ev) (s : FS) (q : R) : appO P e env s (some (some q)) = cnd (isLst s q) ((ev P e env s).st env (sApp1 q env)) .bad := Eq.trans rfl rfl
@[simp] theorem ex_app (P : Prm) (env : Ev) (s : FS) (x : Nat) (e : E) : ex P (.app x e) env s = appO P e env s env[x]? := by
  show (match env[x]? with
    | some (some q) => if isLst s q = true then (ev P e env s).st env fun r s => needS (Wv.fz s r) fun p => needS (putLst p.2 q [p.1]) fun s => .nx env s else .bad
    | _ => .bad) = _
  unfold appO
  split
  · exact cnd_ite _ _ _
  · rfl
def extO (env : Ev) (q : R) (s : FS) : D → SO
  | .lst ys => needS (putLst s q ys) (sNx env)
  | .tup ys => needS (putLst s q ys) (sNx env)
  | _ => .bad
@[simp] theorem extO_tup (env : Ev) (q : R) (s : FS) (ys : List D) : extO env q s (.tup ys) = needS (putLst s q ys) (sNx env) := Eq.trans rfl rfl
@[simp] theorem extO_lst (env : Ev) (q : R) (s : FS) (ys : List D) : extO env q s (.lst ys) = needS (putLst s q ys) (sNx env) := Eq.trans rfl rfl
def sExt2 (q : R) (env : Ev) : D × FS → SO := fun p => extO env q p.2 p.1
@[simp] theorem sExt2_ap (q : R) (env : Ev) (p : D × FS) : sExt2 q env p = extO env q p.2 p.1 := Eq.trans rfl rfl
def sExt1 (q : R) (env : Ev) : R → FS → SO := fun r s => needS (Wv.fz s r) (sExt2 q env)
@[simp] theorem sExt1_ap (q : R) (env : Ev) (r : R) (s : FS) : sExt1 q env r s = needS (Wv.fz s r) (sExt2 q env) := Eq.trans rfl rfl
def extP (P : Prm) (e : E) (env : Ev) (s : FS) : Option (Option R) → SO
  | some (some q) => cnd (isLst s q) ((ev P e env s).st env (sExt1 q env)) .bad
  | _ => .bad
@[simp] theorem extP_some (P : Prm) (e : E) (env : Ev) (s : FS) (q : R) : extP P e env s (some (some q)) = cnd (isLst s q) ((ev P e env s).st env (sExt1 q env)) .bad := Eq.trans rfl rfl
@[simp] theorem ex_ext (P : Prm) (env : Ev) (s : FS) (x : Nat) (e : E) : ex P (.ext x e) env s = extP P e env s env[x]? := by
  show (match env[x]? with
    | some (some q) => if isLst s q = true then (ev P e env s).st env fun r s => needS (Wv.fz s r) fun p => (match p.1 with
      | .lst ys => needS (putLst p.2 q ys) fun s => .nx env s
      | .tup ys => needS (putLst p.2 q ys) fun s => .nx env s
      | _ => .bad) else .bad
    | _ => .bad) = _
  unfold extP
  split
  · exact cnd_ite _ _ _
  · rfl
def sSit4 (d : D) (env : Ev) (q : R) : R → FS → SO := fun j s => needS (putAt s q j d) (sNx env)
@[simp] theorem sSit4_ap (d : D) (env : Ev) (q : R) (j : R) (s : FS) : sSit4 d env q j s = needS (putAt s q j d) (sNx env) := Eq.trans rfl rfl
def sSit3 (P : Prm) (i : E) (d : D) (env : Ev) : R → FS → SO := fun q s => (ev P i env s).st env (sSit4 d env q)
@[simp] theorem sSit3_ap (P : Prm) (i : E) (d : D) (env : Ev) (q : R) (s : FS) : sSit3 P i d env q s = (ev P i env s).st env (sSit4 d env q) := Eq.trans rfl rfl
def sSit2 (P : Prm) (o : E) (i : E) (env : Ev) : D × FS → SO := fun p => (ev P o env p.2).st env (sSit3 P i p.1 env)
@[simp] theorem sSit2_ap (P : Prm) (o : E) (i : E) (env : Ev) (p : D × FS) : sSit2 P o i env p = (ev P o env p.2).st env (sSit3 P i p.1 env) := Eq.trans rfl rfl
def sSit1 (P : Prm) (o : E) (i : E) (env : Ev) : R → FS → SO := fun r s => needS (Wv.fz s r) (sSit2 P o i env)
@[simp] theorem sSit1_ap (P : Prm) (o : E) (i : E) (env : Ev) (r : R) (s : FS) : sSit1 P o i env r s = needS (Wv.fz s r) (sSit2 P o i env) := Eq.trans rfl rfl
@[simp] theorem ex_sit (P : Prm) (env : Ev) (s : FS) (o i e : E) : ex P (.sit o i e) env s = (ev P e env s).st env (sSit1 P o i env) := Eq.trans rfl rfl
def sSfl3 (P : Prm) (x : Nat) (env : Ev) (q : R) : D × FS → SO := fun p => needS (putFld P p.2 q x p.1) (sNx env)
@[simp] theorem sSfl3_ap (P : Prm) (x : Nat) (env : Ev) (q : R) (p : D × FS) : sSfl3 P x env q p = needS (putFld P p.2 q x p.1) (sNx env) := Eq.trans rfl rfl
def sSfl2 (P : Prm) (x : Nat) (env : Ev) (r : R) : R → FS → SO := fun q s => needS (Wv.fz s r) (sSfl3 P x env q)
@[simp] theorem sSfl2_ap (P : Prm) (x : Nat) (env : Ev) (r : R) (q : R) (s : FS) : sSfl2 P x env r q s = needS (Wv.fz s r) (sSfl3 P x env q) := Eq.trans rfl rfl
def sSfl1 (P : Prm) (o : E) (x : Nat) (env : Ev) : R → FS → SO := fun r s => (ev P o env s).st env (sSfl2 P x env r)
@[simp] theorem sSfl1_ap (P : Prm) (o : E) (x : Nat) (env : Ev) (r : R) (s : FS) : sSfl1 P o x env r s = (ev P o env s).st env (sSfl2 P x env r) := Eq.trans rfl rfl
@[simp] theorem ex_sfl (P : Prm) (env : Ev) (s : FS) (o : E) (x : Nat) (e : E) : ex P (.sfl o x e) env s = (ev P e env s).st env (sSfl1 P o x env) := Eq.trans rfl rfl
def sRet (env : Ev) : R → FS → SO := fun r s => .rt r env s
@[simp] theorem sRet_ap (env : Ev) (r : R) (s : FS) : sRet env r s = .rt r env s := Eq.trans rfl rfl
@[simp] theorem ex_ret (P : Prm) (env : Ev) (s : FS) (e : E) : ex P (.ret e) env s = (ev P e env s).st env (sRet env) := Eq.trans rfl rfl
@[simp] theorem ex_rtn (P : Prm) (env : Ev) (s : FS)  : ex P .rtn env s = .rt (.fz .non) env s := Eq.trans rfl rfl
def sIfe2 (P : Prm) (a : S) (b : S) (env : Ev) (s : FS) : Bool → SO := fun k => cnd k (ex P a env s) (ex P b env s)
@[simp] theorem sIfe2_ap (P : Prm) (a : S) (b : S) (env : Ev) (s : FS) (k : Bool) : sIfe2 P a b env s k = cnd k (ex P a env s) (ex P b env s) := Eq.trans rfl rfl
def sIfe1 (P : Prm) (a : S) (b : S) (env : Ev) : R → FS → SO := fun r s => needS (bl? r) (sIfe2 P a b env s)
@[simp] theorem sIfe1_ap (P : Prm) (a : S) (b : S) (env : Ev) (r : R) (s : FS) : sIfe1 P a b env r s = needS (bl? r) (sIfe2 P a b env s) := Eq.trans rfl rfl
@[simp] theorem ex_ife (P : Prm) (env : Ev) (s : FS) (c : E) (a b : S) : ex P (.ife c a b) env s = (ev P c env s).st env (sIfe1 P a b env) := by
  show ((ev P c env s).st env fun r s => needS (bl? r) fun k => if k = true then ex P a env s else ex P b env s) = _
  exact st_ext fun r s => needS_ext fun k => cnd_ite _ _ _
def forU (P : Prm) (b : S) (s : FS) : Option Ev → SO
  | some env => ex P b env s
  | none => .bad
@[simp] theorem forU_some (P : Prm) (b : S) (s : FS) (env : Ev) : forU P b s (some env) = ex P b env s := Eq.trans rfl rfl
def forT (P : Prm) (t : Tg) (b : S) (x : D) (env : Ev) (s : FS) : SO := forU P b s (asgT t x env)
@[simp] theorem forT_ap (P : Prm) (t : Tg) (b : S) (x : D) (env : Ev) (s : FS) : forT P t b x env s = forU P b s (asgT t x env) := Eq.trans rfl rfl
theorem forT_eq (P : Prm) (t : Tg) (b : S) : forT P t b = fun x env s => needS (asgT t x env) fun env => ex P b env s := funext fun x => funext fun env => funext fun s => by
  unfold forT
  cases asgT t x env <;> rfl
def sFor3 (b : D → Ev → FS → SO) (env : Ev) (s : FS) : List D → SO := fun xs => loopS b xs env s
@[simp] theorem sFor3_ap (b : D → Ev → FS → SO) (env : Ev) (s : FS) (xs : List D) : sFor3 b env s xs = loopS b xs env s := Eq.trans rfl rfl
def sFor2 (b : D → Ev → FS → SO) (it : E) (env : Ev) : List D × FS → SO := fun p => needS (itD it p.1) (sFor3 b env p.2)
@[simp] theorem sFor2_ap (b : D → Ev → FS → SO) (it : E) (env : Ev) (p : List D × FS) : sFor2 b it env p = needS (itD it p.1) (sFor3 b env p.2) := Eq.trans rfl rfl
def sFor1 (b : D → Ev → FS → SO) (it : E) (env : Ev) : List R → FS → SO := fun rs s => needS (Wv.fzs s rs) (sFor2 b it env)
@[simp] theorem sFor1_ap (b : D → Ev → FS → SO) (it : E) (env : Ev) (rs : List R) (s : FS) : sFor1 b it env rs s = needS (Wv.fzs s rs) (sFor2 b it env) := Eq.trans rfl rfl
@[simp] theorem ex_for (P : Prm) (env : Ev) (s : FS) (t : Tg) (it : E) (b : S) : ex P (.for t it b) env s = (evI P it env s).st env (sFor1 (forT P t b) it env) := by
  rw [forT_eq]
  rfl
end Wv
namespace Wv
open PySem L2
/-- a list handed back -/
def endL (o : Option (Bool × Cl)) (st : List Cl) : Oc := match o with
  | some (true, c) => .ok (.ow c) st
  | some (false, c) => .ok (.fz c.d) st
  | none => .bad
@[simp] theorem endL_open (c : Cl) (st : List Cl) : endL (some (true, c)) st = .ok (.ow c) st := Eq.trans rfl rfl
@[simp] theorem endL_shut (c : Cl) (st : List Cl) : endL (some (false, c)) st = .ok (.fz c.d) st := Eq.trans rfl rfl
section
variable {α β : Type} {P : Prm} {env : Ev} {s : FS}
@[simp] theorem bnd_ok (a : α) (s : FS) (k : α → FS → Out β) : (Out.ok a s).bnd k = k a s := Eq.trans rfl rfl
@[simp] theorem bnd_exc (x : Xc) (s : FS) (k : α → FS → Out β) : (Out.exc x s : Out α).bnd k = .exc x s := Eq.trans rfl rfl
@[simp] theorem need_some (a : α) (k : α → Out β) : need (some a) k = k a := Eq.trans rfl rfl
@[simp] theorem needS_someE (a : α) (k : α → SO) : needS (some a) k = k a := Eq.trans rfl rfl
@[simp] theorem st_ok (a : α) (s : FS) (env : Ev) (k : α → FS → SO) : (Out.ok a s).st env k = k a s := Eq.trans rfl rfl
@[simp] theorem st_exc (x : Xc) (s : FS) (env : Ev) (k : α → FS → SO) : (Out.exc x s : Out α).st env k = .exc x env s := Eq.trans rfl rfl
@[simp] theorem fz_fz (s : FS) (d : D) : Wv.fz s (.fz d) = some (d, s) := Eq.trans rfl rfl
@[simp] theorem dv_fz' (s : FS) (d : D) : dv s (.fz d) = some d := Eq.trans rfl rfl
@[simp] theorem fzs_nil (s : FS) : fzs s [] = some ([], s) := Eq.trans rfl rfl
@[simp] theorem dvs_nil (s : FS) : dvs s [] = some [] := Eq.trans rfl rfl
@[simp] theorem fzs_fz (s : FS) (d : D) (rs : List R) : fzs s (.fz d :: rs) = (fzs s rs).map fun p => (d :: p.1, p.2) := Eq.trans rfl rfl
@[simp] theorem dvs_fz (s : FS) (d : D) (rs : List R) : dvs s (.fz d :: rs) = (dvs s rs).map (d :: ·) := Eq.trans rfl rfl
@[simp] theorem bl?_bl (b : Bool) : bl? (.fz (.bl b)) = some b := Eq.trans rfl rfl
@[simp] theorem ocOut_fz (d : D) (st : List Cl) (ol : List (Bool × Cl)) : (Oc.ok (.fz d) st).out ol = .ok (.fz d) ⟨ol, st⟩ := Eq.trans rfl rfl
@[simp] theorem ocOut_ow (c : Cl) (st : List Cl) (ol : List (Bool × Cl)) : (Oc.ok (.ow c) st).out ol = .ok (.own ol.length) ⟨ol ++ [(true, c)], st⟩ := Eq.trans rfl rfl
@[simp] theorem rsOut_t (d : D) (s : FS) : (Rs.t d).out s = .ok (.fz d) s := Eq.trans rfl rfl
@[simp] theorem rsOut_l (xs : List D) (s : FS) : (Rs.l xs).out s = .ok (.own s.ol.length) ⟨s.ol ++ [(true, .lst xs)], s.st⟩ := Eq.trans rfl rfl
@[simp] theorem endOf_nx (env : Ev) (s : FS) : endOf (.nx env s) = .ok (.fz .non) s.st := Eq.trans rfl rfl
@[simp] theorem endOf_own (k : Nat) (env : Ev) (s : FS) : endOf (.rt (.own k) env s) = endL s.ol[k]? s.st := by
  show (match s.ol[k]? with
    | some (true, c) => Oc.ok (.ow c) s.st
    | some (false, c) => .ok (.fz c.d) s.st
    | none => .bad) = _
  unfold endL
  cases s.ol[k]? with
  | none => rfl
  | some q =>
    obtain ⟨b, c⟩ := q
    cases b <;> rfl
@[simp] theorem endOf_fz (d : D) (env : Ev) (s : FS) : endOf (.rt (.fz d) env s) = .ok (.fz d) s.st := Eq.trans rfl rfl
@[simp] theorem prm_gE (p : Pg) (g : Bool) (n : Nat) : (prm p g n).g = g := by cases n <;> rfl
@[simp] theorem prm_csE (p : Pg) (g : Bool) (n : Nat) : (prm p g n).cs = p.cls := by cases n <;> rfl
end
@[simp] theorem isObj_non : Wv.isObj .non = false := Eq.trans rfl rfl
@[simp] theorem isObj_int (i : Int) : Wv.isObj (.int i) = false := Eq.trans rfl rfl
@[simp] theorem isObj_bl (i : Bool) : Wv.isObj (.bl i) = false := Eq.trans rfl rfl
@[simp] theorem isObj_str (i : Str) : Wv.isObj (.str i) = false := Eq.trans rfl rfl
@[simp] theorem isObj_tup (i : List D) : Wv.isObj (.tup i) = false := Eq.trans rfl rfl
@[simp] theorem isObj_scr (i : List Int) : Wv.isObj (.scr i) = false := Eq.trans rfl rfl
@[simp] theorem isObj_lst (i : List D) : Wv.isObj (.lst i) = false := Eq.trans rfl rfl
@[simp] theorem isObj_ins (c : Nat) (fs : List Nat) (vs : List D) : Wv.isObj (.ins c fs vs) = true := Eq.trans rfl rfl
@[simp] theorem isObj_cel (c : Nat) : Wv.isObj (.cel c) = true := Eq.trans rfl rfl
@[simp] theorem kc_non : Kc.d .non = .non := Eq.trans rfl rfl
@[simp] theorem kc_int (i : Int) : Kc.d (.int i) = .int i := Eq.trans rfl rfl
@[simp] theorem kc_bl (i : Bool) : Kc.d (.bl i) = .bl i := Eq.trans rfl rfl
@[simp] theorem kc_str (i : Str) : Kc.d (.str i) = .str i := Eq.trans rfl rfl
@[simp] theorem binD_addI (a b : Int) : binD .add (.int a) (.int b) = some (.t (.int (a + b))) := Eq.trans rfl rfl
@[simp] theorem binD_subI (a b : Int) : binD .sub (.int a) (.int b) = some (.t (.int (a - b))) := Eq.trans rfl rfl
@[simp] theorem binD_mulI (a b : Int) : binD .mul (.int a) (.int b) = if mulOk a b = true then some (.t (.int (a * b))) else none := Eq.trans rfl rfl
@[simp] theorem binD_modI (a b : Int) : binD .mod (.int a) (.int b) = if 0 < b then some (.t (.int (a % b))) else none := Eq.trans rfl rfl
@[simp] theorem binD_divI (a b : Int) : binD .fdiv (.int a) (.int b) = if 0 < b ∧ b < 1073741824 then some (.t (.int (a / b))) else none := Eq.trans rfl rfl
@[simp] theorem binD_addT (a b : List D) : binD .add (.tup a) (.tup b) = if a.length + b.length ≤ sizeLine then some (.t (.tup (a ++ b))) else none := Eq.trans rfl rfl
@[simp] theorem binD_addL (a b : List D) : binD .add (.lst a) (.lst b) = if a.length + b.length ≤ sizeLine then some (.l (a ++ b)) else none := Eq.trans rfl rfl
@[simp] theorem binD_addS (a b : Str) : binD .add (.str a) (.str b) = if a.length + b.length ≤ sizeLine then some (.t (.str (a ++ b))) else none := Eq.trans rfl rfl
@[simp] theorem binD_powI (a b : Int) : binD .pow (.int a) (.int b) = if powOk a b = true then some (.t (.int (a ^ b.toNat))) else none := Eq.trans rfl rfl
/-- xs[i] = d in a cell -/
def putC (s : FS) (n : Nat) (i : Int) (d : D) : Option Cl → Option FS
  | some (.lst xs) => (ixN xs.length i).map fun j => ⟨s.ol, s.st.set n (.lst (xs.set j d))⟩
  | _ => none
@[simp] theorem putC_lst (s : FS) (n : Nat) (i : Int) (d : D) (xs : List D) : putC s n i d (some (.lst xs)) = (ixN xs.length i).map fun j => ⟨s.ol, s.st.set n (.lst (xs.set j d))⟩ := Eq.trans rfl rfl
@[simp] theorem putAt_cel (s : FS) (n : Nat) (i : Int) (d : D) : putAt s (.fz (.cel n)) (.fz (.int i)) d = putC s n i d s.st[n]? := by
  show (match s.st[n]? with
    | some (.lst xs) => (ixN xs.length i).map fun j => (⟨s.ol, s.st.set n (.lst (xs.set j d))⟩ : FS)
    | _ => none) = _
  cases s.st[n]? with
  | none => rfl
  | some c => cases c <;> rfl
theorem mulOk_l {i j : Int} (h : -18446744073709551616 < i) (h2 : i < 18446744073709551616) : mulOk i j = true := by
  unfold mulOk
  rw [Bool.or_eq_true]
  exact .inl (decide_eq_true ⟨h, h2⟩)
theorem mulOk_r {i j : Int} (h : -18446744073709551616 < j) (h2 : j < 18446744073709551616) : mulOk i j = true := by
  unfold mulOk
  rw [Bool.or_eq_true]
  exact .inr (decide_eq_true ⟨h, h2⟩)
/-- found.append(d) -/
def putO (s : FS) (k : Nat) (ds : List D) : Option (Bool × Cl) → Option FS
  | some (true, .lst xs) => if xs.length + ds.length ≤ sizeLine then some ⟨s.ol.set k (true, .lst (xs ++ ds)), s.st⟩ else none
  | _ => none
@[simp] theorem putO_lst (s : FS) (k : Nat) (ds xs : List D) : putO s k ds (some (true, .lst xs)) = if xs.length + ds.length ≤ sizeLine then some ⟨s.ol.set k (true, .lst (xs ++ ds)), s.st⟩ else none := Eq.trans rfl rfl
@[simp] theorem putLst_own (s : FS) (k : Nat) (ds : List D) : putLst s (.own k) ds = putO s k ds s.ol[k]? := by
  show (match s.ol[k]? with
    | some (true, .lst xs) => if xs.length + ds.length ≤ sizeLine then some (⟨s.ol.set k (true, .lst (xs ++ ds)), s.st⟩ : FS) else none
    | _ => none) = _
  cases s.ol[k]? with
  | none => rfl
  | some c =>
    obtain ⟨b, c⟩ := c
    cases b <;> cases c <;> rfl
/-- xs.pop(j) -/
def popC (k : Nat) (j : Int) (s : FS) : Option (Bool × Cl) → Out R
  | some (true, .lst xs) => need (if xs.length ≤ 1000000 then ixN xs.length j else none) fun m => need xs[m]? fun d => .ok (.fz d) ⟨s.ol.set k (true, .lst (xs.eraseIdx m)), s.st⟩
  | _ => .bad
@[simp] theorem popD_int (k : Nat) (j : Int) (s : FS) : popD k (.fz (.int j)) s = popC k j s s.ol[k]? := by
  unfold popD popC
  cases s.ol[k]? with
  | none => rfl
  | some c =>
    obtain ⟨b, c⟩ := c
    cases b <;> cases c <;> rfl
theorem popC_at {xs : List D} {i : Nat} {d : D} (k : Nat) (s : FS) (h : xs[i]? = some d) (hl : xs.length ≤ 1000000) : popC k (i : Int) s (some (true, .lst xs)) = .ok (.fz d) ⟨s.ol.set k (true, .lst (xs.eraseIdx i)), s.st⟩ := by
  have hi := (List.getElem?_eq_some_iff.mp h).1
  show need (if xs.length ≤ 1000000 then ixN xs.length (i : Int) else none) _ = _
  rw [if_pos hl]
  have e : ixN xs.length (i : Int) = some i := by
    unfold ixN
    rw [if_pos (by omega), if_pos (by omega)]
    simp
  rw [e]
  show need xs[i]? _ = _
  rw [h]
  rfl
theorem erase_map {α β : Type} (f : α → β) : ∀ (l : List α) (i : Nat), (l.map f).eraseIdx i = (l.eraseIdx i).map f
  | [], _ => rfl
  | _ :: _, 0 => rfl
  | a :: l, i + 1 => congrArg (f a :: ·) (erase_map f l i)
@[simp] theorem cmpD_eq (a b : D) : cmpD .eq a b = eqD a b := Eq.trans rfl rfl
@[simp] theorem cmpD_ne (a b : D) : cmpD .ne a b = (eqD a b).map (!·) := Eq.trans rfl rfl
@[simp] theorem cmpD_lt (a b : Int) : cmpD .lt (.int a) (.int b) = some (decide (a < b)) := Eq.trans rfl rfl
@[simp] theorem cmpD_le (a b : Int) : cmpD .le (.int a) (.int b) = some (decide (a ≤ b)) := Eq.trans rfl rfl
@[simp] theorem cmpD_gt (a b : Int) : cmpD .gt (.int a) (.int b) = some (decide (b < a)) := Eq.trans rfl rfl
@[simp] theorem cmpD_ge (a b : Int) : cmpD .ge (.int a) (.int b) = some (decide (b ≤ a)) := Eq.trans rfl rfl
@[simp] theorem cmpD_inT (a : D) (ys : List D) : cmpD .isin a (.tup ys) = inD a ys := Eq.trans rfl rfl
@[simp] theorem cmpD_inL (a : D) (ys : List D) : cmpD .isin a (.lst ys) = inD a ys := Eq.trans rfl rfl
@[simp] theorem cmpD_niT (a : D) (ys : List D) : cmpD .notin a (.tup ys) = (inD a ys).map (!·) := Eq.trans rfl rfl
@[simp] theorem cmpD_niL (a : D) (ys : List D) : cmpD .notin a (.lst ys) = (inD a ys).map (!·) := Eq.trans rfl rfl
@[simp] theorem cmpD_isN (a : D) : cmpD .isN a .non = some (isNonD a) := by cases a <;> rfl
@[simp] theorem cmpD_notN (a : D) : cmpD .notN a .non = some (!isNonD a) := by cases a <;> rfl
@[simp] theorem isNonD_non : isNonD .non = true := Eq.trans rfl rfl
@[simp] theorem isNonD_int (i : Int) : isNonD (.int i) = false := Eq.trans rfl rfl
@[simp] theorem isNonD_tup (i : List D) : isNonD (.tup i) = false := Eq.trans rfl rfl
@[simp] theorem isNonD_ins (c : Nat) (fs : List Nat) (vs : List D) : isNonD (.ins c fs vs) = false := Eq.trans rfl rfl
@[simp] theorem biD_lenT (xs : List D) : biD .len [.tup xs] = some (.t (.int xs.length)) := Eq.trans rfl rfl
@[simp] theorem biD_lenL (xs : List D) : biD .len [.lst xs] = some (.t (.int xs.length)) := Eq.trans rfl rfl
@[simp] theorem biD_lenS (xs : List Int) : biD .len [.scr xs] = some (.t (.int xs.length)) := Eq.trans rfl rfl
@[simp] theorem biD_tupT (xs : List D) : biD .tup [.tup xs] = some (.t (.tup xs)) := Eq.trans rfl rfl
@[simp] theorem biD_tupL (xs : List D) : biD .tup [.lst xs] = some (.t (.tup xs)) := Eq.trans rfl rfl
@[simp] theorem biD_lstT (xs : List D) : biD .lst [.tup xs] = some (.l xs) := Eq.trans rfl rfl
@[simp] theorem biD_lstL (xs : List D) : biD .lst [.lst xs] = some (.l xs) := Eq.trans rfl rfl
@[simp] theorem biD_all (xs : List D) : biD .all [.lst xs] = (bls? xs).map fun bs => .t (.bl (bs.all id)) := Eq.trans rfl rfl
@[simp] theorem biD_any (xs : List D) : biD .any [.lst xs] = (bls? xs).map fun bs => .t (.bl (bs.any id)) := Eq.trans rfl rfl
@[simp] theorem biD_max2 (i j : Int) : biD .max2 [.int i, .int j] = some (.t (.int (if j > i then j else i))) := Eq.trans rfl rfl
@[simp] theorem biD_min2 (i j : Int) : biD .min2 [.int i, .int j] = some (.t (.int (if j < i then j else i))) := Eq.trans rfl rfl
@[simp] theorem biD_intB (b : Bool) : biD .int [.bl b] = some (.t (.int (if b then 1 else 0))) := Eq.trans rfl rfl
@[simp] theorem lenS_own (k : Nat) : lenS .len [.own k] = none := Eq.trans rfl rfl
@[simp] theorem lenS_fz (d : D) : lenS .len [.fz d] = if Wv.isObj d = true then some d else none := Eq.trans rfl rfl
@[simp] theorem lenS_tup (rs : List R) : lenS .tup rs = none := Eq.trans rfl rfl
@[simp] theorem lenS_lst (rs : List R) : lenS .lst rs = none := Eq.trans rfl rfl
@[simp] theorem lenS_all (rs : List R) : lenS .all rs = none := Eq.trans rfl rfl
@[simp] theorem lenS_any (rs : List R) : lenS .any rs = none := Eq.trans rfl rfl
@[simp] theorem lenS_max2 (rs : List R) : lenS .max2 rs = none := Eq.trans rfl rfl
@[simp] theorem lenS_min2 (rs : List R) : lenS .min2 rs = none := Eq.trans rfl rfl
@[simp] theorem lenS_max1 (rs : List R) : lenS .max1 rs = none := Eq.trans rfl rfl
@[simp] theorem lenS_min1 (rs : List R) : lenS .min1 rs = none := Eq.trans rfl rfl
@[simp] theorem lenS_int (rs : List R) : lenS .int rs = none := Eq.trans rfl rfl
@[simp] theorem lenS_repr (rs : List R) : lenS .repr rs = none := Eq.trans rfl rfl
section
variable {P : Prm} {s : FS}
@[simp] theorem bi_len (ds : List D) : P.bi .len ds s = need (biD .len ds) (okRs s) := Eq.trans rfl rfl
@[simp] theorem bi_tup (ds : List D) : P.bi .tup ds s = need (biD .tup ds) (okRs s) := Eq.trans rfl rfl
@[simp] theorem bi_lst (ds : List D) : P.bi .lst ds s = need (biD .lst ds) (okRs s) := Eq.trans rfl rfl
@[simp] theorem bi_all (ds : List D) : P.bi .all ds s = need (biD .all ds) (okRs s) := Eq.trans rfl rfl
@[simp] theorem bi_any (ds : List D) : P.bi .any ds s = need (biD .any ds) (okRs s) := Eq.trans rfl rfl
@[simp] theorem bi_max2 (ds : List D) : P.bi .max2 ds s = need (biD .max2 ds) (okRs s) := Eq.trans rfl rfl
@[simp] theorem bi_min2 (ds : List D) : P.bi .min2 ds s = need (biD .min2 ds) (okRs s) := Eq.trans rfl rfl
@[simp] theorem bi_max1 (ds : List D) : P.bi .max1 ds s = need (biD .max1 ds) (okRs s) := Eq.trans rfl rfl
@[simp] theorem bi_min1 (ds : List D) : P.bi .min1 ds s = need (biD .min1 ds) (okRs s) := Eq.trans rfl rfl
@[simp] theorem bi_int (ds : List D) : P.bi .int ds s = need (biD .int ds) (okRs s) := Eq.trans rfl rfl
def okSt (s : FS) (r : Str) : Out R := .ok (.fz (.str r)) s
@[simp] theorem okSt_ap (s : FS) (r : Str) : okSt s r = .ok (.fz (.str r)) s := Eq.trans rfl rfl
@[simp] theorem bi_repr (d : D) : P.bi .repr [d] s = cnd P.g (need (showD d) (okSt s)) .bad := by
  show (if P.g = true then need (showD d) (fun r => Out.ok (R.fz (.str r)) s) else .bad) = _
  exact cnd_ite _ _ _
end
@[simp] theorem itvD_tup (xs : List D) : itvD (.tup xs) = some xs := Eq.trans rfl rfl
@[simp] theorem itvD_lst (xs : List D) : itvD (.lst xs) = some xs := Eq.trans rfl rfl
@[simp] theorem itemO_fz (acc : List D) (d : D) (s : FS) : itemO acc (.ok (.fz d) s) = if acc.length < sizeLine then some (acc ++ [d], s.st) else none := Eq.trans rfl rfl
@[simp] theorem asgT_n (i : Nat) (d : D) (env : Ev) : asgT (.n i) d env = some (env.set i (some (.fz d))) := Eq.trans rfl rfl
@[simp] theorem asgT_t (is : List Nat) (ds : List D) (env : Ev) : asgT (.t is) (.tup ds) env = if is.length = ds.length then some ((is.zip ds).foldl (fun e p => e.set p.1 (some (.fz p.2))) env) else none := Eq.trans rfl rfl
@[simp] theorem wipe_nil (env : Ev) : wipeE env [] = env := Eq.trans rfl rfl
@[simp] theorem wipe_cons (env : Ev) (v : Nat) (vs : List Nat) : wipeE env (v :: vs) = (wipeE env vs).set v none := Eq.trans rfl rfl
@[simp] theorem hide_nil : hideE [] = [] := Eq.trans rfl rfl
@[simp] theorem hide_none (e : Ev) : hideE (none :: e) = none :: hideE e := Eq.trans rfl rfl
@[simp] theorem hide_fz (d : D) (e : Ev) : hideE (some (.fz d) :: e) = some (.fz d) :: hideE e := Eq.trans rfl rfl
@[simp] theorem hide_opt (x : Option D) (e : Ev) : hideE (Option.map R.fz x :: e) = Option.map R.fz x :: hideE e := by cases x <;> rfl
@[simp] theorem hide_own (k : Nat) (e : Ev) : hideE (some (.own k) :: e) = none :: hideE e := Eq.trans rfl rfl
@[simp] theorem dv_own (s : FS) (k : Nat) : dv s (.own k) = (s.ol[k]?).map fun c => c.2.d := by
  show (s.get k).map Cl.d = _
  unfold FS.get
  rw [Option.map_map] <;> rfl
@[simp] theorem fz_own (s : FS) (k : Nat) : Wv.fz s (.own k) = (s.ol[k]?).map fun c => (c.2.d, ⟨s.ol.set k (false, c.2), s.st⟩) := by
  show (s.get k).map (fun c => (c.d, (⟨s.ol.set k (false, c), s.st⟩ : FS))) = _
  unfold FS.get
  rw [Option.map_map] <;> rfl
@[simp] theorem dvs_own (s : FS) (k : Nat) (rs : List R) : dvs s (.own k :: rs) = ((s.ol[k]?).map fun c => c.2.d).bind fun d => (dvs s rs).map (d :: ·) := by
  show (match dv s (.own k) with
    | some d => (dvs s rs).map (d :: ·)
    | none => none) = _
  rw [dv_own]
  cases (s.ol[k]?).map fun c => c.2.d <;> rfl
def fzsK (rs : List R) (q : D × FS) : Option (List D × FS) := (Wv.fzs q.2 rs).map fun (p : List D × FS) => (q.1 :: p.1, p.2)
@[simp] theorem fzsK_ap (rs : List R) (d : D) (s : FS) : fzsK rs (d, s) = (Wv.fzs s rs).map fun (p : List D × FS) => (d :: p.1, p.2) := Eq.trans rfl rfl
@[simp] theorem fzs_own (s : FS) (k : Nat) (rs : List R) : Wv.fzs s (.own k :: rs) = obnd (Wv.fz s (.own k)) (fzsK rs) := by
  show (match Wv.fz s (.own k) with
    | some (d, s1) => (Wv.fzs s1 rs).map fun (p : List D × FS) => (d :: p.1, p.2)
    | none => none) = _
  cases Wv.fz s (.own k) with
  | none => rfl
  | some q => rfl
@[simp] theorem fzs_mapc {α : Type} (f : α → D) (l : List α) (rs : List R) (s : FS) : Wv.fzs s (l.map (R.fz ∘ f) ++ rs) = (Wv.fzs s rs).map fun (p : List D × FS) => (l.map f ++ p.1, p.2) := by
  induction l with
  | nil =>
    show Wv.fzs s rs = _
    cases Wv.fzs s rs <;> rfl
  | cons a l ih =>
    show (Wv.fzs s (l.map (R.fz ∘ f) ++ rs)).map (fun (p : List D × FS) => (f a :: p.1, p.2)) = _
    rw [ih, Option.map_map] <;> rfl
@[simp] theorem fzs_map' (l : List D) (rs : List R) (s : FS) : Wv.fzs s (l.map R.fz ++ rs) = (Wv.fzs s rs).map fun (p : List D × FS) => (l ++ p.1, p.2) := by
  have z := fzs_mapc (fun d : D => d) l rs s
  rw [show (R.fz ∘ fun d : D => d) = R.fz from rfl, List.map_id'] at z
  exact z
@[simp] theorem cld_lst (xs : List D) : Cl.d (.lst xs) = .lst xs := Eq.trans rfl rfl
@[simp] theorem cld_ins (c : Nat) (fs : List Nat) (xs : List D) : Cl.d (.ins c fs xs) = .ins c fs xs := Eq.trans rfl rfl
@[simp] theorem isLst_own (s : FS) (k : Nat) : isLst s (.own k) = (s.ol[k]?).any fun c => match c.2 with
    | .lst _ => true
    | _ => false := by
  show (match s.ol[k]? with
    | some (_, .lst _) => true
    | _ => false) = _
  cases s.ol[k]? with
  | none => rfl
  | some c =>
    obtain ⟨b, c⟩ := c
    cases c <;> rfl
theorem othOk_ins {p : Pg} {g : Bool} {n c m c' : Nat} {fs : List Nat} {vs : List D} {st : List Cl} {k : Cla} (hk : p.cls[c']? = some k) : (prm p g n).othOk c m (.ins c' fs vs) st = (decide (c' = c) || k.nn.contains m) := by
  show (decide (c' = c) || ((prm p g n).cs[c']?).any fun k => k.nn.contains m) = _
  rw [prm_csE, hk] <;> rfl
theorem lenO_int (n : Int) (s : FS) : lenO (.fz (.int n)) s = if 0 ≤ n ∧ n < 2 ^ 63 then .ok (.fz (.int n)) s else .bad := rfl
theorem lenO_few {n : Int} (h0 : 0 ≤ n) (h1 : n ≤ 1000000) (s : FS) : lenO (.fz (.int n)) s = .ok (.fz (.int n)) s := by
  rw [lenO_int]
  have h : (1000000 : Int) < 2 ^ 63 := by decide
  rw [if_pos ⟨h0, Int.lt_of_le_of_lt h1 h⟩]
theorem call_eq {p : Pg} {g : Bool} {n i : Nat} {f : Fn} (h : p.fns[i]? = some f) (ds : List D) (st : List Cl) : (prm p g (n + 1)).call i ds st = runF (prm p g n) f ds st := by
  show (match p.fns[i]? with
    | some f => runF (prm p g n) f ds st
    | none => .bad) = _
  rw [h]
theorem make_eq {p : Pg} {g : Bool} {n c : Nat} {k : Cla} {f : Fn} (hk : p.cls[c]? = some k) (h : p.fns[k.init]? = some f) (ds : List D) (st : List Cl) : (prm p g (n + 1)).make c ds st = runI (prm p g n) c k f ds st := by
  show (match p.cls[c]? with
    | some k => (match p.fns[k.init]? with
      | some f => runI (prm p g n) c k f ds st
      | none => .bad)
    | none => .bad) = _
  rw [hk]
  show (match p.fns[k.init]? with
    | some f => runI (prm p g n) c k f ds st
    | none => .bad) = _
  rw [h]
section
variable {α : Type} {body : D → List D → List Cl → Option (List D × List Cl)}
theorem turns_all (e : α → D) (p : α → Bool) (f : α → D) (st : List Cl) : ∀ (xs : List α) (acc : List D), (∀ a ∈ xs, ∀ acc : List D, acc.length < sizeLine → body (e a) acc st = some (if p a = true then acc ++ [f a] else acc, st)) → acc.length + xs.length ≤ sizeLine →
    turns body (xs.map e) acc st = some (acc ++ (xs.filter p).map f, st)
  | [], acc, _, _ => by simp [turns]
  | a :: xs, acc, h, hl => by
    rw [List.length_cons] at hl
    show (match body (e a) acc st with
      | some (acc, st) => turns body (xs.map e) acc st
      | none => none) = _
    rw [h a List.mem_cons_self acc (by omega)]
    show turns body (xs.map e) (if p a = true then acc ++ [f a] else acc) st = _
    have hl2 : (if p a = true then acc ++ [f a] else acc).length + xs.length ≤ sizeLine := by
      by_cases hp : p a = true <;> simp [hp] <;> omega
    rw [turns_all e p f st xs _ (fun b hb => h b (List.mem_cons_of_mem _ hb)) hl2]
    by_cases hp : p a = true
    · simp [hp]
    · simp [hp]
/-- .. without a test -/
theorem turns_map (e : α → D) (f : α → D) (st : List Cl) (xs : List α) (h : ∀ a ∈ xs, ∀ acc : List D, acc.length < sizeLine → body (e a) acc st = some (acc ++ [f a], st)) (hl : xs.length ≤ sizeLine) :
    turns body (xs.map e) [] st = some (xs.map f, st) := by
  have z := turns_all (body := body) e (fun _ => true) f st xs [] (fun a ha acc hacc => by simp [h a ha acc hacc]) (by simpa using hl)
  rw [show xs.filter (fun _ => true) = xs from List.filter_eq_self.mpr fun _ _ => rfl] at z
  simpa using z
theorem turns_filter (e : α → D) (p : α → Bool) (f : α → D) (st : List Cl) (xs : List α) (h : ∀ a ∈ xs, ∀ acc : List D, acc.length < sizeLine → body (e a) acc st = some (if p a = true then acc ++ [f a] else acc, st)) (hl : xs.length ≤ sizeLine) :
    turns body (xs.map e) [] st = some ((xs.filter p).map f, st) := by
  have z := turns_all (body := body) e p f st xs [] h (by simpa using hl)
  simpa using z
/-- with a state -/
theorem turns_inv (e : α → D) (I : List α → List D → List Cl → Prop) : ∀ (xs : List α) (acc : List D) (st : List Cl), (∀ a rest acc st, I (a :: rest) acc st → ∃ acc' st', body (e a) acc st = some (acc', st') ∧ I rest acc' st') → I xs acc st →
    ∃ acc' st', turns body (xs.map e) acc st = some (acc', st') ∧ I [] acc' st'
  | [], acc, st, _, i => ⟨acc, st, rfl, i⟩
  | a :: xs, acc, st, h, i => by
    obtain ⟨acc1, st1, e1, i1⟩ := h a xs acc st i
    obtain ⟨acc2, st2, e2, i2⟩ := turns_inv e I xs acc1 st1 h i1
    refine ⟨acc2, st2, ?_, i2⟩
    show (match body (e a) acc st with
      | some (acc, st) => turns body (xs.map e) acc st
      | none => none) = _
    rw [e1]
    exact e2
end
/-- a loop by an invariant over what is left; Q: of how it ends -/
theorem loop_inv {α : Type} (e : α → D) {body : D → Ev → FS → SO} (I : List α → Ev → FS → Prop) (Q : SO → Prop) : ∀ (xs : List α) (env : Ev) (s : FS),
    (∀ a rest env s, I (a :: rest) env s → match body (e a) env s with
      | .nx env1 s1 => I rest env1 s1
      | .ct env1 s1 => I rest env1 s1
      | .bk env1 s1 => Q (.nx env1 s1)
      | o => Q o) → (∀ env s, I [] env s → Q (.nx env s)) → I xs env s → Q (loopS body (xs.map e) env s)
  | [], env, s, _, h0, i => h0 env s i
  | a :: xs, env, s, h, h0, i => by
    have z := h a xs env s i
    show Q (match body (e a) env s with
      | .nx e1 s1 => loopS body (xs.map e) e1 s1
      | .ct e1 s1 => loopS body (xs.map e) e1 s1
      | .bk e1 s1 => .nx e1 s1
      | o => o)
    cases hb : body (e a) env s with
    | nx e1 s1 =>
      rw [hb] at z
      exact loop_inv e I Q xs e1 s1 h h0 z
    | ct e1 s1 =>
      rw [hb] at z
      exact loop_inv e I Q xs e1 s1 h h0 z
    | bk e1 s1 =>
      rw [hb] at z
      exact z
    | rt r e1 s1 =>
      rw [hb] at z
      exact z
    | exc x e1 s1 =>
      rw [hb] at z
      exact z
    | bad =>
      rw [hb] at z
      exact z
end Wv
namespace Wv
open PySem L2
abbrev eInts (l : List Int) : D := .tup (l.map D.int)
def eRule : Option (List Int) → D
  | none => .non
  | some l => eInts l
abbrev eRules (rs : List (Option (List Int))) : D := .tup (rs.map eRule)
@[simp] theorem eRule_none : eRule none = .non := Eq.trans rfl rfl
@[simp] theorem eRule_some (l : List Int) : eRule (some l) = .tup (l.map D.int) := Eq.trans rfl rfl
theorem toPs_ints : ∀ l : List Int, toPs (l.map D.int) = some (l.map PyData.int)
  | [] => rfl
  | x :: r => by
    show (match toP (.int x) with
      | some p => (toPs (r.map D.int)).map (p :: ·)
      | none => none) = _
    rw [toPs_ints r] <;> rfl
theorem toP_ints (l : List Int) : toP (.tup (l.map D.int)) = some (.tuple (l.map PyData.int)) := by
  show (toPs (l.map D.int)).map PyData.tuple = _
  rw [toPs_ints] <;> rfl
theorem toP_intsL (l : List Int) : toP (.lst (l.map D.int)) = some (.list (l.map PyData.int)) := by
  show (toPs (l.map D.int)).map PyData.list = _
  rw [toPs_ints] <;> rfl
def pRule : Option (List Int) → PyData
  | none => .none
  | some l => .tuple (l.map PyData.int)
theorem toP_rule (r : Option (List Int)) : toP (eRule r) = some (pRule r) := by
  cases r with
  | none => rfl
  | some l => exact toP_ints l
theorem toPs_rules : ∀ l : List (Option (List Int)), toPs (l.map eRule) = some (l.map pRule)
  | [] => rfl
  | x :: r => by
    show (match toP (eRule x) with
      | some p => (toPs (r.map eRule)).map (p :: ·)
      | none => none) = _
    rw [toP_rule, toPs_rules r] <;> rfl
theorem toP_rules (l : List (Option (List Int))) : toP (.tup (l.map eRule)) = some (.tuple (l.map pRule)) := by
  show (toPs (l.map eRule)).map PyData.tuple = _
  rw [toPs_rules] <;> rfl
theorem depth_ints : ∀ l : List Int, PyData.depthAll (l.map PyData.int) = 0
  | [] => by simp [PyData.depthAll]
  | x :: r => by
    rw [List.map_cons, PyData.depthAll, depth_ints r]
    simp [PyData.depth]
theorem depth_rule (r : Option (List Int)) : (pRule r).depth ≤ 1 := by
  cases r with
  | none => simp [pRule, PyData.depth]
  | some l =>
    rw [pRule, PyData.depth, depth_ints]
    exact Nat.le_refl _
theorem eqv_ints : ∀ l m : List Int, PyData.eqvAll (l.map PyData.int) (m.map PyData.int) = (l == m)
  | [], [] => by simp [PyData.eqvAll]
  | [], _ :: _ => by simp [PyData.eqvAll]
  | _ :: _, [] => by simp [PyData.eqvAll]
  | x :: l, y :: m => by
    rw [List.map_cons, List.map_cons, PyData.eqvAll, eqv_ints l m, PyData.eqv]
    rfl
theorem eqv_rule (a b : Option (List Int)) : PyData.eqv (pRule a) (pRule b) = (a == b) := by
  cases a <;> cases b
  · rfl
  · simp [pRule, PyData.eqv]
  · simp [pRule, PyData.eqv]
  · rw [pRule, pRule, PyData.eqv, eqv_ints]
    rfl
theorem eqv_rules : ∀ l m : List (Option (List Int)), PyData.eqvAll (l.map pRule) (m.map pRule) = (l == m)
  | [], [] => by simp [PyData.eqvAll]
  | [], _ :: _ => by simp [PyData.eqvAll]
  | _ :: _, [] => by simp [PyData.eqvAll]
  | x :: l, y :: m => by
    rw [List.map_cons, List.map_cons, PyData.eqvAll, eqv_rules l m, eqv_rule]
    rfl
theorem depth_rules : ∀ l : List (Option (List Int)), PyData.depthAll (l.map pRule) ≤ 1
  | [] => by simp [PyData.depthAll]
  | x :: r => by
    rw [List.map_cons, PyData.depthAll]
    have h1 := depth_rule x
    have h2 := depth_rules r
    omega
@[simp] theorem eqD_ints (l m : List Int) : eqD (.tup (l.map D.int)) (.tup (m.map D.int)) = some (l == m) := by
  unfold eqD
  rw [toP_ints, toP_ints]
  show (if min (PyData.tuple (l.map PyData.int)).depth (PyData.tuple (m.map PyData.int)).depth ≤ 40 then _ else _) = _
  rw [if_pos (by rw [PyData.depth, depth_ints]; omega), PyData.eqv, eqv_ints]
@[simp] theorem eqD_rule (l m : Option (List Int)) : eqD (eRule l) (eRule m) = some (l == m) := by
  unfold eqD
  rw [toP_rule, toP_rule]
  show (if min (pRule l).depth (pRule m).depth ≤ 40 then _ else _) = _
  rw [if_pos (by have := depth_rule l; omega), eqv_rule]
@[simp] theorem eqD_rules (l m : List (Option (List Int))) : eqD (.tup (l.map eRule)) (.tup (m.map eRule)) = some (l == m) := by
  unfold eqD
  rw [toP_rules, toP_rules]
  show (if min (PyData.tuple (l.map pRule)).depth (PyData.tuple (m.map pRule)).depth ≤ 40 then _ else _) = _
  rw [if_pos (by rw [PyData.depth]; have := depth_rules l; omega), PyData.eqv, eqv_rules]
/-- compared with () -/
theorem eqD_nil (xs : List D) : eqD (.tup xs) (.tup []) = some xs.isEmpty := by
  cases h : toP (.tup xs) with
  | none =>
    unfold eqD
    rw [h]
    cases xs <;> rfl
  | some p =>
    unfold eqD
    rw [h]
    have e : (toPs xs).map PyData.tuple = some p := h
    cases q : toPs xs with
    | none =>
      rw [q] at e
      cases e
    | some ps =>
      rw [q] at e
      cases e
      show (if min (PyData.tuple ps).depth (PyData.tuple []).depth ≤ 40 then some (PyData.eqv (.tuple ps) (.tuple [])) else none) = _
      rw [if_pos (by simp [PyData.depth, PyData.depthAll])]
      cases xs with
      | nil =>
        cases q
        simp [PyData.eqv, PyData.eqvAll]
      | cons x r =>
        have q : (match toP x with
          | some p => (toPs r).map (p :: ·)
          | none => none) = some ps := q
        cases y : toP x with
        | none =>
          rw [y] at q
          cases q
        | some p1 =>
          rw [y] at q
          cases z : toPs r with
          | none =>
            rw [z] at q
            cases q
          | some p2 =>
            rw [z] at q
            cases q
            simp [PyData.eqv, PyData.eqvAll]
@[simp] theorem eqD_int (i j : Int) : eqD (.int i) (.int j) = some (i == j) := Eq.trans rfl rfl
@[simp] theorem eqD_str (i j : Str) : eqD (.str i) (.str j) = some (i == j) := Eq.trans rfl rfl
/-- lists of ints -/
@[simp] theorem eqD_intsL (l m : List Int) : eqD (.lst (l.map D.int)) (.lst (m.map D.int)) = some (l == m) := by
  unfold eqD
  rw [toP_intsL, toP_intsL]
  show (if min (PyData.list (l.map PyData.int)).depth (PyData.list (m.map PyData.int)).depth ≤ 40 then _ else _) = _
  rw [if_pos (by rw [PyData.depth, depth_ints]; omega), PyData.eqv, eqv_ints]
theorem eqD_nilL (l : List Int) : eqD (.lst (l.map D.int)) (.lst []) = some l.isEmpty := by
  have z := eqD_intsL l []
  rw [List.map_nil] at z
  rw [z]
  cases l <;> rfl
@[simp] theorem inD_int (x : Int) (l : List Int) : inD (.int x) (l.map D.int) = some (l.contains x) := by
  unfold inD
  rw [show toP (.int x) = some (.int x) from rfl, toPs_ints]
  show (if (PyData.int x).depth ≤ 40 then some ((l.map PyData.int).any fun q => PyData.eqv q (.int x)) else none) = _
  rw [if_pos (by simp [PyData.depth])]
  congr 1
  rw [List.any_map]
  induction l with
  | nil => rfl
  | cons y r ih =>
    rw [List.any_cons, List.contains_cons, ih]
    congr 1
    show PyData.eqv (.int y) (.int x) = _
    rw [PyData.eqv]
    show (y == x) = (x == y)
    exact Bool.eq_iff_iff.mpr ⟨fun h => by rw [eq_of_beq h]; exact beq_self_eq_true _, fun h => by rw [eq_of_beq h]; exact beq_self_eq_true _⟩
@[simp] theorem bls_map (l : List Bool) : bls? (l.map D.bl) = some l := by
  induction l with
  | nil => rfl
  | cons x r ih =>
    show (bls? (r.map D.bl)).map (x :: ·) = _
    rw [ih] <;> rfl
@[simp] theorem ints_map (l : List Int) : ints? (l.map D.int) = some l := by
  induction l with
  | nil => rfl
  | cons x r ih =>
    show (ints? (r.map D.int)).map (x :: ·) = _
    rw [ih] <;> rfl
theorem str_app_len (a b : Str) : (a ++ b).length = a.length + b.length := by
  show (a.cps ++ b.cps).size = _
  rw [Array.size_append] <;> rfl
def pile : List Str → Nat
  | [] => 0
  | x :: r => x.length + 2 + pile r
theorem textFrom_le : ∀ (ts : List Str) (k : Nat) (acc : Str), (textFrom k acc ts).length ≤ acc.length + pile ts
  | [], k, acc => Nat.le_refl _
  | t :: r, k, acc => by
    show (textFrom (k + 1) (acc ++ (if k > 0 then ", " else "" : String) ++ t) r).length ≤ _
    refine Nat.le_trans (textFrom_le r (k + 1) _) ?_
    rw [str_app_len, str_app_len]
    have e : (Str.ofString (if k > 0 then ", " else "" : String)).length ≤ 2 := by
      split
      · show (Str.ofString ", ").length ≤ 2
        decide +kernel
      · show (Str.ofString "").length ≤ 2
        decide +kernel
    show _ ≤ acc.length + (t.length + 2 + pile r)
    omega
theorem join_le : ∀ ts : List Str, (Str.join ", " ts).length ≤ pile ts
  | [] => by
    show (Str.empty).length ≤ 0
    exact Nat.le_refl _
  | [x] => by
    show x.length ≤ x.length + 2 + 0
    omega
  | x :: y :: r => by
    have ih := join_le (y :: r)
    show ((x ++ Str.ofString ", ") ++ Str.join ", " (y :: r)).length ≤ x.length + 2 + pile (y :: r)
    rw [str_app_len, str_app_len, show (Str.ofString ", ").length = 2 by decide +kernel]
    omega
theorem listText_le (ts : List Str) : (listText ts).length ≤ pile ts + 4 := by
  show (textFrom 0 "[" ts ++ "]").length ≤ _
  rw [str_app_len]
  have h := textFrom_le ts 0 (Str.ofString "[")
  have e1 : (Str.ofString "[").length = 1 := by decide +kernel
  have e2 : (Str.ofString "]").length = 1 := by decide +kernel
  omega
theorem tupleText_le (ts : List Str) : (tupleText ts).length ≤ pile ts + 4 := by
  show (("(" : Str) ++ Str.join ", " ts ++ (if ts.length == 1 then ",)" else ")" : String)).length ≤ _
  rw [str_app_len, str_app_len]
  have h := join_le ts
  have e1 : (Str.ofString "(").length = 1 := by decide +kernel
  have e : (Str.ofString (if ts.length == 1 then ",)" else ")" : String)).length ≤ 2 := by
    split
    · show (Str.ofString ",)").length ≤ 2
      decide +kernel
    · show (Str.ofString ")").length ≤ 2
      decide +kernel
  omega
/-- small plain data: its text has at most n signs, d is how deep it is -/
structure Sm (x : D) (n d : Nat) : Prop where
  has : ∃ p, toP x = some p ∧ p.showable = true ∧ p.depth ≤ d ∧ p.shown.length ≤ n
theorem Sm.mono {x : D} {n d n' d' : Nat} (h : Sm x n d) (hn : n ≤ n') (hd : d ≤ d') : Sm x n' d' := by
  obtain ⟨p, h1, h2, h3, h4⟩ := h
  exact ⟨p, h1, h2, by omega, by omega⟩
theorem Sm.non : Sm .non 4 0 := ⟨.none, rfl, by simp [PyData.showable], by simp [PyData.depth], by rw [PyData.shown]; decide +kernel⟩
theorem Sm.bl (b : Bool) : Sm (.bl b) 5 0 := ⟨.bool b, rfl, by simp [PyData.showable], by simp [PyData.depth], by rw [PyData.shown]; cases b <;> decide +kernel⟩
theorem int_len (i : Int) (h0 : -2 ≤ i) (h1 : i ≤ 29) : (Str.ofString (toString i)).length ≤ 2 ∧ i.natAbs.log2 < 1920 := by
  have h : ∀ k : Fin 32, (Str.ofString (toString ((k.val : Int) - 2))).length ≤ 2 ∧ ((k.val : Int) - 2).natAbs.log2 < 1920 := by decide +kernel
  have z := h ⟨(i + 2).toNat, by omega⟩
  have e : (((i + 2).toNat : Nat) : Int) - 2 = i := by omega
  rw [e] at z
  exact z
theorem Sm.int (i : Int) (h0 : -2 ≤ i) (h1 : i ≤ 29) : Sm (.int i) 2 0 := by
  obtain ⟨z1, z2⟩ := int_len i h0 h1
  exact ⟨.int i, rfl, by rw [PyData.showable]; exact decide_eq_true z2, by simp [PyData.depth], by rw [PyData.shown]; exact z1⟩
theorem Sm.all {xs : List D} {n d : Nat} (h : ∀ x ∈ xs, Sm x n d) : ∃ ps, toPs xs = some ps ∧ PyData.showableAll ps = true ∧ PyData.depthAll ps ≤ d ∧ pile (PyData.shownAll ps) ≤ xs.length * (n + 2) := by
  induction xs with
  | nil => exact ⟨[], rfl, by simp [PyData.showableAll], by simp [PyData.depthAll], by simp [PyData.shownAll, pile]⟩
  | cons x r ih =>
    obtain ⟨p, h1, h2, h3, h4⟩ := (h x List.mem_cons_self).has
    obtain ⟨ps, g1, g2, g3, g4⟩ := ih fun y hy => h y (List.mem_cons_of_mem _ hy)
    refine ⟨p :: ps, ?_, ?_, ?_, ?_⟩
    · show (match toP x with
        | some p => (toPs r).map (p :: ·)
        | none => none) = _
      rw [h1, g1] <;> rfl
    · rw [PyData.showableAll, h2, g2] <;> rfl
    · rw [PyData.depthAll]
      omega
    · rw [PyData.shownAll]
      show p.shown.length + 2 + pile (PyData.shownAll ps) ≤ (r.length + 1) * (n + 2)
      rw [Nat.succ_mul]
      omega
theorem Sm.tup {xs : List D} {n d k : Nat} (h : ∀ x ∈ xs, Sm x n d) (hk : xs.length ≤ k) : Sm (.tup xs) (k * (n + 2) + 4) (d + 1) := by
  obtain ⟨ps, g1, g2, g3, g4⟩ := Sm.all h
  have hm : xs.length * (n + 2) ≤ k * (n + 2) := Nat.mul_le_mul_right _ hk
  refine ⟨.tuple ps, ?_, by rw [PyData.showable]; exact g2, by rw [PyData.depth]; omega, ?_⟩
  · show (toPs xs).map PyData.tuple = _
    rw [g1] <;> rfl
  · rw [PyData.shown]
    have := tupleText_le (PyData.shownAll ps)
    omega
theorem Sm.lst {xs : List D} {n d k : Nat} (h : ∀ x ∈ xs, Sm x n d) (hk : xs.length ≤ k) : Sm (.lst xs) (k * (n + 2) + 4) (d + 1) := by
  obtain ⟨ps, g1, g2, g3, g4⟩ := Sm.all h
  have hm : xs.length * (n + 2) ≤ k * (n + 2) := Nat.mul_le_mul_right _ hk
  refine ⟨.list ps, ?_, by rw [PyData.showable]; exact g2, by rw [PyData.depth]; omega, ?_⟩
  · show (toPs xs).map PyData.list = _
    rw [g1] <;> rfl
  · rw [PyData.shown]
    have := listText_le (PyData.shownAll ps)
    omega
theorem Sm.show {x : D} {n d : Nat} (h : Sm x n d) (hn : n ≤ 1000000) (hd : d ≤ 40) : ∃ t, showD x = some t := by
  obtain ⟨p, h1, h2, h3, h4⟩ := h
  refine ⟨p.shown, ?_⟩
  unfold showD
  rw [h1]
  show (if p.showable = true ∧ p.depth ≤ 40 ∧ p.shown.length ≤ 1000000 then some p.shown else none) = _
  rw [if_pos ⟨h2, by omega, by omega⟩]
end Wv
namespace Wv
open PySem L2
section
variable {P : Prm} {env : Ev} {s : FS}
@[simp] theorem ev_dnew (P : Prm) (env : Ev) (s : FS) : ev P .dnew env s = .ok (.fz (.cel s.st.length)) ⟨s.ol, s.st ++ [.dic []]⟩ := Eq.trans rfl rfl
def dicCl : Option Cl → Option (List (NestedKey × D))
  | some (.dic kvs) => some kvs
  | _ => none
@[simp] theorem dicC_dic (kvs : List (NestedKey × D)) : dicCl (some (.dic kvs)) = some kvs := Eq.trans rfl rfl
@[simp] theorem dicAt_cel (s : FS) (n : Nat) : dicAt s (.cel n) = dicCl s.st[n]? := by
  show (match s.st[n]? with
    | some (.dic kvs) => some kvs
    | _ => none) = _
  cases s.st[n]? with
  | none => rfl
  | some c => cases c <;> rfl
def kDin6 (neg : Bool) (s : FS) (kvs : List (NestedKey × D)) : NestedKey → Out R := fun q => .ok (.fz (.bl (neg ^^ (dgt kvs q).isSome))) s
@[simp] theorem kDin6_ap (neg : Bool) (s : FS) (kvs : List (NestedKey × D)) (q : NestedKey) : kDin6 neg s kvs q = .ok (.fz (.bl (neg ^^ (dgt kvs q).isSome))) s := Eq.trans rfl rfl
def kDin5 (neg : Bool) (s : FS) (k : D) : List (NestedKey × D) → Out R := fun kvs => need (keyT k) (kDin6 neg s kvs)
@[simp] theorem kDin5_ap (neg : Bool) (s : FS) (k : D) (kvs : List (NestedKey × D)) : kDin5 neg s k kvs = need (keyT k) (kDin6 neg s kvs) := Eq.trans rfl rfl
def kDin4 (neg : Bool) (s : FS) (k : D) : D → Out R := fun e => need (dicAt s e) (kDin5 neg s k)
@[simp] theorem kDin4_ap (neg : Bool) (s : FS) (k e : D) : kDin4 neg s k e = need (dicAt s e) (kDin5 neg s k) := Eq.trans rfl rfl
def kDin3 (neg : Bool) (y : R) (s : FS) : D → Out R := fun k => need (dv s y) (kDin4 neg s k)
@[simp] theorem kDin3_ap (neg : Bool) (y : R) (s : FS) (k : D) : kDin3 neg y s k = need (dv s y) (kDin4 neg s k) := Eq.trans rfl rfl
def kDin2 (neg : Bool) (x : R) : R → FS → Out R := fun y s => need (dv s x) (kDin3 neg y s)
@[simp] theorem kDin2_ap (neg : Bool) (x y : R) (s : FS) : kDin2 neg x y s = need (dv s x) (kDin3 neg y s) := Eq.trans rfl rfl
def kDin1 (P : Prm) (neg : Bool) (d : E) (env : Ev) : R → FS → Out R := fun x s => (ev P d env s).bnd (kDin2 neg x)
@[simp] theorem kDin1_ap (P : Prm) (neg : Bool) (d : E) (env : Ev) (x : R) (s : FS) : kDin1 P neg d env x s = (ev P d env s).bnd (kDin2 neg x) := Eq.trans rfl rfl
@[simp] theorem ev_din (P : Prm) (env : Ev) (s : FS) (neg : Bool) (a d : E) : ev P (.din neg a d) env s = (ev P a env s).bnd (kDin1 P neg d env) := Eq.trans rfl rfl
def kDg5 (s : FS) (kvs : List (NestedKey × D)) : NestedKey → Out R := fun q => need (dgt kvs q) (okD s)
@[simp] theorem kDg5_ap (s : FS) (kvs : List (NestedKey × D)) (q : NestedKey) : kDg5 s kvs q = need (dgt kvs q) (okD s) := Eq.trans rfl rfl
def kDg4 (s : FS) (k : D) : List (NestedKey × D) → Out R := fun kvs => need (keyT k) (kDg5 s kvs)
@[simp] theorem kDg4_ap (s : FS) (k : D) (kvs : List (NestedKey × D)) : kDg4 s k kvs = need (keyT k) (kDg5 s kvs) := Eq.trans rfl rfl
def kDg3 (s : FS) (e : D) : D → Out R := fun k => need (dicAt s e) (kDg4 s k)
@[simp] theorem kDg3_ap (s : FS) (e k : D) : kDg3 s e k = need (dicAt s e) (kDg4 s k) := Eq.trans rfl rfl
def kDg2' (x : R) (s : FS) : D → Out R := fun e => need (dv s x) (kDg3 s e)
@[simp] theorem kDg2'_ap (x : R) (s : FS) (e : D) : kDg2' x s e = need (dv s x) (kDg3 s e) := Eq.trans rfl rfl
def kDg2 (y : R) : R → FS → Out R := fun x s => need (dv s y) (kDg2' x s)
@[simp] theorem kDg2_ap (y x : R) (s : FS) : kDg2 y x s = need (dv s y) (kDg2' x s) := Eq.trans rfl rfl
def kDg1 (P : Prm) (a : E) (env : Ev) : R → FS → Out R := fun y s => (ev P a env s).bnd (kDg2 y)
@[simp] theorem kDg1_ap (P : Prm) (a : E) (env : Ev) (y : R) (s : FS) : kDg1 P a env y s = (ev P a env s).bnd (kDg2 y) := Eq.trans rfl rfl
@[simp] theorem ev_dget (P : Prm) (env : Ev) (s : FS) (d a : E) : ev P (.dget d a) env s = (ev P d env s).bnd (kDg1 P a env) := Eq.trans rfl rfl
/-- d[key] = x -/
def putK (env : Ev) (s : FS) (kvs : List (NestedKey × D)) (key : NestedKey) (x : D) : D → SO
  | .cel n => if kvs.length < sizeLine then .nx env ⟨s.ol, s.st.set n (.dic (dpt kvs key x))⟩ else .bad
  | _ => .bad
@[simp] theorem putK_cel (env : Ev) (s : FS) (kvs : List (NestedKey × D)) (key : NestedKey) (x : D) (n : Nat) : putK env s kvs key x (.cel n) = if kvs.length < sizeLine then .nx env ⟨s.ol, s.st.set n (.dic (dpt kvs key x))⟩ else .bad := Eq.trans rfl rfl
def sDp7 (env : Ev) (s : FS) (x d : D) (kvs : List (NestedKey × D)) : NestedKey → SO := fun key => putK env s kvs key x d
@[simp] theorem sDp7_ap (env : Ev) (s : FS) (x d : D) (kvs : List (NestedKey × D)) (key : NestedKey) : sDp7 env s x d kvs key = putK env s kvs key x d := Eq.trans rfl rfl
def sDp6 (env : Ev) (s : FS) (x d k : D) : List (NestedKey × D) → SO := fun kvs => needS (keyT k) (sDp7 env s x d kvs)
@[simp] theorem sDp6_ap (env : Ev) (s : FS) (x d k : D) (kvs : List (NestedKey × D)) : sDp6 env s x d k kvs = needS (keyT k) (sDp7 env s x d kvs) := Eq.trans rfl rfl
def sDp5 (env : Ev) (s : FS) (x d : D) : D → SO := fun k => needS (dicAt s d) (sDp6 env s x d k)
@[simp] theorem sDp5_ap (env : Ev) (s : FS) (x d k : D) : sDp5 env s x d k = needS (dicAt s d) (sDp6 env s x d k) := Eq.trans rfl rfl
def sDp4 (env : Ev) (j : R) (s : FS) (x : D) : D → SO := fun d => needS (dv s j) (sDp5 env s x d)
@[simp] theorem sDp4_ap (env : Ev) (j : R) (s : FS) (x d : D) : sDp4 env j s x d = needS (dv s j) (sDp5 env s x d) := Eq.trans rfl rfl
def sDp3 (env : Ev) (x : D) (q : R) : R → FS → SO := fun j s => needS (dv s q) (sDp4 env j s x)
@[simp] theorem sDp3_ap (env : Ev) (x : D) (q j : R) (s : FS) : sDp3 env x q j s = needS (dv s q) (sDp4 env j s x) := Eq.trans rfl rfl
def sDp2 (P : Prm) (i : E) (env : Ev) (x : D) : R → FS → SO := fun q s => (ev P i env s).st env (sDp3 env x q)
@[simp] theorem sDp2_ap (P : Prm) (i : E) (env : Ev) (x : D) (q : R) (s : FS) : sDp2 P i env x q s = (ev P i env s).st env (sDp3 env x q) := Eq.trans rfl rfl
def sDp1 (P : Prm) (o i : E) (env : Ev) : D × FS → SO := fun p => (ev P o env p.2).st env (sDp2 P i env p.1)
@[simp] theorem sDp1_ap (P : Prm) (o i : E) (env : Ev) (p : D × FS) : sDp1 P o i env p = (ev P o env p.2).st env (sDp2 P i env p.1) := Eq.trans rfl rfl
def sDp0 (P : Prm) (o i : E) (env : Ev) : R → FS → SO := fun r s => needS (Wv.fz s r) (sDp1 P o i env)
@[simp] theorem sDp0_ap (P : Prm) (o i : E) (env : Ev) (r : R) (s : FS) : sDp0 P o i env r s = needS (Wv.fz s r) (sDp1 P o i env) := Eq.trans rfl rfl
@[simp] theorem ex_dput (P : Prm) (env : Ev) (s : FS) (o i e : E) : ex P (.dput o i e) env s = (ev P e env s).st env (sDp0 P o i env) := Eq.trans rfl rfl
end
theorem dgt_mem {kvs : List (NestedKey × D)} {k : NestedKey} {d : D} (h : dgt kvs k = some d) : (k, d) ∈ kvs := by
  unfold dgt at h
  obtain ⟨x, h1, h2⟩ := Option.map_eq_some_iff.mp h
  have e : x.1 = k := by simpa using List.find?_some h1
  have m := List.mem_of_find?_eq_some h1
  rw [← e, ← h2]
  exact m
theorem dpt_mem {kvs : List (NestedKey × D)} {k : NestedKey} {d : D} {x : NestedKey × D} (h : x ∈ dpt kvs k d) : x ∈ kvs ∨ x = (k, d) := by
  unfold dpt at h
  split at h
  · obtain ⟨y, hy, e⟩ := List.mem_map.mp h
    split at e
    · rename_i q
      exact .inr (by rw [← e, q])
    · exact .inl (e ▸ hy)
  · rcases List.mem_append.mp h with h | h
    · exact .inl h
    · exact .inr (List.mem_singleton.mp h)
theorem dgt_map (k : NestedKey) (d : D) : ∀ kvs : List (NestedKey × D), (dgt kvs k).isSome = true → dgt (kvs.map fun x => if x.1 = k then (x.1, d) else x) k = some d
  | [], h => by cases h
  | x :: r, h => by
    unfold dgt
    rw [List.map_cons]
    by_cases q : x.1 = k
    · simp [q]
    · rw [if_neg q, List.find?_cons_of_neg (by simpa using q)]
      have h2 : (dgt r k).isSome = true := by
        unfold dgt at h ⊢
        rwa [List.find?_cons_of_neg (by simpa using q)] at h
      exact dgt_map k d r h2
theorem dgt_put (kvs : List (NestedKey × D)) (k : NestedKey) (d : D) : dgt (dpt kvs k d) k = some d := by
  unfold dpt
  split
  · rename_i h
    exact dgt_map k d kvs h
  · rename_i h
    unfold dgt at h ⊢
    have h2 : kvs.find? (fun x => decide (x.1 = k)) = none := by
      cases z : kvs.find? (fun x => decide (x.1 = k)) with
      | none => rfl
      | some y =>
        rw [z] at h
        exact (h rfl).elim
    rw [List.find?_append, h2]
    simp
end Wv
namespace Wv
open PySem L2
section
variable {P : Prm} {env : Ev} {s : FS}
def kCin4 (P : Prm) (d : D) : List D × FS → Out R := fun p => P.meth d mCall p.1 p.2
@[simp] theorem kCin4_ap (P : Prm) (d : D) (p : List D × FS) : kCin4 P d p = P.meth d mCall p.1 p.2 := Eq.trans rfl rfl
def kCin3 (P : Prm) (d : D) : List R → FS → Out R := fun rs s => need (Wv.fzs s rs) (kCin4 P d)
@[simp] theorem kCin3_ap (P : Prm) (d : D) (rs : List R) (s : FS) : kCin3 P d rs s = need (Wv.fzs s rs) (kCin4 P d) := Eq.trans rfl rfl
def kCin2 (P : Prm) (es : E) (env : Ev) (q : D × FS) : Nat × List Nat × List D → Out R := fun _ => (evs P es env q.2).bnd (kCin3 P q.1)
@[simp] theorem kCin2_ap (P : Prm) (es : E) (env : Ev) (q : D × FS) (c : Nat × List Nat × List D) : kCin2 P es env q c = (evs P es env q.2).bnd (kCin3 P q.1) := Eq.trans rfl rfl
def kCin1 (P : Prm) (es : E) (env : Ev) : D × FS → Out R := fun q => need (clsOf q.1 q.2.st) (kCin2 P es env q)
@[simp] theorem kCin1_ap (P : Prm) (es : E) (env : Ev) (q : D × FS) : kCin1 P es env q = need (clsOf q.1 q.2.st) (kCin2 P es env q) := Eq.trans rfl rfl
def kCin0 (P : Prm) (es : E) (env : Ev) : R → FS → Out R := fun x s => need (Wv.fz s x) (kCin1 P es env)
@[simp] theorem kCin0_ap (P : Prm) (es : E) (env : Ev) (x : R) (s : FS) : kCin0 P es env x s = need (Wv.fz s x) (kCin1 P es env) := Eq.trans rfl rfl
@[simp] theorem ev_cin (P : Prm) (env : Ev) (s : FS) (o es : E) : ev P (.cin o es) env s = (ev P o env s).bnd (kCin0 P es env) := Eq.trans rfl rfl
def kBm4 (m : Bm) (d : D) (s : FS) : D → Out R := fun z => need (bmD m d z) (okRs s)
@[simp] theorem kBm4_ap (m : Bm) (d z : D) (s : FS) : kBm4 m d s z = need (bmD m d z) (okRs s) := Eq.trans rfl rfl
def kBm3 (m : Bm) (y : R) (s : FS) : D → Out R := fun d => need (dv s y) (kBm4 m d s)
@[simp] theorem kBm3_ap (m : Bm) (y : R) (s : FS) (d : D) : kBm3 m y s d = need (dv s y) (kBm4 m d s) := Eq.trans rfl rfl
def kBm2 (m : Bm) (x : R) : R → FS → Out R := fun y s => need (dv s x) (kBm3 m y s)
@[simp] theorem kBm2_ap (m : Bm) (x y : R) (s : FS) : kBm2 m x y s = need (dv s x) (kBm3 m y s) := Eq.trans rfl rfl
def kBm1 (P : Prm) (m : Bm) (e : E) (env : Ev) (x : R) (s : FS) : D → Out R := fun d => cnd (bmTy m d) ((ev P e env s).bnd (kBm2 m x)) .bad
@[simp] theorem kBm1_ap (P : Prm) (m : Bm) (e : E) (env : Ev) (x : R) (s : FS) (d : D) : kBm1 P m e env x s d = cnd (bmTy m d) ((ev P e env s).bnd (kBm2 m x)) .bad := Eq.trans rfl rfl
def kBm0 (P : Prm) (m : Bm) (e : E) (env : Ev) : R → FS → Out R := fun x s => need (dv s x) (kBm1 P m e env x s)
@[simp] theorem kBm0_ap (P : Prm) (m : Bm) (e : E) (env : Ev) (x : R) (s : FS) : kBm0 P m e env x s = need (dv s x) (kBm1 P m e env x s) := Eq.trans rfl rfl
@[simp] theorem ev_bm (P : Prm) (env : Ev) (s : FS) (m : Bm) (o e : E) : ev P (.bm m o e) env s = (ev P o env s).bnd (kBm0 P m e env) := by
  show ((ev P o env s).bnd fun x s => need (dv s x) fun d0 => if bmTy m d0 = true then ((ev P e env s).bnd fun y s => need (dv s x) fun d => need (dv s y) fun z => need (bmD m d z) fun r => r.out s) else .bad) = _
  exact bnd_ext fun x s => need_ext fun c => cnd_ite _ _ _
@[simp] theorem bmTy_idx (xs : List D) : bmTy .idx (.lst xs) = true := Eq.trans rfl rfl
theorem bmD_idx {xs : List D} {ns : List Int} {i : Int} (h : ints? xs = some ns) (hi : i ∈ ns) : bmD .idx (.lst xs) (.int i) = some (.t (.int (ns.idxOf i))) := by
  show (ints? xs).bind (fun ns => if i ∈ ns then some (Rs.t (.int (ns.idxOf i))) else none) = _
  rw [h]
  show (if i ∈ ns then _ else _) = _
  rw [if_pos hi]
def sFzv (i : Nat) (env : Ev) : D × FS → SO := fun p => .nx (env.set i (some (.fz p.1))) p.2
@[simp] theorem sFzv_ap (i : Nat) (env : Ev) (p : D × FS) : sFzv i env p = .nx (env.set i (some (.fz p.1))) p.2 := Eq.trans rfl rfl
def fzvP (i : Nat) (env : Ev) (s : FS) : Option (Option R) → SO
  | some (some r) => needS (Wv.fz s r) (sFzv i env)
  | _ => .bad
@[simp] theorem fzvP_some (i : Nat) (env : Ev) (s : FS) (r : R) : fzvP i env s (some (some r)) = needS (Wv.fz s r) (sFzv i env) := Eq.trans rfl rfl
@[simp] theorem ex_fzv (P : Prm) (env : Ev) (s : FS) (i : Nat) : ex P (.fzv i) env s = fzvP i env s env[i]? := by
  show (match env[i]? with
    | some (some r) => needS (Wv.fz s r) fun p => SO.nx (env.set i (some (.fz p.1))) p.2
    | _ => .bad) = _
  unfold fzvP
  split <;> rfl
@[simp] theorem ex_whl (P : Prm) (env : Ev) (s : FS) (n : Nat) (c : E) (b : S) : ex P (.whl n c b) env s = whlS (ev P c) (ex P b) n env s := Eq.trans rfl rfl
/-- a while by an invariant that has the turns left -/
theorem whl_inv {c : Ev → FS → Out R} {body : Ev → FS → SO} (I : Nat → Ev → FS → Prop) (Q : SO → Prop) : ∀ (n k : Nat) (env : Ev) (s : FS), k < n →
    (∀ k env s, I k env s → ∃ b s1, c env s = .ok (.fz (.bl b)) s1 ∧ (b = false → Q (.nx env s1)) ∧ (b = true → match body env s1 with
      | .nx e s2 => ∃ j, j < k ∧ I j e s2
      | .ct e s2 => ∃ j, j < k ∧ I j e s2
      | .bk e s2 => Q (.nx e s2)
      | o => Q o)) → I k env s → Q (whlS c body n env s)
  | 0, k, _, _, h, _, _ => absurd h (Nat.not_lt_zero k)
  | n + 1, k, env, s, hk, h, i => by
    obtain ⟨b, s1, e1, q0, q1⟩ := h k env s i
    show Q ((c env s).st env fun r s => needS (bl? r) fun b => if b = true then (match body env s with
      | .nx e s1 => whlS c body n e s1
      | .ct e s1 => whlS c body n e s1
      | .bk e s1 => .nx e s1
      | o => o) else .nx env s)
    rw [e1]
    show Q (if b = true then (match body env s1 with
      | .nx e s1 => whlS c body n e s1
      | .ct e s1 => whlS c body n e s1
      | .bk e s1 => .nx e s1
      | o => o) else .nx env s1)
    cases b with
    | false => exact q0 rfl
    | true =>
      have z := q1 rfl
      rw [if_pos rfl]
      cases hb : body env s1 with
      | nx e s2 =>
        rw [hb] at z
        obtain ⟨j, hj, ij⟩ := z
        exact whl_inv I Q n j e s2 (by omega) h ij
      | ct e s2 =>
        rw [hb] at z
        obtain ⟨j, hj, ij⟩ := z
        exact whl_inv I Q n j e s2 (by omega) h ij
      | bk e s2 =>
        rw [hb] at z
        exact z
      | rt r e s2 =>
        rw [hb] at z
        exact z
      | exc x e s2 =>
        rw [hb] at z
        exact z
      | bad =>
        rw [hb] at z
        exact z
end
end Wv
namespace IR
open PySem L2 Wv
abbrev n_law : Nat := 0
theorem g_law : pg.fns[0]? = some F_law := rfl
abbrev n_Schema_init : Nat := 1
theorem g_Schema_init : pg.fns[1]? = some F_Schema_init := rfl
abbrev n_Variant_init : Nat := 2
theorem g_Variant_init : pg.fns[2]? = some F_Variant_init := rfl
abbrev n__law_cell : Nat := 3
theorem g__law_cell : pg.fns[3]? = some F__law_cell := rfl
abbrev n__law_pen : Nat := 4
theorem g__law_pen : pg.fns[4]? = some F__law_pen := rfl
abbrev n__law_draw_shape : Nat := 5
theorem g__law_draw_shape : pg.fns[5]? = some F__law_draw_shape := rfl
abbrev n__law_draw_rules : Nat := 6
theorem g__law_draw_rules : pg.fns[6]? = some F__law_draw_rules := rfl
abbrev n__law_near : Nat := 7
theorem g__law_near : pg.fns[7]? = some F__law_near := rfl
abbrev n__law_is_right : Nat := 8
theorem g__law_is_right : pg.fns[8]? = some F__law_is_right := rfl
abbrev n__law_odds : Nat := 9
theorem g__law_odds : pg.fns[9]? = some F__law_odds := rfl
abbrev n__law_same : Nat := 10
theorem g__law_same : pg.fns[10]? = some F__law_same := rfl
abbrev n_need_shape : Nat := 11
theorem g_need_shape : pg.fns[11]? = some F_need_shape := rfl
abbrev n_are_rules : Nat := 12
theorem g_are_rules : pg.fns[12]? = some F_are_rules := rfl
abbrev n__law_pick : Nat := 13
theorem g__law_pick : pg.fns[13]? = some F__law_pick := rfl
abbrev n__law_draw : Nat := 14
theorem g__law_draw : pg.fns[14]? = some F__law_draw := rfl
abbrev n__law_draw_rule : Nat := 15
theorem g__law_draw_rule : pg.fns[15]? = some F__law_draw_rule := rfl
abbrev n_are_sizes : Nat := 16
theorem g_are_sizes : pg.fns[16]? = some F_are_sizes := rfl
abbrev n_is_rule : Nat := 17
theorem g_is_rule : pg.fns[17]? = some F_is_rule := rfl
abbrev n_how_many : Nat := 18
theorem g_how_many : pg.fns[18]? = some F_how_many := rfl
abbrev n_is_between : Nat := 19
theorem g_is_between : pg.fns[19]? = some F_is_between := rfl
abbrev n_is_integer : Nat := 20
theorem g_is_integer : pg.fns[20]? = some F_is_integer := rfl
abbrev n_Schema_shape : Nat := 21
theorem g_Schema_shape : pg.fns[21]? = some F_Schema_shape := rfl
abbrev n_Schema_call : Nat := 22
theorem g_Schema_call : pg.fns[22]? = some F_Schema_call := rfl
abbrev n_Schema_len : Nat := 23
theorem g_Schema_len : pg.fns[23]? = some F_Schema_len := rfl
abbrev n_Schema_add : Nat := 24
theorem g_Schema_add : pg.fns[24]? = some F_Schema_add := rfl
abbrev n_Schema_eq : Nat := 25
theorem g_Schema_eq : pg.fns[25]? = some F_Schema_eq := rfl
abbrev n_Schema_repr : Nat := 26
theorem g_Schema_repr : pg.fns[26]? = some F_Schema_repr := rfl
abbrev n_Variant_text : Nat := 27
theorem g_Variant_text : pg.fns[27]? = some F_Variant_text := rfl
abbrev n_Variant_shape : Nat := 28
theorem g_Variant_shape : pg.fns[28]? = some F_Variant_shape := rfl
abbrev n_Variant_call : Nat := 29
theorem g_Variant_call : pg.fns[29]? = some F_Variant_call := rfl
abbrev n_Variant_len : Nat := 30
theorem g_Variant_len : pg.fns[30]? = some F_Variant_len := rfl
abbrev n_Variant_eq : Nat := 31
theorem g_Variant_eq : pg.fns[31]? = some F_Variant_eq := rfl
abbrev n_Variant_repr : Nat := 32
theorem g_Variant_repr : pg.fns[32]? = some F_Variant_repr := rfl
abbrev n_is_record : Nat := 33
theorem g_is_record : pg.fns[33]? = some F_is_record := rfl
abbrev n_fits_of : Nat := 34
theorem g_fits_of : pg.fns[34]? = some F_fits_of := rfl
abbrev n_need_like : Nat := 35
theorem g_need_like : pg.fns[35]? = some F_need_like := rfl
abbrev n_line_of : Nat := 36
theorem g_line_of : pg.fns[36]? = some F_line_of := rfl
abbrev n_are_kept : Nat := 37
theorem g_are_kept : pg.fns[37]? = some F_are_kept := rfl
abbrev n_fitting : Nat := 38
theorem g_fitting : pg.fns[38]? = some F_fitting := rfl
abbrev n_is_outcome : Nat := 39
theorem g_is_outcome : pg.fns[39]? = some F_is_outcome := rfl
abbrev n_need_variant : Nat := 40
theorem g_need_variant : pg.fns[40]? = some F_need_variant := rfl
abbrev n_keeps_rule : Nat := 41
theorem g_keeps_rule : pg.fns[41]? = some F_keeps_rule := rfl
abbrev n_every_record : Nat := 42
theorem g_every_record : pg.fns[42]? = some F_every_record := rfl
abbrev n_Variant_rules : Nat := 43
theorem g_Variant_rules : pg.fns[43]? = some F_Variant_rules := rfl
abbrev n_Variant_required : Nat := 44
theorem g_Variant_required : pg.fns[44]? = some F_Variant_required := rfl
abbrev n_Variant_forbidden : Nat := 45
theorem g_Variant_forbidden : pg.fns[45]? = some F_Variant_forbidden := rfl
abbrev k_Schema : Nat := 0
theorem gk_Schema : pg.cls[0]? = some c0 := rfl
abbrev k_Variant : Nat := 1
theorem gk_Variant : pg.cls[1]? = some c1 := rfl
theorem po_Schema_shape {g : Bool} (n : Nat) : (prm pg g n).propOf 0 10 = some 21 := by
  unfold Prm.propOf
  rw [prm_cs]
  rfl
theorem mo_Schema_call {g : Bool} (n : Nat) : (prm pg g n).methOf 0 7 = some 22 := by
  unfold Prm.methOf
  rw [prm_cs]
  rfl
theorem mo_Schema_len {g : Bool} (n : Nat) : (prm pg g n).methOf 0 0 = some 23 := by
  unfold Prm.methOf
  rw [prm_cs]
  rfl
theorem mo_Schema_add {g : Bool} (n : Nat) : (prm pg g n).methOf 0 1 = some 24 := by
  unfold Prm.methOf
  rw [prm_cs]
  rfl
theorem mo_Schema_eq {g : Bool} (n : Nat) : (prm pg g n).methOf 0 4 = some 25 := by
  unfold Prm.methOf
  rw [prm_cs]
  rfl
theorem mo_Schema_repr {g : Bool} (n : Nat) : (prm pg g n).methOf 0 8 = some 26 := by
  unfold Prm.methOf
  rw [prm_cs]
  rfl
theorem fo_Schema_sizes {g : Bool} (n : Nat) : (prm pg g n).fldOk 0 12 = true := by
  unfold Prm.fldOk
  rw [prm_cs]
  rfl
theorem pn_Schema_sizes {g : Bool} (n : Nat) : (prm pg g n).propOf 0 12 = none := by
  unfold Prm.propOf
  rw [prm_cs]
  rfl
theorem fo_Schema_kept {g : Bool} (n : Nat) : (prm pg g n).fldOk 0 13 = true := by
  unfold Prm.fldOk
  rw [prm_cs]
  rfl
theorem pn_Schema_kept {g : Bool} (n : Nat) : (prm pg g n).propOf 0 13 = none := by
  unfold Prm.propOf
  rw [prm_cs]
  rfl
theorem po_Variant_shape {g : Bool} (n : Nat) : (prm pg g n).propOf 1 10 = some 28 := by
  unfold Prm.propOf
  rw [prm_cs]
  rfl
theorem po_Variant_rules {g : Bool} (n : Nat) : (prm pg g n).propOf 1 19 = some 43 := by
  unfold Prm.propOf
  rw [prm_cs]
  rfl
theorem po_Variant_required {g : Bool} (n : Nat) : (prm pg g n).propOf 1 18 = some 44 := by
  unfold Prm.propOf
  rw [prm_cs]
  rfl
theorem po_Variant_forbidden {g : Bool} (n : Nat) : (prm pg g n).propOf 1 17 = some 45 := by
  unfold Prm.propOf
  rw [prm_cs]
  rfl
theorem mo_Variant_text {g : Bool} (n : Nat) : (prm pg g n).methOf 1 9 = some 27 := by
  unfold Prm.methOf
  rw [prm_cs]
  rfl
theorem mo_Variant_call {g : Bool} (n : Nat) : (prm pg g n).methOf 1 7 = some 29 := by
  unfold Prm.methOf
  rw [prm_cs]
  rfl
theorem mo_Variant_len {g : Bool} (n : Nat) : (prm pg g n).methOf 1 0 = some 30 := by
  unfold Prm.methOf
  rw [prm_cs]
  rfl
theorem mo_Variant_eq {g : Bool} (n : Nat) : (prm pg g n).methOf 1 4 = some 31 := by
  unfold Prm.methOf
  rw [prm_cs]
  rfl
theorem mo_Variant_repr {g : Bool} (n : Nat) : (prm pg g n).methOf 1 8 = some 32 := by
  unfold Prm.methOf
  rw [prm_cs]
  rfl
theorem fo_Variant_sizes {g : Bool} (n : Nat) : (prm pg g n).fldOk 1 12 = true := by
  unfold Prm.fldOk
  rw [prm_cs]
  rfl
theorem pn_Variant_sizes {g : Bool} (n : Nat) : (prm pg g n).propOf 1 12 = none := by
  unfold Prm.propOf
  rw [prm_cs]
  rfl
theorem fo_Variant_kept {g : Bool} (n : Nat) : (prm pg g n).fldOk 1 13 = true := by
  unfold Prm.fldOk
  rw [prm_cs]
  rfl
theorem pn_Variant_kept {g : Bool} (n : Nat) : (prm pg g n).propOf 1 13 = none := by
  unfold Prm.propOf
  rw [prm_cs]
  rfl
abbrev a_len : Nat := 0
abbrev a_add : Nat := 1
abbrev a_and : Nat := 2
abbrev a_le : Nat := 3
abbrev a_eq : Nat := 4
abbrev a_contains : Nat := 5
abbrev a_getitem : Nat := 6
abbrev a_call : Nat := 7
abbrev a_repr : Nat := 8
abbrev a_text : Nat := 9
abbrev a_shape : Nat := 10
abbrev a_MOST_VARIANTS : Nat := 11
abbrev a_sizes : Nat := 12
abbrev a_kept : Nat := 13
abbrev a_MOST_FIELDS : Nat := 14
abbrev a_MOST_RECORDS : Nat := 15
abbrev a_MOST_VALUES : Nat := 16
abbrev a_forbidden : Nat := 17
abbrev a_required : Nat := 18
abbrev a_rules : Nat := 19
abbrev a_ANY : Nat := 20
abbrev a_NEVER : Nat := 21
abbrev a_ONE_OF : Nat := 22
abbrev a_LACKING : Nat := 23
end IR
namespace LW
open PySem L2 Wv IR
abbrev Rule := Option (List Int)
theorem succ_of {k n : Nat} (h : k + 1 ≤ n) : ∃ m, n = m + 1 ∧ k ≤ m := ⟨n - 1, by omega, by omega⟩
theorem size_ok {n : Nat} (h : n ≤ 100000) : n ≤ sizeLine := Nat.le_trans h (by decide)
theorem size_lt {n : Nat} (h : n ≤ 100000) : n < sizeLine := Nat.lt_of_le_of_lt h (by decide)
theorem at_map {α : Type} (f : α → D) {l : List α} {i : Nat} {a : α} (h : l[i]? = some a) : atI (l.map f) (i : Int) = some (f a) := atI_nat (by rw [List.getElem?_map, h] <;> rfl)
theorem c_is_integer {n : Nat} (hn : 1 ≤ n) (i : Int) (st : List Cl) : (prm pg true n).call n_is_integer [.int i] st = .ok (.fz (.bl true)) st := by
  obtain ⟨m, rfl, hm⟩ := succ_of hn
  rw [call_eq g_is_integer]
  simp [runF, Fn.bind, Fn.env, F_is_integer, Prm.isi]
theorem c_is_between {n : Nat} (hn : 2 ≤ n) (i lo hi : Int) (st : List Cl) : (prm pg true n).call n_is_between [.int i, .int lo, .int hi] st = .ok (.fz (.bl (decide (lo ≤ i) && decide (i ≤ hi)))) st := by
  obtain ⟨m, rfl, hm⟩ := succ_of hn
  rw [call_eq g_is_between]
  simp [runF, Fn.bind, Fn.env, F_is_between, c_is_integer (n := m) (by omega)]
  by_cases h : lo ≤ i <;> simp [h]
theorem c_is_outcome {n : Nat} (hn : 3 ≤ n) (i size : Int) (st : List Cl) : (prm pg true n).call n_is_outcome [.int i, .int size] st = .ok (.fz (.bl (decide (-1 ≤ i) && decide (i ≤ size - 1)))) st := by
  obtain ⟨m, rfl, hm⟩ := succ_of hn
  rw [call_eq g_is_outcome]
  simp [runF, Fn.bind, Fn.env, F_is_outcome, c_is_between (n := m) (by omega)]
def hmany (sh : List Int) : Int := sh.foldl (fun n s => n * (s + 1)) 1
structure OkSh (sh : List Int) : Prop where
  len : 1 ≤ sh.length ∧ sh.length ≤ 5
  sz : ∀ s ∈ sh, 1 ≤ s ∧ s ≤ 4
  few : hmany sh ≤ 256
theorem c_how_many {n : Nat} (hn : 1 ≤ n) (sh : List Int) (hs : ∀ s ∈ sh, 1 ≤ s ∧ s ≤ 4) (st : List Cl) : (prm pg true n).call n_how_many [eInts sh] st = .ok (.fz (.int (hmany sh))) st := by
  obtain ⟨m, rfl, hm⟩ := succ_of hn
  rw [call_eq g_how_many]
  simp [runF, Fn.bind, Fn.env, F_how_many]
  refine loop_inv D.int (fun rest env s => ∃ acc x, env = [some (.fz (eInts sh)), some (.fz (.int acc)), x] ∧ s = ⟨[], st⟩ ∧ (∀ y ∈ rest, 1 ≤ y ∧ y ≤ 4) ∧ rest.foldl (fun n s => n * (s + 1)) acc = hmany sh) (fun o => endOf (o.seq _) = _) _ _ _ ?_ ?_ ⟨1, none, rfl, rfl, hs, rfl⟩
  · rintro a rest env s ⟨acc, x, rfl, rfl, h1, h2⟩
    have ha := h1 a List.mem_cons_self
    have hmul : mulOk acc (a + 1) = true := by
      unfold mulOk
      rw [Bool.or_eq_true]
      exact .inr (by simp; omega)
    simp [hmul]
    exact ⟨fun y hy => h1 y (List.mem_cons_of_mem _ hy), h2⟩
  · rintro env s ⟨acc, x, rfl, rfl, _, h2⟩
    simp
    exact h2
theorem c_are_sizes {n : Nat} (hn : 3 ≤ n) {sh : List Int} (ok : OkSh sh) (st : List Cl) : (prm pg true n).call n_are_sizes [eInts sh] st = .ok (.fz (.bl true)) st := by
  obtain ⟨m, rfl, hm⟩ := succ_of hn
  rw [call_eq g_are_sizes]
  obtain ⟨h1, h2⟩ := ok.len
  have e1 : (1 : Int) ≤ sh.length := by omega
  have e2 : (sh.length : Int) ≤ 5 := by omega
  simp [runF, Fn.bind, Fn.env, F_are_sizes, Prm.isi, e1, e2]
  rw [turns_map D.int (fun s => D.bl (decide (1 ≤ s) && decide (s ≤ 4))) st sh (fun a ha acc hacc => by simp [c_is_between (n := m) (by omega), hacc]) (size_ok (by omega))]
  have hall : ((sh.map fun s => (decide (1 ≤ s) && decide (s ≤ 4))).all id) = true := by
    rw [List.all_eq_true]
    intro b hb
    obtain ⟨s, hs, rfl⟩ := List.mem_map.mp hb
    have := ok.sz s hs
    simp
    omega
  have hb : bls? (sh.map fun s => D.bl (decide (1 ≤ s) && decide (s ≤ 4))) = some (sh.map fun s => (decide (1 ≤ s) && decide (s ≤ 4))) := by
    have z := bls_map (sh.map fun s => (decide (1 ≤ s) && decide (s ≤ 4)))
    rwa [List.map_map] at z
  simp [hb, hall, c_how_many (n := m) (by omega) sh ok.sz, ok.few]
theorem c_need_shape {n : Nat} (hn : 4 ≤ n) {sh : List Int} (ok : OkSh sh) (st : List Cl) : (prm pg true n).call n_need_shape [eInts sh] st = .ok (.fz .non) st := by
  obtain ⟨m, rfl, hm⟩ := succ_of hn
  rw [call_eq g_need_shape]
  simp [runF, Fn.bind, Fn.env, F_need_shape, c_are_sizes (n := m) (by omega) ok]
theorem p62 : (2:Int)^62 = 4611686018427387904 := by rfl
theorem rng_nat (k : Nat) (h : k ≤ 1000) : rngD [.int k] = some ((List.range k).map fun (i : Nat) => D.int i) := by
  have e : -(2 ^ 62) ≤ (k : Int) ∧ (k : Int) ≤ 1000000 := by
    rw [p62]
    omega
  unfold rngD
  dsimp only
  rw [if_pos e]
  simp
theorem cut_tail (xs : List D) : cutD xs (some 1) none = xs.tail := by
  unfold cutD
  have e1 : HT.sIx xs.length xs.length none = xs.length := rfl
  rw [e1]
  cases xs with
  | nil => rfl
  | cons x r =>
    have e2 : HT.sIx (x :: r).length 0 (some 1) = 1 := by
      simp [HT.sIx]
    rw [e2]
    simp
theorem zip_two {α β : Type} (f : α → D) (g : β → D) (a : List α) (b : List β) : zipD [.tup (a.map f), .tup (b.map g)] = some ((a.zip b).map fun p => .tup [f p.1, g p.2]) := by
  show some (((a.map f).zip (b.map g)).map fun p => D.tup [p.1, p.2]) = _
  rw [List.zip_map, List.map_map] <;> rfl
theorem enu_map {α : Type} (f : α → D) (a : List α) : enuD (.tup (a.map f)) = some (a.zipIdx.map fun p => .tup [.int p.2, f p.1]) := by
  show some ((a.map f).zipIdx.map fun p => D.tup [.int p.2, p.1]) = _
  rw [List.zipIdx_map, List.map_map] <;> rfl
theorem enu_mapL {α : Type} (f : α → D) (a : List α) : enuD (.lst (a.map f)) = some (a.zipIdx.map fun p => .tup [.int p.2, f p.1]) := by
  show some ((a.map f).zipIdx.map fun p => D.tup [.int p.2, p.1]) = _
  rw [List.zipIdx_map, List.map_map] <;> rfl
theorem bls_of {α : Type} (f : α → Bool) (xs : List α) : bls? (xs.map fun x => D.bl (f x)) = some (xs.map f) := by
  have z := bls_map (xs.map f)
  rwa [List.map_map] at z
theorem all_true {α : Type} (f : α → Bool) (xs : List α) (h : ∀ x ∈ xs, f x = true) : (xs.map f).all id = true := by
  rw [List.all_eq_true]
  intro b hb
  obtain ⟨s, hs, rfl⟩ := List.mem_map.mp hb
  exact h s hs
def OkR (size : Int) : Option (List Int) → Prop
  | none => True
  | some l => (∀ v ∈ l, 0 ≤ v ∧ v ≤ size - 1) ∧ (∀ p ∈ l.zip l.tail, p.1 < p.2) ∧ l.length ≤ 4
theorem c_is_rule {n : Nat} (hn : 3 ≤ n) {r : Option (List Int)} {size : Int} (ok : OkR size r) (st : List Cl) : (prm pg true n).call n_is_rule [eRule r, .int size] st = .ok (.fz (.bl true)) st := by
  obtain ⟨m, rfl, hm⟩ := succ_of hn
  rw [call_eq g_is_rule]
  cases r with
  | none => simp [runF, Fn.bind, Fn.env, F_is_rule]
  | some l =>
    obtain ⟨h1, h2, h3⟩ := ok
    simp [runF, Fn.bind, Fn.env, F_is_rule, Prm.isi]
    rw [turns_map D.int (fun v => D.bl (decide (0 ≤ v) && decide (v ≤ size - 1))) st l (fun a ha acc hacc => by simp [c_is_between (n := m) (by omega), hacc]) (size_ok (by omega))]
    have hall := all_true (fun v => (decide (0 ≤ v) && decide (v ≤ size - 1))) l fun v hv => by
      have := h1 v hv
      simp
      omega
    simp [bls_of, hall, slcD, cut_tail]
    rw [← List.map_tail, zip_two]
    simp
    rw [turns_map (fun p : Int × Int => D.tup [.int p.1, .int p.2]) (fun p => D.bl (decide (p.1 < p.2))) st (l.zip l.tail) (fun a ha acc hacc => by simp [hacc]) (size_ok (by simp; omega))]
    have hall2 := all_true (fun p : Int × Int => decide (p.1 < p.2)) (l.zip l.tail) fun p hp => by
      simp [h2 p hp]
    simp [bls_of, hall2]
structure OkRs (sh : List Int) (rs : List (Option (List Int))) : Prop where
  len : rs.length = sh.length
  ok : ∀ p ∈ rs.zip sh, OkR p.2 p.1
theorem c_are_rules {n : Nat} (hn : 4 ≤ n) {rs : List (Option (List Int))} {sh : List Int} (ok : OkRs sh rs) (hl : sh.length ≤ 5) (st : List Cl) : (prm pg true n).call n_are_rules [eRules rs, eInts sh] st = .ok (.fz (.bl true)) st := by
  obtain ⟨m, rfl, hm⟩ := succ_of hn
  rw [call_eq g_are_rules]
  simp [runF, Fn.bind, Fn.env, F_are_rules, Prm.isi, ok.len, zip_two]
  rw [turns_map (fun p : Option (List Int) × Int => D.tup [eRule p.1, .int p.2]) (fun _ => D.bl true) st (rs.zip sh) (fun a ha acc hacc => by simp [hacc, c_is_rule (n := m) (by omega) (ok.ok a ha)]) (size_ok (by simp; omega))]
  have hall := all_true (fun _ : Option (List Int) × Int => true) (rs.zip sh) fun _ _ => rfl
  simp [bls_of (fun _ : Option (List Int) × Int => true), hall]
def eVar (sh : List Int) (rs : List (Option (List Int))) : D := .ins k_Variant [a_sizes, a_kept] [eInts sh, eRules rs]
theorem m_Variant {n : Nat} (hn : 5 ≤ n) {rs : List (Option (List Int))} {sh : List Int} (oks : OkSh sh) (ok : OkRs sh rs) (st : List Cl) : (prm pg true n).make k_Variant [eInts sh, eRules rs] st = .ok (.fz (eVar sh rs)) st := by
  obtain ⟨m, rfl, hm⟩ := succ_of hn
  rw [make_eq gk_Variant (f := F_Variant_init) g_Variant_init]
  first
    | (simp [runI, Fn.bind, F_Variant_init, c_need_shape (n := m) (by omega) oks, c_are_rules (n := m) (by omega) ok oks.len.2, endI, putAll, putFld, putFs, fo_Variant_sizes, fo_Variant_kept, c1, eVar, sizeLine]; done)
    | (simp [runI, Fn.bind, F_Variant_init, c_need_shape (n := m) (by omega) oks, c_are_rules (n := m) (by omega) ok oks.len.2, endI, putAll, putFld, putFs, fo_Variant_sizes, fo_Variant_kept, c0, eVar, sizeLine]; done)
end LW
namespace LW
open PySem L2 Wv IR
theorem c_Variant_shape {n : Nat} (hn : 1 ≤ n) (rs : List (Option (List Int))) (sh : List Int) (st : List Cl) : (prm pg true n).call n_Variant_shape [eVar sh rs] st = .ok (.fz (eInts sh)) st := by
  obtain ⟨m, rfl, hm⟩ := succ_of hn
  rw [call_eq g_Variant_shape]
  simp [runF, Fn.bind, Fn.env, F_Variant_shape, eVar, clsOf, pn_Variant_sizes, fo_Variant_sizes, List.lookup]
theorem c_Variant_rules {n : Nat} (hn : 1 ≤ n) (rs : List (Option (List Int))) (sh : List Int) (st : List Cl) : (prm pg true n).call n_Variant_rules [eVar sh rs] st = .ok (.fz (eRules rs)) st := by
  obtain ⟨m, rfl, hm⟩ := succ_of hn
  rw [call_eq g_Variant_rules]
  simp [runF, Fn.bind, Fn.env, F_Variant_rules, eVar, clsOf, pn_Variant_kept, fo_Variant_kept, List.lookup, a_sizes]
/-- v.rules, v.shape -/
theorem var_rules {n : Nat} (hn : 1 ≤ n) (rs : List (Option (List Int))) (sh : List Int) (s : FS) : kFld1 (prm pg true n) a_rules (.fz (eVar sh rs)) s = .ok (.fz (eRules rs)) s := by
  have z := c_Variant_rules hn rs sh s.st
  simp [eVar, clsOf, po_Variant_rules] at z ⊢
  simp [z]
theorem var_shape {n : Nat} (hn : 1 ≤ n) (rs : List (Option (List Int))) (sh : List Int) (s : FS) : kFld1 (prm pg true n) a_shape (.fz (eVar sh rs)) s = .ok (.fz (eInts sh)) s := by
  have z := c_Variant_shape hn rs sh s.st
  simp [eVar, clsOf, po_Variant_shape] at z ⊢
  simp [z]
theorem isi_ins {n : Nat} (c : Nat) (fs : List Nat) (vs : List D) (st : List Cl) (t : Ty) {k : Cla} (hk : pg.cls[c]? = some k) : (prm pg true n).isi st (.ins c fs vs) t = some (t.has k) := by
  show (clsOf (.ins c fs vs) st).bind (fun q => ((prm pg true n).cs[q.1]?).map fun k => t.has k) = _
  rw [prm_csE]
  show (pg.cls[c]?).map (fun k => t.has k) = _
  rw [hk] <;> rfl
theorem isi_var {n : Nat} (rs : List (Option (List Int))) (sh : List Int) (s : FS) : kIsi1 (prm pg true n) (.own k_Variant) (.fz (eVar sh rs)) s = .ok (.fz (.bl true)) s := by
  have e := isi_ins (n := n) k_Variant [a_sizes, a_kept] [eInts sh, eRules rs] s.st (.own k_Variant) gk_Variant
  simp [eVar, e]
  rfl
theorem c_need_variant {n : Nat} (hn : 1 ≤ n) (rs : List (Option (List Int))) (sh : List Int) (st : List Cl) : (prm pg true n).call n_need_variant [eVar sh rs] st = .ok (.fz .non) st := by
  obtain ⟨m, rfl, hm⟩ := succ_of hn
  rw [call_eq g_need_variant]
  simp [runF, Fn.bind, Fn.env, F_need_variant, -kIsi1_ap, isi_var (n := m) rs sh]
def eSch (sh : List Int) (rows : List (List (Option (List Int)))) : D := .ins k_Schema [a_sizes, a_kept] [eInts sh, .tup (rows.map (eVar sh))]
theorem c_Schema_shape {n : Nat} (hn : 1 ≤ n) (rows : List (List (Option (List Int)))) (sh : List Int) (st : List Cl) : (prm pg true n).call n_Schema_shape [eSch sh rows] st = .ok (.fz (eInts sh)) st := by
  obtain ⟨m, rfl, hm⟩ := succ_of hn
  rw [call_eq g_Schema_shape]
  simp [runF, Fn.bind, Fn.env, F_Schema_shape, eSch, clsOf, pn_Schema_sizes, fo_Schema_sizes, List.lookup]
theorem sch_shape {n : Nat} (hn : 1 ≤ n) (rows : List (List (Option (List Int)))) (sh : List Int) (s : FS) : kFld1 (prm pg true n) a_shape (.fz (eSch sh rows)) s = .ok (.fz (eInts sh)) s := by
  have z := c_Schema_shape hn rows sh s.st
  simp [eSch, clsOf, po_Schema_shape] at z ⊢
  simp [z]
theorem c_need_like {n : Nat} (hn : 3 ≤ n) (rows : List (List (Option (List Int)))) (rs : List (Option (List Int))) (sh : List Int) (st : List Cl) : (prm pg true n).call n_need_like [eSch sh rows, eVar sh rs] st = .ok (.fz .non) st := by
  obtain ⟨m, rfl, hm⟩ := succ_of hn
  rw [call_eq g_need_like]
  simp [runF, Fn.bind, Fn.env, F_need_like, -kFld1_ap, var_shape (n := m) (by omega), sch_shape (n := m) (by omega), c_need_variant (n := m) (by omega)]
theorem m_Schema {n : Nat} (hn : 6 ≤ n) {rows : List (List (Option (List Int)))} {sh : List Int} (oks : OkSh sh) (h0 : rows ≠ []) (h6 : rows.length ≤ 6) (st : List Cl) : (prm pg true n).make k_Schema (eInts sh :: rows.map (eVar sh)) st = .ok (.fz (eSch sh rows)) st := by
  obtain ⟨m, rfl, hm⟩ := succ_of hn
  rw [make_eq gk_Schema (f := F_Schema_init) g_Schema_init]
  have e1 : rows.length + 2 ≤ 4000 := by omega
  have e2 : (rows.map (eVar sh)).isEmpty = false := by
    cases rows with
    | nil => exact absurd rfl h0
    | cons x r => rfl
  simp [runI, Fn.bind, F_Schema_init, c_need_shape (n := m) (by omega) oks, endI, putAll, putFld, putFs, c0, eSch, sizeLine, eqD_nil, e1, e2]
  rw [turns_map (eVar sh) (fun _ => D.bl true) st rows (fun a ha acc hacc => by
    have hacc : acc.length < 16777216 := hacc
    simp [hacc, -kIsi1_ap, isi_var (n := m), sizeLine]) (size_ok (by omega))]
  have b1 := bls_of (fun _ : List (Option (List Int)) => true) rows
  have b2 := all_true (fun _ : List (Option (List Int)) => true) rows fun _ _ => rfl
  simp [b1, b2]
  rw [turns_map (eVar sh) (fun _ => D.bl true) st rows (fun a ha acc hacc => by
    have hacc : acc.length < 16777216 := hacc
    simp [hacc, -kFld1_ap, var_shape (n := m) (by omega), sizeLine]) (size_ok (by omega))]
  have e6 : ¬ ((6 : Int) < rows.length) := by omega
  simp [b1, b2, e6, putAll, putFld, putFs, fo_Schema_sizes, fo_Schema_kept, sizeLine]
theorem c_Schema_len {n : Nat} (hn : 1 ≤ n) (rows : List (List (Option (List Int)))) (sh : List Int) (st : List Cl) : (prm pg true n).call n_Schema_len [eSch sh rows] st = .ok (.fz (.int rows.length)) st := by
  obtain ⟨m, rfl, hm⟩ := succ_of hn
  rw [call_eq g_Schema_len]
  simp [runF, Fn.bind, Fn.env, F_Schema_len, eSch, clsOf, pn_Schema_kept, fo_Schema_kept, List.lookup, a_sizes]
theorem sch_len {n : Nat} (hn : 1 ≤ n) {rows : List (List (Option (List Int)))} (h6 : rows.length ≤ 6) (sh : List Int) (s : FS) : kBi1 (prm pg true n) .len [.fz (eSch sh rows)] s = .ok (.fz (.int rows.length)) s := by
  have e1 : (prm pg true n).meth (eSch sh rows) mLen [] s = ((prm pg true n).call n_Schema_len [eSch sh rows] s.st).out s.ol := by
    simp only [Prm.meth, eSch, clsOf, mo_Schema_len]
  show ((prm pg true n).meth (eSch sh rows) mLen [] s).bnd lenO = _
  rw [e1, c_Schema_len hn, ocOut_fz, bnd_ok]
  rw [lenO_few (by omega) (by omega)]
theorem c_Schema_add {n : Nat} (hn : 7 ≤ n) {rows : List (List (Option (List Int)))} {rs : List (Option (List Int))} {sh : List Int} (oks : OkSh sh) (h6 : rows.length < 6) (st : List Cl) : (prm pg true n).call n_Schema_add [eSch sh rows, eVar sh rs] st = .ok (.fz (eSch sh (rows ++ [rs]))) st := by
  obtain ⟨m, rfl, hm⟩ := succ_of hn
  rw [call_eq g_Schema_add]
  have z := m_Schema (n := m) (by omega) (rows := rows ++ [rs]) oks (by simp) (by simp; omega) st
  have nl := c_need_like (n := m) (by omega) rows rs sh st
  simp only [eSch] at nl z ⊢
  simp [runF, Fn.bind, Fn.env, F_Schema_add, clsOf, pn_Schema_kept, fo_Schema_kept, pn_Schema_sizes, fo_Schema_sizes, List.lookup, a_sizes, nl] at z ⊢
  simp [z]
/-- schema + variant -/
theorem sch_add {n : Nat} (hn : 7 ≤ n) {rows : List (List (Option (List Int)))} {rs : List (Option (List Int))} {sh : List Int} (oks : OkSh sh) (h6 : rows.length < 6) (s : FS) : kBin2 (prm pg true n) .add (.fz (eSch sh rows)) (.fz (eVar sh rs)) s = .ok (.fz (eSch sh (rows ++ [rs]))) s := by
  have z := c_Schema_add hn (rs := rs) oks h6 s.st
  simp only [eSch, eVar] at z ⊢
  have o := othOk_ins (g := true) (n := n) (c := k_Schema) (m := mAdd) (fs := [a_sizes, a_kept]) (vs := [eInts sh, eRules rs]) (st := s.st) gk_Variant
  have o2 : (decide (k_Variant = k_Schema) || c1.nn.contains mAdd) = true := by decide
  rw [o2] at o
  simp [binM, Prm.binO, clsOf, o, Prm.meth, mo_Schema_add, z]
end LW
namespace Wv
open PySem L2
def sAsq2 (i : Nat) (is : List Nat) (env : Ev) : D × FS → SO := fun p => needS (asgT (.q i is) p.1 env) (sAst3 p.2)
@[simp] theorem sAsq2_ap (i : Nat) (is : List Nat) (env : Ev) (p : D × FS) : sAsq2 i is env p = needS (asgT (.q i is) p.1 env) (sAst3 p.2) := Eq.trans rfl rfl
def sAsq1 (i : Nat) (is : List Nat) (env : Ev) : R → FS → SO := fun r s => needS (Wv.fz s r) (sAsq2 i is env)
@[simp] theorem sAsq1_ap (i : Nat) (is : List Nat) (env : Ev) (r : R) (s : FS) : sAsq1 i is env r s = needS (Wv.fz s r) (sAsq2 i is env) := Eq.trans rfl rfl
@[simp] theorem ex_asgQ (P : Prm) (env : Ev) (s : FS) (i : Nat) (is : List Nat) (e : E) : ex P (.asg (.q i is) e) env s = (ev P e env s).st env (sAsq1 i is env) := Eq.trans rfl rfl
@[simp] theorem asgT_qq (i : Nat) (is : List Nat) (d : D) (ds : List D) (env : Ev) : asgT (.q i is) (.tup [d, .tup ds]) env = if is.length = ds.length then some ((is.zip ds).foldl (fun e p => e.set p.1 (some (.fz p.2))) (env.set i (some (.fz d)))) else none := Eq.trans rfl rfl
end Wv
namespace Wv
open PySem L2
section
variable {P : Prm} {env : Ev} {s : FS}
@[simp] theorem binD_mulL (a : List D) (b : Int) : binD .mul (.lst a) (.int b) = if 0 ≤ b ∧ b < 2 ^ 63 ∧ a.length * b.toNat ≤ sizeLine then some (.l (List.replicate b.toNat a).flatten) else none := Eq.trans rfl rfl
def kRpo2 (P : Prm) : D × FS → Out R := fun q => (P.meth q.1 mRepr [] q.2).bnd strO
@[simp] theorem kRpo2_ap (P : Prm) (q : D × FS) : kRpo2 P q = (P.meth q.1 mRepr [] q.2).bnd strO := Eq.trans rfl rfl
def kRpo1 (P : Prm) : R → FS → Out R := fun x s => need (Wv.fz s x) (kRpo2 P)
@[simp] theorem kRpo1_ap (P : Prm) (x : R) (s : FS) : kRpo1 P x s = need (Wv.fz s x) (kRpo2 P) := Eq.trans rfl rfl
@[simp] theorem ev_rpo (P : Prm) (env : Ev) (s : FS) (a : E) : ev P (.rpo a) env s = (ev P a env s).bnd (kRpo1 P) := Eq.trans rfl rfl
@[simp] theorem strO_str (r : Str) (s : FS) : strO (.fz (.str r)) s = .ok (.fz (.str r)) s := Eq.trans rfl rfl
@[simp] theorem ev_fmt (P : Prm) (env : Ev) (s : FS) (a : E) : ev P (.fmt a) env s = (ev P a env s).bnd fmtO := Eq.trans rfl rfl
@[simp] theorem fmtO_str (r : Str) (s : FS) : fmtO (.fz (.str r)) s = if r.length ≤ sizeLine then .ok (.fz (.str r)) s else .bad := Eq.trans rfl rfl
@[simp] theorem fmtO_int (i : Int) (s : FS) : fmtO (.fz (.int i)) s = if i.natAbs.log2 < 1920 then .ok (.fz (.str (toString i))) s else .bad := Eq.trans rfl rfl
@[simp] theorem ev_fst (P : Prm) (env : Ev) (s : FS) (es : E) : ev P (.fst es) env s = evJ P es Str.empty env s := Eq.trans rfl rfl
@[simp] theorem evJ_nil (P : Prm) (env : Ev) (s : FS) (acc : Str) : evJ P .nil acc env s = .ok (.fz (.str acc)) s := Eq.trans rfl rfl
def kJ2 (P : Prm) (r : E) (env : Ev) (s : FS) : Str → Out R := fun t => evJ P r t env s
@[simp] theorem kJ2_ap (P : Prm) (r : E) (env : Ev) (s : FS) (t : Str) : kJ2 P r env s t = evJ P r t env s := Eq.trans rfl rfl
def kJ1 (P : Prm) (r : E) (acc : Str) (env : Ev) : R → FS → Out R := fun x s => need (catO acc x) (kJ2 P r env s)
@[simp] theorem kJ1_ap (P : Prm) (r : E) (acc : Str) (env : Ev) (x : R) (s : FS) : kJ1 P r acc env x s = need (catO acc x) (kJ2 P r env s) := Eq.trans rfl rfl
@[simp] theorem evJ_cons (P : Prm) (env : Ev) (s : FS) (acc : Str) (a r : E) : evJ P (.cons a r) acc env s = (ev P a env s).bnd (kJ1 P r acc env) := Eq.trans rfl rfl
@[simp] theorem catO_str (acc y : Str) : catO acc (.fz (.str y)) = if (acc ++ y).length ≤ sizeLine then some (acc ++ y) else none := Eq.trans rfl rfl
@[simp] theorem lenS_str (rs : List R) : lenS .str rs = none := Eq.trans rfl rfl
@[simp] theorem bi_str (ds : List D) : P.bi .str ds s = need (biD .str ds) (okRs s) := Eq.trans rfl rfl
@[simp] theorem biD_str (i : Int) : biD .str [.int i] = if i.natAbs.log2 < 1920 then some (.t (.str (toString i))) else none := Eq.trans rfl rfl
@[simp] theorem biD_max1 (xs : List D) : biD .max1 [.lst xs] = (ints? xs).bind fun ns => (maxL ns).map fun m => .t (.int m) := Eq.trans rfl rfl
/-- list(o.m()) -/
def kLsg4 (s : FS) : List D × List Cl → Out R := fun r => (Rs.l r.1).out ⟨s.ol, r.2⟩
@[simp] theorem kLsg4_ap (s : FS) (r : List D × List Cl) : kLsg4 s r = (Rs.l r.1).out ⟨s.ol, r.2⟩ := Eq.trans rfl rfl
def kLsg3 (P : Prm) (q : D × FS) : Nat → Out R := fun i => need (P.gens i [q.1] q.2.st) (kLsg4 q.2)
@[simp] theorem kLsg3_ap (P : Prm) (q : D × FS) (i : Nat) : kLsg3 P q i = need (P.gens i [q.1] q.2.st) (kLsg4 q.2) := Eq.trans rfl rfl
def kLsg2 (P : Prm) (c m : Nat) (q : D × FS) : Nat × List Nat × List D → Out R := fun k => cnd (decide (k.1 = c ∧ k.2.1.contains m = false)) (need (P.gmOf c m) (kLsg3 P q)) .bad
@[simp] theorem kLsg2_ap (P : Prm) (c m : Nat) (q : D × FS) (k : Nat × List Nat × List D) : kLsg2 P c m q k = cnd (decide (k.1 = c ∧ k.2.1.contains m = false)) (need (P.gmOf c m) (kLsg3 P q)) .bad := Eq.trans rfl rfl
def kLsg1 (P : Prm) (c m : Nat) : D × FS → Out R := fun q => need (clsOf q.1 q.2.st) (kLsg2 P c m q)
@[simp] theorem kLsg1_ap (P : Prm) (c m : Nat) (q : D × FS) : kLsg1 P c m q = need (clsOf q.1 q.2.st) (kLsg2 P c m q) := Eq.trans rfl rfl
def kLsg0 (P : Prm) (c m : Nat) : R → FS → Out R := fun x s => need (Wv.fz s x) (kLsg1 P c m)
@[simp] theorem kLsg0_ap (P : Prm) (c m : Nat) (x : R) (s : FS) : kLsg0 P c m x s = need (Wv.fz s x) (kLsg1 P c m) := Eq.trans rfl rfl
@[simp] theorem ev_lsg (P : Prm) (env : Ev) (s : FS) (c m : Nat) (o : E) : ev P (.lsg c o m) env s = (ev P o env s).bnd (kLsg0 P c m) := by
  show ((ev P o env s).bnd fun x s => need (Wv.fz s x) fun q => need (clsOf q.1 q.2.st) fun k => if k.1 = c ∧ k.2.1.contains m = false then need (P.gmOf c m) fun i => need (P.gens i [q.1] q.2.st) fun r => (Rs.l r.1).out ⟨q.2.ol, r.2⟩ else .bad) = _
  refine bnd_ext fun x s => need_ext fun q => need_ext fun k => ?_
  exact cnd_iteD _ _ _
end
/-- a generator's loop: the items that pass the test -/
theorem loopG_filter {P : Prm} {α : Type} (e : α → D) (p : α → Bool) {v : Nat} {tt el : E} {s : FS} : ∀ (xs : List α) (env : Ev) (acc : List D), (∀ a ∈ xs, ev P tt (env.set v (some (.fz (e a)))) s = .ok (.fz (.bl (p a))) s) → (∀ a ∈ xs, ev P el (env.set v (some (.fz (e a)))) s = .ok (.fz (e a)) s) → acc.length + xs.length ≤ 1000000 →
    loopG P (.n v) tt el (xs.map e) env s acc = some (acc ++ (xs.filter p).map e, s)
  | [], env, acc, _, _, _ => by simp [loopG]
  | a :: xs, env, acc, h, h2, hl => by
    rw [List.length_cons] at hl
    have z := h a List.mem_cons_self
    have z2 := h2 a List.mem_cons_self
    have ih := fun acc' hl => loopG_filter e p xs (env.set v (some (.fz (e a)))) acc' (fun b hb => by rw [List.set_set]; exact h b (List.mem_cons_of_mem _ hb)) (fun b hb => by rw [List.set_set]; exact h2 b (List.mem_cons_of_mem _ hb)) hl
    show ((asgT (.n v) (e a) env).bind fun env => match ev P tt env s with
      | .ok r s1 => (match bl? r with
        | some true => (match ev P el env s1 with
          | .ok r2 s2 => (Wv.fz s2 r2).bind fun p => if acc.length < 1000000 then loopG P (.n v) tt el (xs.map e) env p.2 (acc ++ [p.1]) else none
          | _ => none)
        | some false => loopG P (.n v) tt el (xs.map e) env s1 acc
        | none => none)
      | _ => none) = _
    rw [asgT_n, Option.bind_some, z]
    cases hp : p a with
    | true =>
      show (match ev P el (env.set v (some (.fz (e a)))) s with
          | .ok r2 s2 => (Wv.fz s2 r2).bind fun p => if acc.length < 1000000 then loopG P (.n v) tt el (xs.map e) (env.set v (some (.fz (e a)))) p.2 (acc ++ [p.1]) else none
          | _ => none) = _
      rw [z2]
      show ((Wv.fz s (.fz (e a))).bind fun p => if acc.length < 1000000 then loopG P (.n v) tt el (xs.map e) (env.set v (some (.fz (e a)))) p.2 (acc ++ [p.1]) else none) = _
      rw [fz_fz, Option.bind_some, if_pos (by omega), ih _ (by rw [List.length_append, List.length_singleton]; omega)]
      simp [hp]
    | false =>
      show loopG P (.n v) tt el (xs.map e) (env.set v (some (.fz (e a)))) s acc = _
      rw [ih _ (by omega)]
      simp [hp]
theorem gens_eq {p : Pg} {g : Bool} {n i : Nat} {q : Gn} (h : p.gens[i]? = some q) (ds : List D) (st : List Cl) : (prm p g (n + 1)).gens i ds st = runG (prm p false n) q ds st := by
  show (match p.gens[i]? with
    | some q => runG (prm p false n) q ds st
    | none => none) = _
  rw [h]
end Wv
namespace LW
open PySem L2 Wv IR
theorem strs_map {α : Type} (f : α → Str) (xs : List α) : strs? (xs.map fun x => D.str (f x)) = some (xs.map f) := by
  induction xs with
  | nil => rfl
  | cons a r ih =>
    show (strs? (r.map fun x => D.str (f x))).map (f a :: ·) = _
    rw [ih] <;> rfl
theorem join_len (a : Str) (ss : List Str) : (Txt.join a ss).length ≤ (ss.map (·.length)).sum + ss.length * a.length := by
  unfold Txt.join
  rw [StrLaws.glued_eq_join]
  exact StrLaws.join_length_le a ss
theorem sum_len {n : Nat} : ∀ {ss : List Str}, (∀ x ∈ ss, x.length ≤ n) → (ss.map (·.length)).sum ≤ ss.length * n
  | [], _ => by simp
  | a :: r, h => by
    have h1 := h a List.mem_cons_self
    have h2 := sum_len (ss := r) fun x hx => h x (List.mem_cons_of_mem _ hx)
    rw [List.map_cons, List.sum_cons, List.length_cons, Nat.succ_mul]
    omega
def numI (i : Int) : Str := toString i
theorem numI_len {i : Int} (h0 : -2 ≤ i) (h1 : i ≤ 29) : (numI i).length ≤ 2 := (int_len i h0 h1).1
theorem str_numI {i : Int} (h0 : -2 ≤ i) (h1 : i ≤ 29) : biD .str [.int i] = some (.t (.str (numI i))) := by
  rw [biD_str, if_pos (int_len i h0 h1).2]
  rfl
def wordsS (l : List Int) : Str := Txt.join (" " : Str) (l.map numI)
/-- the line of a rule -/
def lineS : Rule → Str
  | none => ("any" : Str) ++ ("\n" : Str)
  | some l => (if l.isEmpty = true then ("never" : Str) else ("one of " : Str) ++ wordsS l) ++ ("\n" : Str)
theorem words_len {l : List Int} (h : ∀ v ∈ l, 0 ≤ v ∧ v ≤ 29) (hl : l.length ≤ 4) : (wordsS l).length ≤ 12 := by
  have z := join_len (" " : Str) (l.map numI)
  have y := sum_len (n := 2) (ss := l.map numI) fun x hx => by
    obtain ⟨v, hv, rfl⟩ := List.mem_map.mp hx
    have := h v hv
    exact numI_len (by omega) (by omega)
  have e : (" " : Str).length = 1 := rfl
  rw [List.length_map, e] at z
  rw [List.length_map] at y
  unfold wordsS
  omega
theorem str_app_len (a b : Str) : (a ++ b).length = a.length + b.length := Str.length_append a b
theorem line_len {size : Int} {r : Rule} (ok : OkR size r) (hs : size ≤ 29) : (lineS r).length ≤ 30 := by
  cases r with
  | none => exact (show (("any" : Str) ++ ("\n" : Str)).length ≤ 30 by decide +kernel)
  | some l =>
    have w := words_len (l := l) (fun v hv => by have := ok.1 v hv; omega) ok.2.2
    show ((if l.isEmpty = true then ("never" : Str) else ("one of " : Str) ++ wordsS l) ++ ("\n" : Str)).length ≤ 30
    rw [str_app_len]
    have e1 : ("\n" : Str).length = 1 := rfl
    have e2 : ("never" : Str).length = 5 := rfl
    have e3 : ("one of " : Str).length = 7 := rfl
    split
    · omega
    · rw [str_app_len]
      omega
theorem bmD_join {a : Str} {xs : List D} {ss : List Str} (h : strs? xs = some ss) (hl : (ss.map (·.length)).sum + ss.length * a.length ≤ 16777216) : bmD .join (.str a) (.lst xs) = some (.t (.str (Txt.join a ss))) := by
  show (strs? xs).bind _ = _
  rw [h]
  exact if_pos hl
@[simp] theorem bmTy_join (a : Str) : bmTy .join (.str a) = true := Eq.trans rfl rfl
theorem c_line_of {n : Nat} (hn : 1 ≤ n) {size : Int} {r : Rule} (ok : OkR size r) (hs : size ≤ 29) (st : List Cl) : (prm pg true n).call n_line_of [eRule r] st = .ok (.fz (.str (lineS r))) st := by
  obtain ⟨m, rfl, hm⟩ := succ_of hn
  rw [call_eq g_line_of]
  have e1 : ("\n" : Str).length = 1 := rfl
  have e2 : ("never" : Str).length = 5 := rfl
  have e3 : ("one of " : Str).length = 7 := rfl
  have e4 : ("any" : Str).length = 3 := rfl
  have e5 : (" " : Str).length = 1 := rfl
  cases r with
  | none => simp [runF, Fn.bind, Fn.env, F_line_of, lineS, e1, e4, sizeLine]
  | some l =>
    cases he : l.isEmpty with
    | true =>
      obtain rfl : l = [] := List.isEmpty_iff.mp he
      simp [runF, Fn.bind, Fn.env, F_line_of, lineS, eqD_nil, e1, e2, sizeLine]
    | false =>
      have lv : ∀ v ∈ l, 0 ≤ v ∧ v ≤ 29 := fun v hv => by have := ok.1 v hv; omega
      have l4 := ok.2.2
      have w := words_len lv l4
      have y := sum_len (n := 2) (ss := l.map numI) fun x hx => by
        obtain ⟨v, hv, rfl⟩ := List.mem_map.mp hx
        have := lv v hv
        exact numI_len (by omega) (by omega)
      rw [List.length_map] at y
      simp [runF, Fn.bind, Fn.env, F_line_of, lineS, eqD_nil, he, sizeLine, -List.isEmpty_iff]
      rw [turns_map D.int (fun v => D.str (numI v)) st l (fun v hv acc hacc => by
        have := lv v hv
        simp [str_numI (i := v) (by omega) (by omega), hacc, -biD_str]) (size_ok (by omega))]
      have j := bmD_join (a := (" " : Str)) (strs_map numI l) (by rw [List.length_map, e5]; omega)
      have s1 : 7 + (wordsS l).length ≤ 16777216 := by omega
      have s2 : 7 + (wordsS l).length + 1 ≤ 16777216 := by omega
      unfold wordsS at s1 s2
      simp [j, sizeLine, str_app_len, e1, e3, s1, s2, wordsS]
/-- the text of a variant -/
def textS (rs : List Rule) : Str := Txt.join ("" : Str) (rs.map lineS)
theorem OkRs.at {sh : List Int} {rs : List Rule} (ok : OkRs sh rs) {r : Rule} (h : r ∈ rs) : ∃ size ∈ sh, OkR size r := by
  obtain ⟨i, hi, rfl⟩ := List.getElem_of_mem h
  have hj : i < sh.length := by rw [← ok.1]; exact hi
  refine ⟨sh[i], List.getElem_mem hj, ?_⟩
  have z : (rs[i], sh[i]) ∈ rs.zip sh := by
    rw [List.mem_iff_getElem]
    exact ⟨i, by rw [List.length_zip]; omega, by simp⟩
  exact ok.2 _ z
theorem text_len {sh : List Int} {rs : List Rule} (oks : OkSh sh) (ok : OkRs sh rs) : (textS rs).length ≤ 150 := by
  have l5 := oks.len
  have z := join_len ("" : Str) (rs.map lineS)
  have y := sum_len (n := 30) (ss := rs.map lineS) fun x hx => by
    obtain ⟨r, hr, rfl⟩ := List.mem_map.mp hx
    obtain ⟨size, hs, okr⟩ := ok.at hr
    have := oks.sz size hs
    exact line_len okr (by omega)
  have e : ("" : Str).length = 0 := rfl
  rw [List.length_map, e] at z
  rw [List.length_map] at y
  have := ok.1
  unfold textS
  omega
theorem c_Variant_text {n : Nat} (hn : 2 ≤ n) {sh : List Int} {rs : List Rule} (oks : OkSh sh) (ok : OkRs sh rs) (st : List Cl) : (prm pg true n).call n_Variant_text [eVar sh rs] st = .ok (.fz (.str (textS rs))) st := by
  obtain ⟨m, rfl, hm⟩ := succ_of hn
  rw [call_eq g_Variant_text]
  have l5 := oks.len
  have lr := ok.1
  simp [runF, Fn.bind, Fn.env, F_Variant_text, eVar, clsOf, pn_Variant_kept, fo_Variant_kept, List.lookup, a_sizes]
  rw [turns_map eRule (fun r => D.str (lineS r)) st rs (fun r hr acc hacc => by
    obtain ⟨size, hs, okr⟩ := ok.at hr
    have := oks.sz size hs
    simp [c_line_of (n := m) (by omega) okr (show size ≤ 29 by omega), hacc]) (size_ok (by omega))]
  have y := sum_len (n := 30) (ss := rs.map lineS) fun x hx => by
    obtain ⟨r, hr, rfl⟩ := List.mem_map.mp hx
    obtain ⟨size, hs, okr⟩ := ok.at hr
    have := oks.sz size hs
    exact line_len okr (by omega)
  have e : ("" : Str).length = 0 := rfl
  rw [List.length_map] at y
  have j := bmD_join (a := ("" : Str)) (strs_map lineS rs) (by rw [e]; omega)
  simp [j, textS]
end LW
namespace Wv
open PySem L2
@[simp] theorem lst?_lst (xs : List D) : lst? (.lst xs) = some xs := Eq.trans rfl rfl
def kOrl3 (P : Prm) (b : E) (env : Ev) (x : R) (s : FS) : List D → Out R := fun xs => cnd xs.isEmpty (ev P b env s) (.ok x s)
@[simp] theorem kOrl3_ap (P : Prm) (b : E) (env : Ev) (x : R) (s : FS) (xs : List D) : kOrl3 P b env x s xs = cnd xs.isEmpty (ev P b env s) (.ok x s) := Eq.trans rfl rfl
def kOrl2 (P : Prm) (b : E) (env : Ev) (x : R) (s : FS) : D → Out R := fun d => need (lst? d) (kOrl3 P b env x s)
@[simp] theorem kOrl2_ap (P : Prm) (b : E) (env : Ev) (x : R) (s : FS) (d : D) : kOrl2 P b env x s d = need (lst? d) (kOrl3 P b env x s) := Eq.trans rfl rfl
def kOrl1 (P : Prm) (b : E) (env : Ev) : R → FS → Out R := fun x s => need (dv s x) (kOrl2 P b env x s)
@[simp] theorem kOrl1_ap (P : Prm) (b : E) (env : Ev) (x : R) (s : FS) : kOrl1 P b env x s = need (dv s x) (kOrl2 P b env x s) := Eq.trans rfl rfl
@[simp] theorem ev_orl (P : Prm) (env : Ev) (s : FS) (a b : E) : ev P (.orl a b) env s = (ev P a env s).bnd (kOrl1 P b env) := by
  show ((ev P a env s).bnd fun x s => need (dv s x) fun d => need (lst? d) fun xs => if xs.isEmpty = true then ev P b env s else .ok x s) = _
  exact bnd_ext fun x s => need_ext fun d => need_ext fun xs => cnd_ite _ _ _
def kGix4 (P : Prm) (q0 : D × FS) : D × FS → Out R := fun q1 => P.meth q0.1 mIx [q1.1] q1.2
@[simp] theorem kGix4_ap (P : Prm) (q0 q1 : D × FS) : kGix4 P q0 q1 = P.meth q0.1 mIx [q1.1] q1.2 := Eq.trans rfl rfl
def kGix3 (P : Prm) (y : R) : D × FS → Out R := fun q0 => need (Wv.fz q0.2 y) (kGix4 P q0)
@[simp] theorem kGix3_ap (P : Prm) (y : R) (q0 : D × FS) : kGix3 P y q0 = need (Wv.fz q0.2 y) (kGix4 P q0) := Eq.trans rfl rfl
def kGix2 (P : Prm) (x : R) : R → FS → Out R := fun y s => need (Wv.fz s x) (kGix3 P y)
@[simp] theorem kGix2_ap (P : Prm) (x y : R) (s : FS) : kGix2 P x y s = need (Wv.fz s x) (kGix3 P y) := Eq.trans rfl rfl
def kGix1 (P : Prm) (b : E) (env : Ev) : R → FS → Out R := fun x s => (ev P b env s).bnd (kGix2 P x)
@[simp] theorem kGix1_ap (P : Prm) (b : E) (env : Ev) (x : R) (s : FS) : kGix1 P b env x s = (ev P b env s).bnd (kGix2 P x) := Eq.trans rfl rfl
@[simp] theorem ev_gix (P : Prm) (env : Ev) (s : FS) (a b : E) : ev P (.gix a b) env s = (ev P a env s).bnd (kGix1 P b env) := Eq.trans rfl rfl
def kOop4 (P : Prm) (q : Ob) (q0 : D × FS) : D × FS → Out R := fun q1 => P.own2 q q0.1 q1.1 q1.2
@[simp] theorem kOop4_ap (P : Prm) (q : Ob) (q0 q1 : D × FS) : kOop4 P q q0 q1 = P.own2 q q0.1 q1.1 q1.2 := Eq.trans rfl rfl
def kOop3 (P : Prm) (q : Ob) (y : R) : D × FS → Out R := fun q0 => need (Wv.fz q0.2 y) (kOop4 P q q0)
@[simp] theorem kOop3_ap (P : Prm) (q : Ob) (y : R) (q0 : D × FS) : kOop3 P q y q0 = need (Wv.fz q0.2 y) (kOop4 P q q0) := Eq.trans rfl rfl
def kOop2 (P : Prm) (q : Ob) (x : R) : R → FS → Out R := fun y s => need (Wv.fz s x) (kOop3 P q y)
@[simp] theorem kOop2_ap (P : Prm) (q : Ob) (x y : R) (s : FS) : kOop2 P q x y s = need (Wv.fz s x) (kOop3 P q y) := Eq.trans rfl rfl
def kOop1 (P : Prm) (q : Ob) (b : E) (env : Ev) : R → FS → Out R := fun x s => (ev P b env s).bnd (kOop2 P q x)
@[simp] theorem kOop1_ap (P : Prm) (q : Ob) (b : E) (env : Ev) (x : R) (s : FS) : kOop1 P q b env x s = (ev P b env s).bnd (kOop2 P q x) := Eq.trans rfl rfl
@[simp] theorem ev_oop (P : Prm) (env : Ev) (s : FS) (q : Ob) (a b : E) : ev P (.oop q a b) env s = (ev P a env s).bnd (kOop1 P q b env) := Eq.trans rfl rfl
@[simp] theorem lenS_sum (rs : List R) : lenS .sum rs = none := Eq.trans rfl rfl
@[simp] theorem bi_sum {P : Prm} {s : FS} (ds : List D) : P.bi .sum ds s = need (biD .sum ds) (okRs s) := Eq.trans rfl rfl
@[simp] theorem biD_sum (xs : List D) : biD .sum [.lst xs] = (ints? xs).map fun ns => .t (.int ns.sum) := Eq.trans rfl rfl
end Wv
namespace LW
open PySem L2 Wv IR
theorem vfld_sizes {n : Nat} (sh : List Int) (rs : List Rule) (s : FS) : kFld1 (prm pg true n) a_sizes (.fz (eVar sh rs)) s = .ok (.fz (eInts sh)) s := by
  simp [eVar, clsOf, pn_Variant_sizes, fo_Variant_sizes, List.lookup]
theorem vfld_kept {n : Nat} (sh : List Int) (rs : List Rule) (s : FS) : kFld1 (prm pg true n) a_kept (.fz (eVar sh rs)) s = .ok (.fz (eRules rs)) s := by
  simp [eVar, clsOf, pn_Variant_kept, fo_Variant_kept, List.lookup, a_sizes, a_kept]
theorem c_Variant_eq {n : Nat} (hn : 1 ≤ n) (sh sh2 : List Int) (rs rs2 : List Rule) (st : List Cl) : (prm pg true n).call n_Variant_eq [eVar sh rs, eVar sh2 rs2] st = .ok (.fz (.bl (sh == sh2 && rs == rs2))) st := by
  obtain ⟨m, rfl, hm⟩ := succ_of hn
  rw [call_eq g_Variant_eq]
  cases h1 : sh == sh2 <;> cases h2 : rs == rs2 <;> simp [runF, Fn.bind, Fn.env, F_Variant_eq, -kIsi1_ap, -kFld1_ap, isi_var (n := m), vfld_sizes (n := m), vfld_kept (n := m), h1, h2]
/-- no variant -/
def NoVar (d : D) : Prop := ∀ (n : Nat) (st : List Cl), (prm pg true n).isi st d (.own k_Variant) = some false
theorem c_Variant_eqD {n : Nat} (hn : 1 ≤ n) (sh : List Int) (rs : List Rule) {d : D} (h : NoVar d) (st : List Cl) : (prm pg true n).call n_Variant_eq [eVar sh rs, d] st = .ok (.fz (.bl false)) st := by
  obtain ⟨m, rfl, hm⟩ := succ_of hn
  rw [call_eq g_Variant_eq]
  simp [runF, Fn.bind, Fn.env, F_Variant_eq, h m]
theorem eqO_var {n : Nat} {sh : List Int} {rs : List Rule} {d : D} {s : FS} {b : Bool} (hb : (prm pg true n).besD k_Variant d s.st = true) (hv : (prm pg true n).call n_Variant_eq [eVar sh rs, d] s.st = .ok (.fz (.bl b)) s.st) (neg : Bool) :
    (prm pg true n).eqO neg (eVar sh rs) d s = .ok (.fz (.bl (neg ^^ b))) s := by
  have e1 : (prm pg true n).meth (eVar sh rs) mEq [d] s = ((prm pg true n).call n_Variant_eq [eVar sh rs, d] s.st).out s.ol := by
    simp only [Prm.meth, eVar, clsOf, mo_Variant_eq]
  show (if (prm pg true n).besD k_Variant d s.st = true then ((prm pg true n).meth (eVar sh rs) mEq [d] s).bnd (blO neg) else .bad) = _
  rw [if_pos hb, e1, hv, ocOut_fz, bnd_ok]
  rfl
theorem bes_var {n : Nat} (sh : List Int) (rs : List Rule) (st : List Cl) : (prm pg true n).besD k_Variant (eVar sh rs) st = true := by
  show (decide (k_Variant = k_Variant) || _) = true
  rfl
theorem bes_no {n : Nat} {d : D} (h : NoVar d) (st : List Cl) : (prm pg true n).besD k_Variant d st = true := by
  unfold Prm.besD
  rw [h n st]
  simp
/-- v == w, v != w -/
theorem oeq_vars {n : Nat} (hn : 1 ≤ n) (sh sh2 : List Int) (rs rs2 : List Rule) (s : FS) : (prm pg true n).own2 .eq (eVar sh rs) (eVar sh2 rs2) s = .ok (.fz (.bl (sh == sh2 && rs == rs2))) s := by
  have z := eqO_var (n := n) (s := s) (bes_var sh2 rs2 s.st) (c_Variant_eq hn sh sh2 rs rs2 s.st) false
  rw [Bool.false_xor] at z
  exact z
theorem one_vars {n : Nat} (hn : 1 ≤ n) (sh sh2 : List Int) (rs rs2 : List Rule) (s : FS) : (prm pg true n).own2 .ne (eVar sh rs) (eVar sh2 rs2) s = .ok (.fz (.bl (!(sh == sh2 && rs == rs2)))) s := by
  have z := eqO_var (n := n) (s := s) (bes_var sh2 rs2 s.st) (c_Variant_eq hn sh sh2 rs rs2 s.st) true
  rw [Bool.true_xor] at z
  exact z
theorem oeq_no {n : Nat} (hn : 1 ≤ n) (sh : List Int) (rs : List Rule) {d : D} (h : NoVar d) (s : FS) : (prm pg true n).own2 .eq (eVar sh rs) d s = .ok (.fz (.bl false)) s :=
  eqO_var (n := n) (s := s) (bes_no h s.st) (c_Variant_eqD hn sh rs h s.st) false
theorem one_no {n : Nat} (hn : 1 ≤ n) (sh : List Int) (rs : List Rule) {d : D} (h : NoVar d) (s : FS) : (prm pg true n).own2 .ne (eVar sh rs) d s = .ok (.fz (.bl true)) s :=
  eqO_var (n := n) (s := s) (bes_no h s.st) (c_Variant_eqD hn sh rs h s.st) true
/-- data == v -/
theorem oeq_data {n : Nat} (hn : 1 ≤ n) (sh : List Int) (rs : List Rule) {d : D} (h : NoVar d) (hp : plainD d = true) (s : FS) : (prm pg true n).own2 .eq d (eVar sh rs) s = .ok (.fz (.bl false)) s := by
  have e1 : (prm pg true n).meth (eVar sh rs) mEq [d] s = ((prm pg true n).call n_Variant_eq [eVar sh rs, d] s.st).out s.ol := by
    simp only [Prm.meth, eVar, clsOf, mo_Variant_eq]
  have ec : clsOf d s.st = none := by cases d <;> first | rfl | cases hp
  show (prm pg true n).eqO false d (eVar sh rs) s = _
  unfold Prm.eqO
  rw [ec]
  dsimp only
  rw [if_pos ⟨rfl, hp⟩, e1, c_Variant_eqD hn sh rs h, ocOut_fz, bnd_ok]
  rfl
theorem no_plain {d : D} (hp : plainD d = true) : NoVar d := fun n st => by cases d <;> first | rfl | cases hp
theorem no_sch (sh : List Int) (rows : List (List Rule)) : NoVar (eSch sh rows) := fun n st => by
  rw [eSch, isi_ins k_Schema _ _ st _ gk_Schema]
  rfl
theorem c_Schema_eqV {n : Nat} (hn : 1 ≤ n) (sh sh2 : List Int) (rows : List (List Rule)) (rs : List Rule) (st : List Cl) : (prm pg true n).call n_Schema_eq [eSch sh2 rows, eVar sh rs] st = .ok (.fz (.bl false)) st := by
  obtain ⟨m, rfl, hm⟩ := succ_of hn
  rw [call_eq g_Schema_eq]
  have e := isi_ins (n := m) k_Variant [a_sizes, a_kept] [eInts sh, eRules rs] st (.own k_Schema) gk_Variant
  have e2 : (Ty.own k_Schema).has c1 = false := rfl
  simp [runF, Fn.bind, Fn.env, F_Schema_eq, eVar, e, e2]
theorem oeq_sch {n : Nat} (hn : 1 ≤ n) (sh sh2 : List Int) (rows : List (List Rule)) (rs : List Rule) (s : FS) : (prm pg true n).own2 .eq (eSch sh2 rows) (eVar sh rs) s = .ok (.fz (.bl false)) s := by
  have e1 : (prm pg true n).meth (eSch sh2 rows) mEq [eVar sh rs] s = ((prm pg true n).call n_Schema_eq [eSch sh2 rows, eVar sh rs] s.st).out s.ol := by
    simp only [Prm.meth, eSch, clsOf, mo_Schema_eq]
  have hb : (prm pg true n).besD k_Schema (eVar sh rs) s.st = true := by
    unfold Prm.besD
    rw [eVar, isi_ins k_Variant _ _ s.st _ gk_Variant]
    rfl
  show (if (prm pg true n).besD k_Schema (eVar sh rs) s.st = true then ((prm pg true n).meth (eSch sh2 rows) mEq [eVar sh rs] s).bnd (blO false) else .bad) = _
  rw [if_pos hb, e1, c_Schema_eqV hn, ocOut_fz, bnd_ok]
  rfl
end LW
namespace LW
open PySem L2 Wv IR
def isReq : Rule → Bool
  | none => false
  | some l => !l.isEmpty
def isForb : Rule → Bool
  | none => false
  | some l => l.isEmpty
/-- the fields whose rule has p -/
def fldsP (p : Rule → Bool) (rs : List Rule) : List Int := (rs.zipIdx.filter fun q => p q.1).map fun q => (q.2 : Int)
theorem fldsP_len (p : Rule → Bool) (rs : List Rule) : (fldsP p rs).length ≤ rs.length := by
  unfold fldsP
  rw [List.length_map]
  exact Nat.le_trans (List.length_filter_le _ _) (by simp)
theorem c_Variant_required {n : Nat} (hn : 1 ≤ n) {sh : List Int} {rs : List Rule} (hl : rs.length ≤ 100) (st : List Cl) : (prm pg true n).call n_Variant_required [eVar sh rs] st = .ok (.fz (eInts (fldsP isReq rs))) st := by
  obtain ⟨m, rfl, hm⟩ := succ_of hn
  rw [call_eq g_Variant_required]
  simp [runF, Fn.bind, Fn.env, F_Variant_required, eVar, clsOf, pn_Variant_kept, fo_Variant_kept, List.lookup, a_sizes, enu_map]
  rw [turns_filter (fun q : Rule × Nat => D.tup [.int q.2, eRule q.1]) (fun q => isReq q.1) (fun q => D.int q.2) st rs.zipIdx (fun q hq acc hacc => by
    have hacc' : acc.length < 16777216 := hacc
    obtain ⟨r, i⟩ := q
    cases r with
    | none => simp [isReq]
    | some l => cases he : l.isEmpty <;> simp [isReq, eqD_nil, he, hacc', sizeLine, -List.isEmpty_iff]) (size_ok (by simp; omega))]
  have l1 := fldsP_len isReq rs
  have e : List.map (fun q : Rule × Nat => D.int q.2) (rs.zipIdx.filter fun q => isReq q.1) = (fldsP isReq rs).map D.int := by simp [fldsP]
  have l2 : (fldsP isReq rs).length ≤ 16777216 := by omega
  rw [e]
  simp [sizeLine, l2]
theorem c_Variant_forbidden {n : Nat} (hn : 1 ≤ n) {sh : List Int} {rs : List Rule} (hl : rs.length ≤ 100) (st : List Cl) : (prm pg true n).call n_Variant_forbidden [eVar sh rs] st = .ok (.fz (eInts (fldsP isForb rs))) st := by
  obtain ⟨m, rfl, hm⟩ := succ_of hn
  rw [call_eq g_Variant_forbidden]
  simp [runF, Fn.bind, Fn.env, F_Variant_forbidden, eVar, clsOf, pn_Variant_kept, fo_Variant_kept, List.lookup, a_sizes, enu_map]
  rw [turns_filter (fun q : Rule × Nat => D.tup [.int q.2, eRule q.1]) (fun q => isForb q.1) (fun q => D.int q.2) st rs.zipIdx (fun q hq acc hacc => by
    have hacc' : acc.length < 16777216 := hacc
    obtain ⟨r, i⟩ := q
    have n0 : eqD D.non (.tup []) = some false := by rfl
    cases r with
    | none => simp [isForb, n0]
    | some l => cases he : l.isEmpty <;> simp [isForb, eqD_nil, he, hacc', sizeLine, -List.isEmpty_iff]) (size_ok (by simp; omega))]
  have l1 := fldsP_len isForb rs
  have e : List.map (fun q : Rule × Nat => D.int q.2) (rs.zipIdx.filter fun q => isForb q.1) = (fldsP isForb rs).map D.int := by simp [fldsP]
  have l2 : (fldsP isForb rs).length ≤ 16777216 := by omega
  rw [e]
  simp [sizeLine, l2]
theorem vfld_required {n : Nat} (hn : 1 ≤ n) {sh : List Int} {rs : List Rule} (hl : rs.length ≤ 100) (s : FS) : kFld1 (prm pg true n) a_required (.fz (eVar sh rs)) s = .ok (.fz (eInts (fldsP isReq rs))) s := by
  have z := c_Variant_required (sh := sh) hn hl s.st
  simp [eVar, clsOf, po_Variant_required] at z ⊢
  simp [z]
theorem vfld_forbidden {n : Nat} (hn : 1 ≤ n) {sh : List Int} {rs : List Rule} (hl : rs.length ≤ 100) (s : FS) : kFld1 (prm pg true n) a_forbidden (.fz (eVar sh rs)) s = .ok (.fz (eInts (fldsP isForb rs))) s := by
  have z := c_Variant_forbidden (sh := sh) hn hl s.st
  simp [eVar, clsOf, po_Variant_forbidden] at z ⊢
  simp [z]
theorem fmtO_numI {k : Nat} (h : k ≤ 29) (s : FS) : fmtO (.fz (.int (k : Nat))) s = .ok (.fz (.str (numI k))) s := by
  rw [fmtO_int, if_pos (int_len (k : Int) (by omega) (by omega)).2]
  rfl
def titV (rs : List Rule) : Str := ((((Str.empty ++ ("Variant(" : Str)) ++ numI (fldsP isReq rs).length) ++ (" required, " : Str)) ++ numI (fldsP isForb rs).length) ++ (" forbidden)" : Str)
theorem c_Variant_repr {n : Nat} (hn : 2 ≤ n) {sh : List Int} {rs : List Rule} (hl : rs.length ≤ 29) (st : List Cl) : (prm pg true n).call n_Variant_repr [eVar sh rs] st = .ok (.fz (.str (titV rs))) st := by
  obtain ⟨m, rfl, hm⟩ := succ_of hn
  rw [call_eq g_Variant_repr]
  have h1 := fldsP_len isReq rs
  have h2 := fldsP_len isForb rs
  have l1 := numI_len (i := ((fldsP isReq rs).length : Nat)) (by omega) (by omega)
  have l2 := numI_len (i := ((fldsP isForb rs).length : Nat)) (by omega) (by omega)
  have e0 : Str.empty.length = 0 := rfl
  have e1 : ("Variant(" : Str).length = 8 := rfl
  have e2 : (" required, " : Str).length = 11 := rfl
  have e3 : (" forbidden)" : Str).length = 11 := rfl
  have s1 : 8 ≤ sizeLine := by decide
  have s2 : 8 + (numI (fldsP isReq rs).length).length ≤ sizeLine := size_ok (by omega)
  have s3 : 8 + (numI (fldsP isReq rs).length).length + 11 ≤ sizeLine := size_ok (by omega)
  have s4 : 8 + (numI (fldsP isReq rs).length).length + 11 + (numI (fldsP isForb rs).length).length ≤ sizeLine := size_ok (by omega)
  have s5 : 8 + (numI (fldsP isReq rs).length).length + 11 + (numI (fldsP isForb rs).length).length + 11 ≤ sizeLine := size_ok (by omega)
  simp [runF, Fn.bind, Fn.env, F_Variant_repr, -kFld1_ap, vfld_required (n := m) (by omega) (show rs.length ≤ 100 by omega), vfld_forbidden (n := m) (by omega) (show rs.length ≤ 100 by omega), str_app_len, e0, e1, e2, e3, -fmtO_int, fmtO_numI (k := (fldsP isReq rs).length) (by omega), fmtO_numI (k := (fldsP isForb rs).length) (by omega), s1, s2, s3, s4, s5, titV]
theorem var_rpo {n : Nat} (hn : 2 ≤ n) {sh : List Int} {rs : List Rule} (hl : rs.length ≤ 29) (s : FS) : kRpo1 (prm pg true n) (.fz (eVar sh rs)) s = .ok (.fz (.str (titV rs))) s := by
  have e1 : (prm pg true n).meth (eVar sh rs) mRepr [] s = ((prm pg true n).call n_Variant_repr [eVar sh rs] s.st).out s.ol := by
    simp only [Prm.meth, eVar, clsOf, mo_Variant_repr]
  show need (Wv.fz s (.fz (eVar sh rs))) (kRpo2 (prm pg true n)) = _
  rw [fz_fz, need_some, kRpo2_ap]
  dsimp only
  rw [e1, c_Variant_repr hn hl, ocOut_fz, bnd_ok, strO_str]
end LW
namespace LW
open PySem L2 Wv IR
def PenAt (st : List Cl) (k : Nat) : Prop := ∃ a b c, st[k]? = some (.lst [.int a, .int b, .int c]) ∧ 0 ≤ b ∧ b < 2147483648
structure PenTo (st : List Cl) (k : Nat) (st' : List Cl) : Prop where
  len : st'.length = st.length
  keep : ∀ j, j ≠ k → st'[j]? = st[j]?
  pen : PenAt st' k
theorem PenTo.refl {st : List Cl} {k : Nat} (h : PenAt st k) : PenTo st k st := ⟨rfl, fun _ _ => rfl, h⟩
theorem PenTo.trans {st st1 st2 : List Cl} {k : Nat} (h : PenTo st k st1) (g : PenTo st1 k st2) : PenTo st k st2 := ⟨g.len.trans h.len, fun j e => (g.keep j e).trans (h.keep j e), g.pen⟩
theorem PenTo.set {st : List Cl} {k : Nat} {a b c : Int} (hk : k < st.length) (h0 : 0 ≤ b) (h1 : b < 2147483648) : PenTo st k (st.set k (.lst [.int a, .int b, .int c])) :=
  ⟨List.length_set, fun j e => List.getElem?_set_ne (fun z => e z.symm), a, b, c, List.getElem?_set_self hk, h0, h1⟩
theorem rng_int {i : Int} (h0 : 0 ≤ i) (h1 : i ≤ 1000) : rngD [.int i] = some ((List.range i.toNat).map fun (j : Nat) => D.int j) := by
  have z := rng_nat i.toNat (by omega)
  rwa [show ((i.toNat : Nat) : Int) = i by omega] at z
theorem hmany_app (l : List Int) (s : Int) : hmany (l ++ [s]) = hmany l * (s + 1) := by
  unfold hmany
  rw [List.foldl_append] <;> rfl
theorem asc_zip : ∀ {l : List Int}, l.Pairwise (· < ·) → ∀ p ∈ l.zip l.tail, p.1 < p.2
  | [], _, p, h => by simp at h
  | [a], _, p, h => by simp at h
  | a :: b :: r, hp, p, h => by
    have h : p = (a, b) ∨ p ∈ (b :: r).zip r := by simpa using h
    rcases h with h | h
    · subst h
      exact (List.pairwise_cons.mp hp).1 b (by simp)
    · exact asc_zip (List.pairwise_cons.mp hp).2 p h
theorem range_asc (k : Nat) : ((List.range k).map fun i : Nat => (i : Int)).Pairwise (· < ·) := by
  rw [List.pairwise_map]
  exact List.pairwise_lt_range.imp fun h => by omega
end LW
namespace LW
open PySem L2 Wv IR
theorem c__law_draw {n : Nat} (hn : 1 ≤ n) {st : List Cl} {k : Nat} (hp : PenAt st k) {count : Int} (h0 : 0 < count) (h1 : count < 1073741824) :
    ∃ r st', (prm pg true n).call n__law_draw [.cel k, .int count] st = .ok (.fz (.int r)) st' ∧ 0 ≤ r ∧ r < count ∧ PenTo st k st' := by
  obtain ⟨m, rfl, hm⟩ := succ_of hn
  obtain ⟨a, b, c, hs, hb0, hb1⟩ := hp
  have hk : k < st.length := (List.getElem?_eq_some_iff.mp hs).1
  rw [call_eq g__law_draw]
  have i0 : ixN 3 0 = some 0 := rfl
  have i1 : ixN 3 1 = some 1 := rfl
  have i2 : ixN 3 2 = some 2 := rfl
  have at0 : ∀ x y z : D, atI [x, y, z] 0 = some x := fun _ _ _ => rfl
  have at1 : ∀ x y z : D, atI [x, y, z] 1 = some y := fun _ _ _ => rfl
  have at2 : ∀ x y z : D, atI [x, y, z] 2 = some z := fun _ _ _ => rfl
  by_cases ha : 0 < a
  · refine ⟨a % count, st.set k (.lst [.int (a / count), .int b, .int c]), ?_, Int.emod_nonneg _ (by omega), Int.emod_lt_of_pos _ h0, PenTo.set hk hb0 hb1⟩
    simp [runF, Fn.bind, Fn.env, F__law_draw, hs, at0, ha, h0, h1, i0]
  · have m1 : ∀ i, mulOk i 48271 = true := fun i => mulOk_r (by decide) (by decide)
    have m2 : ∀ i, mulOk 1009 i = true := fun i => mulOk_l (by decide) (by decide)
    have m3 : ∀ i, mulOk 69621 i = true := fun i => mulOk_l (by decide) (by decide)
    have m4 : ∀ i, mulOk 40014 i = true := fun i => mulOk_l (by decide) (by decide)
    obtain ⟨b', eb⟩ : ∃ b', b' = (b * 48271 + 1009 * (c + 1) + 7) % 2147483647 := ⟨_, rfl⟩
    have b0 : 0 ≤ b' := eb ▸ Int.emod_nonneg _ (by decide)
    have b1 : b' < 2147483647 := eb ▸ Int.emod_lt_of_pos _ (by decide)
    obtain ⟨s1, es⟩ : ∃ s1, s1 = (b' * b' + 69621 * b' + 11) % 2147483629 := ⟨_, rfl⟩
    have s0 : 0 ≤ s1 := es ▸ Int.emod_nonneg _ (by decide)
    have s1' : s1 < 2147483629 := es ▸ Int.emod_lt_of_pos _ (by decide)
    have m5 : mulOk b' b' = true := mulOk_l (by omega) (by omega)
    have m6 : mulOk s1 s1 = true := mulOk_l (by omega) (by omega)
    refine ⟨(s1 * s1 + 40014 * s1) % 2147483587 / 16 % count, st.set k (.lst [.int a, .int b', .int (c + 1)]), ?_, Int.emod_nonneg _ (by omega), Int.emod_lt_of_pos _ h0, PenTo.set hk b0 (by omega)⟩
    have hset : ∀ X, (st.set k X)[k]? = some X := fun X => List.getElem?_set_self hk
    simp [runF, Fn.bind, Fn.env, F__law_draw, hs, at0, at1, at2, ha, h0, h1, i0, i1, i2, hset, m1, m2, m3, m4, -List.getElem?_set, ← eb, ← es, m5, m6]
theorem c__law_pen {n : Nat} (hn : 1 ≤ n) (i : Int) (st : List Cl) : ∃ st', (prm pg true n).call n__law_pen [.int i] st = .ok (.fz (.cel st.length)) st' ∧ st'.length = st.length + 1 ∧ PenAt st' st.length := by
  obtain ⟨m, rfl, hm⟩ := succ_of hn
  rw [call_eq g__law_pen]
  have p : powOk 10 18 = true := by decide
  refine ⟨st ++ [.lst [.int (if i - 10 ^ (18 : Int).toNat > 0 then i - 10 ^ (18 : Int).toNat else 0), .int (i % 2147483629 + 1), .int 0]], ?_, by simp, _, _, _, List.getElem?_concat_length, ?_, ?_⟩
  · simp [runF, Fn.bind, Fn.env, F__law_pen, p, sizeLine]
  · have := Int.emod_nonneg i (show (2147483629 : Int) ≠ 0 by decide)
    omega
  · have := Int.emod_lt_of_pos i (show (0 : Int) < 2147483629 by decide)
    omega
theorem c__law_cell {n : Nat} (hn : 1 ≤ n) (ns : List Int) (k : Nat) (st : List Cl) : ∃ i, (prm pg true n).call n__law_cell [.scr ns, .int k] st = .ok (.fz (.int i)) st := by
  obtain ⟨m, rfl, hm⟩ := succ_of hn
  rw [call_eq g__law_cell]
  by_cases h : k < ns.length
  · have e : ns[k]? = some ns[k] := List.getElem?_eq_getElem h
    have z : atI ns (k : Int) = some ns[k] := atI_nat e
    have h' : (k : Int) < ns.length := by omega
    refine ⟨ns[k], ?_⟩
    simp [runF, Fn.bind, Fn.env, F__law_cell, h', z]
  · have h' : ¬ (k : Int) < ns.length := by omega
    refine ⟨0, ?_⟩
    simp [runF, Fn.bind, Fn.env, F__law_cell, h']
end LW
namespace LW
open PySem L2 Wv IR
theorem six_at {n t : Nat} (h : t ≤ n) (d : Nat) : HT.sIx n d (some (t : Int)) = t := by
  rw [HT.sIx_nat, Nat.min_eq_left h]
theorem cut_from (xs : List D) (t : Nat) (h : t ≤ xs.length) : cutD xs (some (t : Int)) none = xs.drop t := by
  unfold cutD
  have e1 : HT.sIx xs.length xs.length none = xs.length := rfl
  rw [e1, six_at h]
  rw [List.take_of_length_le (by rw [List.length_drop]; omega)]
theorem cut_to (xs : List D) (t : Nat) (h : t ≤ xs.length) : cutD xs none (some (t : Int)) = xs.take t := by
  unfold cutD
  have e1 : HT.sIx xs.length 0 none = 0 := rfl
  rw [e1, six_at h]
  simp
end LW
namespace LW
open PySem L2 Wv IR
variable {sh : List Int}
theorem c__law_pick {n : Nat} (hn : 2 ≤ n) {st : List Cl} {k : Nat} (hp : PenAt st k) (ds : List D) (h0 : ds ≠ []) (h1 : ds.length ≤ 1000) :
    ∃ d st', (prm pg true n).call n__law_pick [.cel k, .lst ds] st = .ok (.fz d) st' ∧ d ∈ ds ∧ PenTo st k st' := by
  obtain ⟨m, rfl, hm⟩ := succ_of hn
  have hl : 0 < ds.length := List.length_pos_iff.mpr h0
  obtain ⟨r, st1, e1, r0, r1, p1⟩ := c__law_draw (n := m) (by omega) hp (count := (ds.length : Int)) (by omega) (by omega)
  obtain ⟨i, rfl⟩ : ∃ i : Nat, r = (i : Int) := ⟨r.toNat, by omega⟩
  have hi : i < ds.length := by omega
  refine ⟨ds[i], st1, ?_, List.getElem_mem _, p1⟩
  rw [call_eq g__law_pick]
  simp [runF, Fn.bind, Fn.env, F__law_pick, e1, atI_nat (List.getElem?_eq_getElem hi)]
theorem hmany_go : ∀ (l : List Int) (n : Int), l.foldl (fun n s => n * (s + 1)) n = n * hmany l
  | [], n => by simp [hmany]
  | a :: l, n => by
    show l.foldl (fun n s => n * (s + 1)) (n * (a + 1)) = n * (l.foldl (fun n s => n * (s + 1)) (1 * (a + 1)))
    rw [hmany_go l, hmany_go l, Int.one_mul, Int.mul_assoc]
theorem hmany_append (a b : List Int) : hmany (a ++ b) = hmany a * hmany b := by
  show (a ++ b).foldl (fun n s => n * (s + 1)) 1 = _
  rw [List.foldl_append, hmany_go b]
  rfl
theorem OkSh.rot {l : List Int} (h : OkSh l) (b : Nat) : OkSh (l.drop b ++ l.take b) := by
  refine ⟨?_, fun s hs => ?_, ?_⟩
  · have := h.len
    simp
    omega
  · rcases List.mem_append.mp hs with q | q
    · exact h.sz s (List.mem_of_mem_drop q)
    · exact h.sz s (List.mem_of_mem_take q)
  · rw [hmany_append, Int.mul_comm, ← hmany_append, List.take_append_drop]
    exact h.few
def okShB (l : List Int) : Bool := decide (1 ≤ l.length ∧ l.length ≤ 5) && l.all (fun s => decide (1 ≤ s ∧ s ≤ 4)) && decide (hmany l ≤ 256)
theorem okSh_of {l : List Int} (h : okShB l = true) : OkSh l := by
  unfold okShB at h
  rw [Bool.and_eq_true, Bool.and_eq_true, decide_eq_true_eq, decide_eq_true_eq, List.all_eq_true] at h
  exact ⟨h.1.1, fun s hs => of_decide_eq_true (h.1.2 s hs), h.2⟩
def forms : List (List Int) := [[1], [4], [2, 2], [1, 3], [3, 3], [4, 2], [1, 1, 1], [2, 1, 2], [3, 1, 1], [1, 1, 1, 1], [2, 1, 1, 1], [1, 1, 1, 1, 1], [1, 2, 2, 1], [4, 1, 2], [3, 3], [2, 2, 2]]
theorem c__law_draw_shape {n : Nat} (hn : 3 ≤ n) {st : List Cl} {k : Nat} (hp : PenAt st k) :
    ∃ sh st', (prm pg true n).call n__law_draw_shape [.cel k] st = .ok (.fz (eInts sh)) st' ∧ OkSh sh ∧ PenTo st k st' := by
  obtain ⟨m, rfl, hm⟩ := succ_of hn
  obtain ⟨d, st1, e1, hd, p1⟩ := c__law_pick (n := m) (by omega) hp (forms.map fun l => eInts l) (by simp [forms]) (by simp [forms])
  obtain ⟨l, hl, rfl⟩ := List.mem_map.mp hd
  have okl : OkSh l := okSh_of (List.all_eq_true.mp (show forms.all okShB = true by decide +kernel) l hl)
  have l5 := okl.len
  obtain ⟨r, st2, e2, r0, r1, p2⟩ := c__law_draw (n := m) (by omega) p1.pen (count := (l.length : Int)) (by omega) (by omega)
  obtain ⟨i, rfl⟩ : ∃ i : Nat, r = (i : Int) := ⟨r.toNat, by omega⟩
  refine ⟨l.drop i ++ l.take i, st2, ?_, okl.rot i, p1.trans p2⟩
  rw [call_eq g__law_draw_shape]
  have c1 : cutD (l.map D.int) (some (i : Int)) none = (l.drop i).map D.int := by
    rw [cut_from _ _ (by simp; omega), List.map_drop]
  have c2 : cutD (l.map D.int) none (some (i : Int)) = (l.take i).map D.int := by
    rw [cut_to _ _ (by simp; omega), List.map_take]
  have e1 : (prm pg true m).call n__law_pick [.cel k, .lst [.tup [.int 1], .tup [.int 4], .tup [.int 2, .int 2], .tup [.int 1, .int 3], .tup [.int 3, .int 3], .tup [.int 4, .int 2], .tup [.int 1, .int 1, .int 1], .tup [.int 2, .int 1, .int 2], .tup [.int 3, .int 1, .int 1], .tup [.int 1, .int 1, .int 1, .int 1], .tup [.int 2, .int 1, .int 1, .int 1], .tup [.int 1, .int 1, .int 1, .int 1, .int 1], .tup [.int 1, .int 2, .int 2, .int 1], .tup [.int 4, .int 1, .int 2], .tup [.int 3, .int 3], .tup [.int 2, .int 2, .int 2]]] st = .ok (.fz (.tup (l.map D.int))) st1 := e1
  simp [runF, Fn.bind, Fn.env, F__law_draw_shape, e1, e2, slcD, c1, c2, sizeLine, -List.map_drop, -List.map_take]
  have sz : l.length - i + min i l.length ≤ 16777216 := by omega
  simp [sz]
end LW
namespace LW
open PySem L2 Wv IR
variable {sh : List Int} {rows : List (List Rule)}
theorem c__law_draw_rule {n : Nat} (hn : 2 ≤ n) {st : List Cl} {k : Nat} (hp : PenAt st k) {size : Int} (h0 : 1 ≤ size) (h1 : size ≤ 4) :
    ∃ r st', (prm pg true n).call n__law_draw_rule [.cel k, .int size] st = .ok (.fz (eRule r)) st' ∧ OkR size r ∧ PenTo st k st' := by
  obtain ⟨m, rfl, hm⟩ := succ_of hn
  rw [call_eq g__law_draw_rule]
  obtain ⟨w, st1, e1, w0, w1, p1⟩ := c__law_draw (n := m) (by omega) hp (count := 6) (by decide) (by decide)
  by_cases c1 : w < 2
  · refine ⟨none, st1, ?_, trivial, p1⟩
    simp [runF, Fn.bind, Fn.env, F__law_draw_rule, e1, c1]
  by_cases c2 : w = 2
  · refine ⟨some [], st1, ?_, ⟨fun _ h => (by cases h), fun _ h => (by cases h), by simp⟩, p1⟩
    simp [runF, Fn.bind, Fn.env, F__law_draw_rule, e1, c2, sizeLine]
  have c2' : (w == 2) = false := beq_false_of_ne c2
  by_cases c3 : w = 3
  · obtain ⟨q, st3, e3, q0, q1, p3⟩ := c__law_draw (n := m) (by omega) p1.pen (count := size) (by omega) (by omega)
    refine ⟨some [q], st3, ?_, ⟨fun v hv => ?_, fun _ h => (by simp at h), by simp⟩, p1.trans p3⟩
    · subst c3
      simp [runF, Fn.bind, Fn.env, F__law_draw_rule, e1, e3, sizeLine]
    · simp at hv
      omega
  have c3' : (w == 3) = false := beq_false_of_ne c3
  have rl : ∀ l : List Int, l.Pairwise (· < ·) → (∀ v ∈ l, 0 ≤ v ∧ v ≤ size - 1) → l.length ≤ 4 → OkR size (some l) := fun l ha hv hl => ⟨hv, asc_zip ha, hl⟩
  by_cases c4 : w = 4
  · refine ⟨some ((List.range size.toNat).map fun i : Nat => (i : Int)), st1, ?_, rl _ (range_asc _) (fun v hv => ?_) (by simp; omega), p1⟩
    · subst c4
      simp [runF, Fn.bind, Fn.env, F__law_draw_rule, e1, rng_int (show 0 ≤ size by omega) (show size ≤ 1000 by omega)]
    · simp at hv
      obtain ⟨i, hi, rfl⟩ := hv
      omega
  have c4' : (w == 4) = false := beq_false_of_ne c4
  obtain ⟨acc, st2, e2, l, rfl, p2, hasc, hval, hlen⟩ := turns_inv (body := comT (prm pg true m) [3] (.n 3) (.cons (.cmp .eq (.cal n__law_draw (.cons (.var 0) (.cons (.con (.int (2))) .nil))) (.con (.int (0)))) .nil) (.var 3) [some (.fz (.cel k)), some (.fz (.int size)), some (.fz (.int w)), none]) (fun j : Nat => D.int j)
    (fun rest acc st2 => ∃ l : List Int, acc = l.map D.int ∧ PenTo st k st2 ∧ (l ++ rest.map fun i : Nat => (i : Int)).Pairwise (· < ·) ∧ (∀ v ∈ l ++ rest.map fun i : Nat => (i : Int), 0 ≤ v ∧ v ≤ size - 1) ∧ l.length + rest.length ≤ 4) (List.range size.toNat) [] st1 (fun a rest acc st2 ⟨l, h1, h2, h3, h4, h5⟩ => by
      subst h1
      obtain ⟨q, st3, e3, q0, q1, p3⟩ := c__law_draw (n := m) (by omega) h2.pen (count := 2) (by decide) (by decide)
      have hsz : l.length < sizeLine := size_lt (by omega)
      rw [List.length_cons] at h5
      by_cases hq : q = 0
      · refine ⟨l.map D.int ++ [.int a], st3, ?_, l ++ [(a : Int)], by simp, h2.trans p3, by simpa using h3, fun v hv => h4 v (by simpa using hv), by simp; omega⟩
        simp [e3, hq, hsz]
      · have hq : (q == 0) = false := beq_false_of_ne hq
        refine ⟨l.map D.int, st3, ?_, l, rfl, h2.trans p3, h3.sublist (by simp), fun v hv => h4 v ?_, by omega⟩
        · simp [e3, hq]
        · rcases List.mem_append.mp hv with z | z
          · exact List.mem_append_left _ z
          · exact List.mem_append_right _ (by simp at z ⊢; exact .inr z)) ⟨[], rfl, p1, by simpa using range_asc size.toNat, fun v hv => by
        simp at hv
        obtain ⟨i, hi, rfl⟩ := hv
        omega, by simp; omega⟩
  simp at hasc hval hlen
  refine ⟨some l, st2, ?_, rl l hasc hval hlen, p2⟩
  simp [runF, Fn.bind, Fn.env, F__law_draw_rule, e1, c1, c2', c3', c4', rng_int (show 0 ≤ size by omega) (show size ≤ 1000 by omega), e2]
theorem c__law_draw_rules {n : Nat} (hn : 3 ≤ n) {st : List Cl} {k : Nat} (hp : PenAt st k) (oks : OkSh sh) :
    ∃ rs st', (prm pg true n).call n__law_draw_rules [.cel k, eInts sh] st = .ok (.fz (eRules rs)) st' ∧ OkRs sh rs ∧ PenTo st k st' := by
  obtain ⟨m, rfl, hm⟩ := succ_of hn
  rw [call_eq g__law_draw_rules]
  have h5 := oks.len.2
  obtain ⟨acc, st2, e2, rs, rfl, p2, hrs⟩ := turns_inv (body := comT (prm pg true m) [2] (.n 2) .nil (.cal n__law_draw_rule (.cons (.var 0) (.cons (.var 2) .nil))) [some (.fz (.cel k)), some (.fz (eInts sh)), none]) D.int
    (fun rest acc st2 => ∃ rs : List Rule, acc = rs.map eRule ∧ PenTo st k st2 ∧ ∃ dn, sh = dn ++ rest ∧ rs.length = dn.length ∧ ∀ q ∈ rs.zip dn, OkR q.2 q.1) sh [] st (fun size rest acc st2 ⟨rs, h1, h2, dn, h3, h4, h5⟩ => by
      subst h1
      have hs := oks.sz size (by rw [h3]; simp)
      obtain ⟨q, st3, e3, okq, p3⟩ := c__law_draw_rule (n := m) (by omega) h2.pen hs.1 hs.2
      have hl2 : rs.length ≤ 5 := by
        have := congrArg List.length h3
        simp at this
        omega
      refine ⟨rs.map eRule ++ [eRule q], st3, ?_, rs ++ [q], by simp, h2.trans p3, dn ++ [size], by rw [h3]; simp, by simp [h4], fun z hz => ?_⟩
      · simp [e3, size_lt (show rs.length ≤ 100000 by omega)]
      · rw [List.zip_append h4] at hz
        rcases List.mem_append.mp hz with hz | hz
        · exact h5 z hz
        · simp at hz
          rw [hz]
          exact okq) ⟨[], rfl, PenTo.refl hp, [], rfl, rfl, fun q hq => by cases hq⟩
  obtain ⟨dn, hd1, hd2, hd3⟩ := hrs
  have hd1 : sh = dn := by simpa using hd1
  subst hd1
  refine ⟨rs, st2, ?_, ⟨hd2, hd3⟩, p2⟩
  simp [runF, Fn.bind, Fn.env, F__law_draw_rules, e2]
end LW
namespace LW
open PySem L2 Wv IR
theorem c__law_same {n : Nat} (hn : 1 ≤ n) {d : D} {a b : Nat} (h : Sm d a b) (ha : a ≤ 1000000) (hb : b ≤ 40) (st : List Cl) : (prm pg true n).call n__law_same [d, d] st = .ok (.fz (.bl true)) st := by
  obtain ⟨m, rfl, hm⟩ := succ_of hn
  rw [call_eq g__law_same]
  obtain ⟨t, e⟩ := h.show ha hb
  simp [runF, Fn.bind, Fn.env, F__law_same, e]
end LW
namespace LW
open PySem L2 Wv IR
theorem eqD_pair (a b : List Int) (c d : List Rule) : eqD (.tup [eInts a, eRules c]) (.tup [eInts b, eRules d]) = some (a == b && c == d) := by
  have ea := toP_ints a
  have eb := toP_ints b
  have ec := toP_rules c
  have ed := toP_rules d
  have e1 : toP (.tup [eInts a, eRules c]) = some (.tuple [.tuple (a.map PyData.int), .tuple (c.map pRule)]) := by
    show (toPs [eInts a, eRules c]).map PyData.tuple = _
    simp [toPs, ea, ec]
  have e2 : toP (.tup [eInts b, eRules d]) = some (.tuple [.tuple (b.map PyData.int), .tuple (d.map pRule)]) := by
    show (toPs [eInts b, eRules d]).map PyData.tuple = _
    simp [toPs, eb, ed]
  unfold eqD
  rw [e1, e2]
  show (if min (PyData.tuple [.tuple (a.map PyData.int), .tuple (c.map pRule)]).depth (PyData.tuple [.tuple (b.map PyData.int), .tuple (d.map pRule)]).depth ≤ 40 then _ else _) = _
  have hd : (PyData.tuple [.tuple (a.map PyData.int), .tuple (c.map pRule)]).depth ≤ 40 := by
    simp only [PyData.depth, PyData.depthAll, depth_ints]
    have := depth_rules c
    omega
  rw [if_pos (by omega)]
  simp [PyData.eqv, PyData.eqvAll, eqv_ints, eqv_rules]
theorem c__law_is_right {n : Nat} (hn : 7 ≤ n) {sh sh2 : List Int} {rs rs2 : List Rule} (oks : OkSh sh) (ok : OkRs sh rs) (oks2 : OkSh sh2) (ok2 : OkRs sh2 rs2) (st : List Cl) :
    (prm pg true n).call n__law_is_right [eInts sh, eRules rs, eInts sh2, eRules rs2] st = .ok (.fz (.bl true)) st := by
  obtain ⟨m, rfl, hm⟩ := succ_of hn
  rw [call_eq g__law_is_right]
  have m1 := fun st => m_Variant (n := m) (by omega) oks ok st
  have m2 := fun st => m_Variant (n := m) (by omega) oks2 ok2 st
  have q1 := fun s => oeq_vars (n := m) (by omega) sh sh2 rs rs2 s
  have q2 := fun s => oeq_vars (n := m) (by omega) sh2 sh rs2 rs s
  have q3 := fun s => one_vars (n := m) (by omega) sh sh2 rs rs2 s
  have q4 := fun s => oeq_vars (n := m) (by omega) sh sh rs rs s
  have ep := eqD_pair sh sh2 rs rs2
  have e2 : (sh2 == sh && rs2 == rs) = (sh == sh2 && rs == rs2) := by rw [Bool.beq_comm (a := sh2), Bool.beq_comm (a := rs2)]
  have e4 : (sh == sh && rs == rs) = true := by simp
  rw [e2] at q2
  rw [e4] at q4
  generalize (sh == sh2 && rs == rs2) = x at q1 q2 q3 ep
  have sm := fun st => c__law_same (n := m) (by omega) (Sm.lst (n := 5) (d := 0) (k := 4) (xs := [.bl x, .bl x, .bl !x, .bl true]) (fun y hy => by
    simp only [List.mem_cons, List.not_mem_nil, or_false] at hy
    rcases hy with rfl | rfl | rfl | rfl <;> exact Sm.bl _) (by simp)) (by decide) (by decide) st
  simp [runF, Fn.bind, Fn.env, F__law_is_right, m1, m2, q1, q2, q3, q4, ep, sizeLine, sm]
theorem OkR.more {size : Int} {r : Rule} (h : OkR size r) : OkR (size + 1) r := by
  cases r with
  | none => trivial
  | some l => exact ⟨fun v hv => by have := h.1 v hv; omega, h.2⟩
theorem OkRs.put {sh : List Int} {rs : List Rule} (ok : OkRs sh rs) {i : Nat} (hi : i < sh.length) {r : Rule} (h : OkR sh[i] r) : OkRs sh (rs.take i ++ [r] ++ rs.drop (i + 1)) := by
  have hl := ok.len
  have hi' : i < rs.length := by omega
  have e : rs.take i ++ [r] ++ rs.drop (i + 1) = rs.set i r := by
    rw [List.set_eq_take_append_cons_drop, if_pos hi', List.append_assoc]
    rfl
  rw [e]
  refine ⟨by rw [List.length_set, hl], fun p hp => ?_⟩
  obtain ⟨j, hj, rfl⟩ := List.getElem_of_mem hp
  rw [List.getElem_zip]
  rw [List.length_zip, List.length_set] at hj
  by_cases c : i = j
  · subst c
    simp
    exact h
  · simp [List.getElem_set, c]
    refine ok.ok (rs[j], sh[j]) ?_
    rw [List.mem_iff_getElem]
    exact ⟨j, by rw [List.length_zip]; omega, by simp⟩
theorem hmany_le3 {l : List Int} (h : ∀ s ∈ l, 1 ≤ s ∧ s ≤ 4) (hl : l.length ≤ 3) : hmany l ≤ 256 := by
  match l, h, hl with
  | [], _, _ => decide
  | [a], h, _ =>
    have := h a (by simp)
    simp [hmany]
    omega
  | [a, b], h, _ =>
    have h1 := h a (by simp)
    have h2 := h b (by simp)
    simp [hmany]
    have : (a + 1) * (b + 1) ≤ 5 * 5 := Int.mul_le_mul (by omega) (by omega) (by omega) (by omega)
    omega
  | [a, b, c], h, _ =>
    have h1 := h a (by simp)
    have h2 := h b (by simp)
    have h3 := h c (by simp)
    simp [hmany]
    have : (a + 1) * (b + 1) ≤ 5 * 5 := Int.mul_le_mul (by omega) (by omega) (by omega) (by omega)
    have : (a + 1) * (b + 1) * (c + 1) ≤ 25 * 5 := Int.mul_le_mul (by omega) (by omega) (by omega) (by omega)
    omega
theorem c__law_near {n : Nat} (hn : 4 ≤ n) {st : List Cl} {k : Nat} (hp : PenAt st k) {sh : List Int} {rs : List Rule} (oks : OkSh sh) (ok : OkRs sh rs) :
    ∃ sh2 rs2 st', (prm pg true n).call n__law_near [.cel k, eInts sh, eRules rs] st = .ok (.fz (.tup [eInts sh2, eRules rs2])) st' ∧ OkSh sh2 ∧ OkRs sh2 rs2 ∧ PenTo st k st' := by
  obtain ⟨m, rfl, hm⟩ := succ_of hn
  rw [call_eq g__law_near]
  have l5 := oks.len
  have lr := ok.len
  obtain ⟨w, st1, e1, w0, w1, p1⟩ := c__law_draw (n := m) (by omega) hp (count := 4) (by decide) (by decide)
  obtain ⟨q, st2, e2, q0, q1, p2⟩ := c__law_draw (n := m) (by omega) p1.pen (count := (sh.length : Int)) (by omega) (by omega)
  obtain ⟨i, rfl⟩ : ∃ i : Nat, q = (i : Int) := ⟨q.toNat, by omega⟩
  have hi : i < sh.length := by omega
  by_cases c0 : w = 0
  · subst c0
    have s1 := oks.sz sh[i] (List.getElem_mem hi)
    obtain ⟨r, st3, e3, okr, p3⟩ := c__law_draw_rule (n := m) (by omega) p2.pen s1.1 s1.2
    refine ⟨sh, rs.take i ++ [r] ++ rs.drop (i + 1), st3, ?_, oks, ok.put hi okr, (p1.trans p2).trans p3⟩
    have a1 : atI (sh.map D.int) (i : Int) = some (.int sh[i]) := at_map D.int (List.getElem?_eq_getElem hi)
    have k1 : cutD (rs.map eRule) none (some (i : Int)) = (rs.take i).map eRule := by rw [cut_to _ _ (by simp; omega), List.map_take]
    have k2 : cutD (rs.map eRule) (some ((i : Int) + 1)) none = (rs.drop (i + 1)).map eRule := by
      rw [show ((i : Int) + 1) = ((i + 1 : Nat) : Int) by omega, cut_from _ _ (by simp; omega), List.map_drop]
    have z1 : min i rs.length + 1 ≤ 16777216 := by omega
    have z2 : min i rs.length + 1 + (rs.length - (i + 1)) ≤ 16777216 := by omega
    simp [runF, Fn.bind, Fn.env, F__law_near, e1, e2, a1, e3, slcD, k1, k2, sizeLine, -List.map_take, -List.map_drop, z1, z2]
  have c0' : (w == 0) = false := beq_false_of_ne c0
  by_cases c1 : w = 1 ∧ sh[0] < 4 ∧ sh.length < 4
  · obtain ⟨rfl, h4, h3⟩ := c1
    obtain ⟨a, t, rfl⟩ : ∃ a t, sh = a :: t := by
      cases sh with
      | nil => simp at hi
      | cons a t => exact ⟨a, t, rfl⟩
    have h4 : a < 4 := h4
    have sz2 : ∀ s ∈ (a + 1) :: t, 1 ≤ s ∧ s ≤ 4 := fun s hs => by
      rcases List.mem_cons.mp hs with rfl | z
      · have := oks.sz a (by simp)
        omega
      · exact oks.sz s (List.mem_cons_of_mem _ z)
    refine ⟨(a + 1) :: t, rs, st2, ?_, ⟨by simpa using l5, sz2, hmany_le3 sz2 (by simp at h3 ⊢; omega)⟩, ⟨by simpa using lr, fun p hp => ?_⟩, p1.trans p2⟩
    · have a1 : atI (D.int a :: t.map D.int) (0 : Int) = some (.int a) := atI_nat (j := 0) rfl
      have k1 : cutD (D.int a :: t.map D.int) (some 1) none = t.map D.int := cut_tail _
      have h3' : (t.length : Int) + 1 < 4 := by simp at h3; omega
      have z1 : 1 + t.length ≤ 16777216 := by simp at h3; omega
      simp at e2
      simp [runF, Fn.bind, Fn.env, F__law_near, e1, e2, a1, h4, h3', slcD, k1, sizeLine, z1]
    · cases rs with
      | nil => cases hp
      | cons r rest =>
        rw [List.zip_cons_cons] at hp
        rcases List.mem_cons.mp hp with rfl | z
        · exact (ok.ok (r, a) (by rw [List.zip_cons_cons]; exact List.mem_cons_self)).more
        · exact ok.ok p (by rw [List.zip_cons_cons]; exact List.mem_cons_of_mem _ z)
  have a0 : atI (sh.map D.int) (0 : Int) = some (.int sh[0]) := by
    have z := at_map (i := 0) D.int (List.getElem?_eq_getElem (l := sh) (show 0 < sh.length by omega))
    exact z
  by_cases c2 : w = 2
  · subst c2
    refine ⟨sh, rs, st2, ?_, oks, ok, p1.trans p2⟩
    simp [runF, Fn.bind, Fn.env, F__law_near, e1, e2, sizeLine]
  have c2' : (w == 2) = false := beq_false_of_ne c2
  obtain ⟨rs2, st3, e3, ok2, p3⟩ := c__law_draw_rules (n := m) (by omega) p2.pen oks
  refine ⟨sh, rs2, st3, ?_, oks, ok2, (p1.trans p2).trans p3⟩
  by_cases c1w : w = 1
  · subst c1w
    have c1 : ¬ (sh[0] < 4 ∧ sh.length < 4) := fun h => c1 ⟨rfl, h⟩
    by_cases h4 : sh[0] < 4
    · have h3 : ¬ ((sh.length : Int) < 4) := fun h => c1 ⟨h4, by omega⟩
      simp [runF, Fn.bind, Fn.env, F__law_near, e1, e2, a0, h4, h3, e3, sizeLine]
    · simp [runF, Fn.bind, Fn.env, F__law_near, e1, e2, a0, h4, e3, sizeLine]
  · have c1w' : (w == 1) = false := beq_false_of_ne c1w
    simp [runF, Fn.bind, Fn.env, F__law_near, e1, e2, c0', c1w', c2', e3, sizeLine]
end LW
namespace LW
open PySem L2 Wv IR
def odds : List D := [.non, .bl true, .bl false, .int 0, .int 1, .int 2, .int 4, .int 5, .int (-1), .int (-2), .int 9999999999999, .str "", .str "any", .str "0", .tup [], .lst [], .dic [] [], .tup [.int 0], .tup [.int 1], .lst [.int 1], .tup [.bl true], .tup [.int 1, .int 1], .tup [.int 0, .int 1], .tup [.int 1, .int 0], .tup [.int 2, .int 5], .tup [.int (-1), .int 0], .tup [.int (-1)], .tup [.bl false, .int 0], .tup [.str "1", .str "1"], .tup [.non], .tup [.tup []], .tup [.tup [], .tup []], .tup [.tup [.int 0], .non], .tup [.tup [.int 0], .tup [.int 0]], .tup [.tup [.int 0], .lst [.int 0]], .tup [.tup [.int 0, .int 0], .non], .tup [.tup [.int 1, .int 0]], .tup [.tup [.bl true], .tup []], .lst [.int 1, .int 1], .lst [.non, .non], .dic [.inl 0] [.int 1], .lst [.lst []], .tup [.int 1, .int 1, .int 1], .tup [.int 4, .int 4, .int 4, .int 4], .tup [.int 3, .int 3, .int 3, .int 3], .tup [.int 3, .int 3, .int 3, .int 4], .tup [.str "clear", .tup []], .tup [.str "doubtful", .int 0, .int 1, .tup [.int 0, .int 0]], .tup [.int 0, .int 1, .int 0], .tup [.tup [.tup [.tup [.int 0]]]], .dic [.inr "a"] [.lst [.int 0]], .tup [.int 1, .int 2, .int 3, .int 4, .int 4], .tup [.int 4, .int 4, .int 4, .int 1], .tup [.non, .non], .tup [.int 1, .int 1, .int 1, .int 1, .int 1, .int 1], .tup [.int 2, .int 2, .int 2, .int 2, .int 2], .tup [.tup [.int (-1)], .tup []], .tup [.tup [.int 4]], .tup [.int 0, .tup [.non, .int 0]]]
theorem odds_plain : (odds.all plainD) = true := by decide +kernel
theorem c__law_odds (m : Nat) (st : List Cl) : (prm pg true (m + 1)).call n__law_odds [] st = .ok (.ow (.lst odds)) st := by
  kernel_rfl
theorem cells_cut (ns : List Int) : ∃ xs : List Int, cutD (ns.map D.int) (some 1) (some 3) = xs.map D.int ∧ xs.length ≤ 3 := by
  refine ⟨(ns.drop (HT.sIx (ns.map D.int).length 0 (some 1))).take (HT.sIx (ns.map D.int).length (ns.map D.int).length (some 3) - HT.sIx (ns.map D.int).length 0 (some 1)), ?_, ?_⟩
  · unfold cutD
    rw [List.map_take, List.map_drop]
  · have e : HT.sIx (ns.map D.int).length (ns.map D.int).length (some 3) = min 3 (ns.map D.int).length := HT.sIx_nat _ _ 3
    rw [List.length_take, e]
    omega
theorem loop_invD {body : D → Ev → FS → SO} (I : List D → Ev → FS → Prop) (Q : SO → Prop) (xs : List D) (env : Ev) (s : FS)
    (h : ∀ a rest env s, I (a :: rest) env s → match body a env s with
      | .nx env1 s1 => I rest env1 s1
      | .ct env1 s1 => I rest env1 s1
      | .bk env1 s1 => Q (.nx env1 s1)
      | o => Q o) (h0 : ∀ env s, I [] env s → Q (.nx env s)) (i : I xs env s) : Q (loopS body xs env s) := by
  have z := loop_inv (fun d : D => d) I Q xs env s h h0 i
  rw [List.map_id'] at z
  exact z
/-- a value that no variant is equal to -/
structure Other (sh : List Int) (rs : List Rule) (d : D) : Prop where
  l : ∀ n s, 1 ≤ n → (prm pg true n).own2 .eq (eVar sh rs) d s = .ok (.fz (.bl false)) s
  r : ∀ n s, 1 ≤ n → (prm pg true n).own2 .eq d (eVar sh rs) s = .ok (.fz (.bl false)) s
  n : ∀ n s, 1 ≤ n → (prm pg true n).own2 .ne (eVar sh rs) d s = .ok (.fz (.bl true)) s
theorem other_plain {sh : List Int} {rs : List Rule} {d : D} (h : plainD d = true) : Other sh rs d :=
  ⟨fun n s hn => oeq_no hn sh rs (no_plain h) s, fun n s hn => oeq_data hn sh rs (no_plain h) h s, fun n s hn => one_no hn sh rs (no_plain h) s⟩
theorem other_sch {sh sh2 : List Int} {rs : List Rule} {rows : List (List Rule)} : Other sh rs (eSch sh2 rows) :=
  ⟨fun n s hn => oeq_no hn sh rs (no_sch _ _) s, fun n s hn => oeq_sch hn sh sh2 rows rs s, fun n s hn => one_no hn sh rs (no_sch _ _) s⟩
theorem things_loop {m : Nat} (hm : 2 ≤ m) {sh : List Int} {rs : List Rule} (xs : List D) (hx : ∀ d ∈ xs, Other sh rs d) (e0 e1 e2 e3 e5 e7 e8 e9 e10 : Option R) (y : Option D) (ol : List (Bool × Cl)) (st : List Cl) :
    ∃ (y' : Option D) (ol' : List (Bool × Cl)), loopS (forT (prm pg true m) (.n 6) (.cons (.ife (.not (.cal 10 (.cons (.lst (.cons (.oop .eq (.var 4) (.var 6)) (.cons (.oop .eq (.var 6) (.var 4)) (.cons (.oop .ne (.var 4) (.var 6)) .nil)))) (.cons (.lst (.cons (.con (.bl false)) (.cons (.con (.bl false)) (.cons (.con (.bl true)) .nil)))) .nil)))) (.cons (.ret (.con (.bl false))) .nil) .nil) .nil)) xs [e0, e1, e2, e3, some (.fz (eVar sh rs)), e5, y.map R.fz, e7, e8, e9, e10] ⟨ol, st⟩ = .nx [e0, e1, e2, e3, some (.fz (eVar sh rs)), e5, y'.map R.fz, e7, e8, e9, e10] ⟨ol', st⟩ := by
  have sm := fun st => c__law_same (n := m) (by omega) (Sm.lst (n := 5) (d := 0) (k := 3) (xs := [.bl false, .bl false, .bl true]) (fun y hy => by
    simp only [List.mem_cons, List.not_mem_nil, or_false] at hy
    rcases hy with rfl | rfl | rfl <;> exact Sm.bl _) (by simp)) (by decide) (by decide) st
  refine loop_invD (fun rest env s => (∀ d ∈ rest, Other sh rs d) ∧ ∃ (y : Option D) (ol : List (Bool × Cl)), env = [e0, e1, e2, e3, some (.fz (eVar sh rs)), e5, y.map R.fz, e7, e8, e9, e10] ∧ s = ⟨ol, st⟩) (fun o => ∃ (y' : Option D) (ol' : List (Bool × Cl)), o = .nx [e0, e1, e2, e3, some (.fz (eVar sh rs)), e5, y'.map R.fz, e7, e8, e9, e10] ⟨ol', st⟩) _ _ _ ?_ ?_ ⟨hx, y, ol, rfl, rfl⟩
  · rintro a rest env s ⟨h1, y, ol, rfl, rfl⟩
    have o := h1 a List.mem_cons_self
    have q1 := fun s => o.l m s (by omega)
    have q2 := fun s => o.r m s (by omega)
    have q3 := fun s => o.n m s (by omega)
    simp [q1, q2, q3, sizeLine, sm]
    exact ⟨fun d hd => h1 d (List.mem_cons_of_mem _ hd), ⟨some a, rfl⟩⟩
  · rintro env s ⟨_, y, ol, rfl, rfl⟩
    exact ⟨y, ol, rfl⟩
end LW
namespace LW
open PySem L2 Wv IR
theorem var_cls (sh : List Int) (rs : List Rule) (st : List Cl) : clsOf (eVar sh rs) st = some (k_Variant, [a_sizes, a_kept], [eInts sh, eRules rs]) := rfl
theorem fn_text {n : Nat} (vs : List D) : (prm pg true n).fnOf (k_Variant, [a_sizes, a_kept], vs) a_text = some n_Variant_text := by
  show (if [a_sizes, a_kept].contains a_text = true then none else (prm pg true n).methOf k_Variant a_text) = _
  rw [if_neg (by decide), mo_Variant_text]
theorem c_law {n : Nat} (hn : 12 ≤ n) (ns : List Int) : ∃ st, (prm pg true n).call n_law [.scr ns] [] = .ok (.fz (.bl true)) st := by
  obtain ⟨m, rfl, hm⟩ := succ_of hn
  rw [call_eq g_law]
  obtain ⟨xs, hx, hl⟩ := cells_cut ns
  obtain ⟨c0', ec⟩ : ∃ c, ∀ st, (prm pg true m).call n__law_cell [.scr ns, .int 0] st = .ok (.fz (.int c)) st := by
    by_cases h : 0 < ns.length
    · refine ⟨ns[0], fun st => ?_⟩
      obtain ⟨k, rfl, hk⟩ := succ_of (show 1 ≤ m by omega)
      have z : atI ns (0 : Int) = some ns[0] := atI_nat (j := 0) (List.getElem?_eq_getElem h)
      have h' : (0 : Int) < ns.length := by omega
      rw [call_eq g__law_cell]
      simp [runF, Fn.bind, Fn.env, F__law_cell, h, h', z]
    · refine ⟨0, fun st => ?_⟩
      obtain ⟨k, rfl, hk⟩ := succ_of (show 1 ≤ m by omega)
      have h' : ¬ (0 : Int) < ns.length := by omega
      rw [call_eq g__law_cell]
      simp [runF, Fn.bind, Fn.env, F__law_cell, h, h']
  have sz : 1 + xs.length ≤ 16777216 := by omega
  obtain ⟨m', em⟩ : ∃ m', m = m' + 1 := ⟨m - 1, by omega⟩
  have od : ∀ st, (prm pg true m).call n__law_odds [] st = .ok (.ow (.lst odds)) st := fun st => by
    rw [em]
    exact c__law_odds m' st
  have odl : odds.length = 59 := by decide +kernel
  have f1 : ∀ st, (prm pg true m).call n__law_is_right [.tup [.int 1], .tup [.non], .tup [.int 1], .tup [.tup [.int 0]]] st = .ok (.fz (.bl true)) st := fun st =>
    c__law_is_right (n := m) (by omega) (sh := [1]) (rs := [none]) (sh2 := [1]) (rs2 := [some [0]]) ⟨by decide, by decide, by decide⟩ ⟨rfl, fun p hp => by
      rw [List.mem_singleton.mp hp]
      trivial⟩ ⟨by decide, by decide, by decide⟩ ⟨rfl, fun p hp => by
      rw [List.mem_singleton.mp hp]
      exact ⟨by decide, by decide, by decide⟩⟩ st
  have two : ∀ p ∈ [(none, (1 : Int)), ((some [] : Rule), 1)], OkR p.2 p.1 := fun p hp => by
    simp only [List.mem_cons, List.not_mem_nil, or_false] at hp
    rcases hp with rfl | rfl
    · trivial
    · exact ⟨by decide, by decide, by decide⟩
  have two' : ∀ p ∈ [(none, (1 : Int)), ((some [] : Rule), 2)], OkR p.2 p.1 := fun p hp => by
    simp only [List.mem_cons, List.not_mem_nil, or_false] at hp
    rcases hp with rfl | rfl
    · trivial
    · exact ⟨by decide, by decide, by decide⟩
  have f2 : ∀ st, (prm pg true m).call n__law_is_right [.tup [.int 1, .int 1], .tup [.non, .tup []], .tup [.int 1, .int 2], .tup [.non, .tup []]] st = .ok (.fz (.bl true)) st := fun st =>
    c__law_is_right (n := m) (by omega) (sh := [1, 1]) (rs := [none, some []]) (sh2 := [1, 2]) (rs2 := [none, some []]) ⟨by decide, by decide, by decide⟩ ⟨rfl, two⟩ ⟨by decide, by decide, by decide⟩ ⟨rfl, two'⟩ st
  simp [runF, Fn.bind, Fn.env, F_law, ec, slcD, hx, sizeLine, sz]
  rw [← List.map_cons]
  refine loop_inv D.int (fun rest env s => ∃ (st' : List Cl) (ol : List (Bool × Cl)) (x1 x2 x3 x4 x6 x7 x8 x9 x10 : Option D) (x5 : Option R), env = [some (.fz (.scr ns)), x1.map R.fz, x2.map R.fz, x3.map R.fz, x4.map R.fz, x5, x6.map R.fz, x7.map R.fz, x8.map R.fz, x9.map R.fz, x10.map R.fz] ∧ s = ⟨ol, st'⟩)
    (fun o => ∃ st', endOf (o.seq _) = .ok (.fz (.bl true)) st') _ _ _ ?_ ?_ ⟨[], _, none, none, none, none, none, none, none, none, none, none, rfl, rfl⟩
  · intro a rest env s h
    obtain ⟨st', ol, x1, x2, x3, x4, x6, x7, x8, x9, x10, x5, h1, h2⟩ := h
    subst h1 h2
    obtain ⟨st1, e2, hl, p1⟩ := c__law_pen (n := m) (by omega) a st'
    have r20 : rngD [.int 20] = some ((List.range 20).map fun i : Nat => D.int i) := rng_nat 20 (by omega)
    simp [e2, r20]
    generalize hL : loopS _ _ _ _ = o
    obtain ⟨st2, ol2, y3, y9, y10, sh, rs, rfl, p2, oks, ok⟩ : ∃ (st2 : List Cl) (ol2 : List (Bool × Cl)) (y3 y9 y10 : Option D) (sh : List Int) (rs : List Rule), o = .nx [some (.fz (.scr ns)), some (.fz (.int a)), some (.fz (.cel st'.length)), y3.map R.fz, x4.map R.fz, x5, x6.map R.fz, some (.fz (eInts sh)), some (.fz (eRules rs)), y9.map R.fz, y10.map R.fz] ⟨ol2, st2⟩ ∧ PenAt st2 st'.length ∧ OkSh sh ∧ OkRs sh rs := by
      rw [← hL]
      refine loop_inv (fun i : Nat => D.int i) (fun rest env s => ∃ (st2 : List Cl) (ol : List (Bool × Cl)) (y3 y7 y8 y9 y10 : Option D), env = [some (.fz (.scr ns)), some (.fz (.int a)), some (.fz (.cel st'.length)), y3.map R.fz, x4.map R.fz, x5, x6.map R.fz, y7.map R.fz, y8.map R.fz, y9.map R.fz, y10.map R.fz] ∧ s = ⟨ol, st2⟩ ∧ PenAt st2 st'.length ∧ (rest.length = 20 ∨ ∃ (sh : List Int) (rs : List Rule), y7 = some (eInts sh) ∧ y8 = some (eRules rs) ∧ OkSh sh ∧ OkRs sh rs))
        (fun o => ∃ (st2 : List Cl) (ol2 : List (Bool × Cl)) (y3 y9 y10 : Option D) (sh : List Int) (rs : List Rule), o = .nx [some (.fz (.scr ns)), some (.fz (.int a)), some (.fz (.cel st'.length)), y3.map R.fz, x4.map R.fz, x5, x6.map R.fz, some (.fz (eInts sh)), some (.fz (eRules rs)), y9.map R.fz, y10.map R.fz] ⟨ol2, st2⟩ ∧ PenAt st2 st'.length ∧ OkSh sh ∧ OkRs sh rs) _ _ _ ?_ ?_ ⟨st1, ol, x3, x7, x8, x9, x10, rfl, rfl, p1, .inl (by simp)⟩
      · intro b rest env s h
        obtain ⟨st2, ol, y3, y7, y8, y9, y10, h1, h2, p, _⟩ := h
        subst h1 h2
        obtain ⟨sh, st3, e3, oks, p3⟩ := c__law_draw_shape (n := m) (by omega) p
        obtain ⟨rs, st4, e4, ok, p4⟩ := c__law_draw_rules (n := m) (by omega) p3.pen oks
        obtain ⟨sh2, rs2, st5, e5, oks2, ok2, p5⟩ := c__law_near (n := m) (by omega) p4.pen oks ok
        have g1 := fun st => c__law_is_right (n := m) (by omega) oks ok oks2 ok2 st
        have g2 := fun st => c__law_is_right (n := m) (by omega) oks ok oks ok st
        simp [e3, e4, e5, g1, g2]
        exact ⟨st5, ol, some (.int b), some (eInts sh), some (eRules rs), ⟨rfl, rfl, rfl, ⟨some (eInts sh2), rfl⟩, ⟨some (eRules rs2), rfl⟩⟩, ⟨rfl, rfl⟩, p5.pen, .inr ⟨sh, rfl, rs, rfl, oks, ok⟩⟩
      · rintro env s ⟨st2, ol, y3, y7, y8, y9, y10, rfl, rfl, p, z⟩
        rcases z with z | ⟨sh, rs, rfl, rfl, oks, ok⟩
        · cases z
        · exact ⟨st2, ol, y3, y9, y10, sh, rs, rfl, p, oks, ok⟩
    have mv := fun st => m_Variant (n := m) (by omega) oks ok st
    have mt := fun st => c_Variant_text (n := m) (by omega) oks ok st
    have l5 := oks.len
    have lr := ok.len
    have mr := fun s => var_rpo (n := m) (by omega) (sh := sh) (rs := rs) (by omega) s
    have ms : ∀ st, (prm pg true m).make k_Schema [eInts sh, eVar sh rs] st = .ok (.fz (eSch sh [rs])) st := fun st => m_Schema (n := m) (by omega) (rows := [rs]) oks (by simp) (by simp) st
    simp [mv, var_cls, fn_text, mt, -kRpo1_ap, mr, ms, od, odl, sizeLine]
    obtain ⟨y', ol', hy⟩ := things_loop (m := m) (by omega) (sh := sh) (rs := rs) (odds ++ [eInts sh, eRules rs, .str (textS rs), .str (titV rs), .lst [eVar sh rs], eSch sh [rs]]) (fun d hd => by
      rcases List.mem_append.mp hd with z | z
      · exact other_plain (List.all_eq_true.mp odds_plain d z)
      · simp only [List.mem_cons, List.not_mem_nil, or_false] at z
        rcases z with rfl | rfl | rfl | rfl | rfl | rfl
        · exact other_plain rfl
        · exact other_plain rfl
        · exact other_plain rfl
        · exact other_plain rfl
        · exact other_plain rfl
        · exact other_sch) (some (.fz (.scr ns))) (some (.fz (.int a))) (some (.fz (.cel st'.length))) (y3.map R.fz) (some (.own (ol2.length + 1))) (some (.fz (eInts sh))) (some (.fz (eRules rs))) (y9.map R.fz) (y10.map R.fz) x6 _ st2
    rw [hy]
    simp
    exact ⟨⟨some (.int a), rfl⟩, ⟨some (.cel st'.length), rfl⟩, ⟨y3, rfl⟩, ⟨some (eVar sh rs), rfl⟩, ⟨y', rfl⟩, ⟨some (eInts sh), rfl⟩, ⟨some (eRules rs), rfl⟩, ⟨y9, rfl⟩, ⟨y10, rfl⟩⟩
  · rintro env s ⟨st', ol, x1, x2, x3, x4, x6, x7, x8, x9, x10, x5, rfl, rfl⟩
    simp [f1, f2, sizeLine]
theorem law_true (ns : List Int) : ∃ st, (prm IR.pg true 40).call 0 [.scr ns] [] = .ok (.fz (.bl true)) st := c_law (by omega) ns
end LW
open PySem PySem.W PySem.Calls PyProof.Rows
set_option maxRecDepth 100000 in
set_option maxHeartbeats 0 in
theorem PySem.Challenge.cw_whichvariant_k08_equal_variants_holds : PySem.Challenge.rw_whichvariant_k08_equal_variants.Holds := by
  w_on; o_law
  refine HandSHeadRun.head_any (r := OpenLaw.row PySem.Challenge.rw_whichvariant_k08_equal_variants) (q := view (OpenLaw.row PySem.Challenge.rw_whichvariant_k08_equal_variants).prog [60]) (H := Wv.hookW 5 IR.pg) (ob := Wv.obsW 5 IR.pg) (M := 20000) (loose := HS.names) (d := HandSHeadRun.topDef (OpenLaw.row PySem.Challenge.rw_whichvariant_k08_equal_variants).prog 60) (kwd := []) Wv.obsW_eq
    (by kernel_rfl) (fun s => by kernel_rfl) HS.run (by kernel_rfl) (by kernel_rfl) (by kernel_rfl) (by rfl) (by first | assumption | decide +kernel) (by decide +kernel) ⟨rfl, rfl, rfl, rfl, rfl, by decide +kernel⟩ ?hw ?hc
  case hw => w_witness2
  case hc =>
    exact Wv.law_walk (l := PySem.Challenge.rw_whichvariant_k08_equal_variants) (n := 63) (N := 40) (i := 0) (f := IR.f0) rfl (by decide) (by kernel_rfl) ⟨rfl, by decide, by decide⟩ rfl (by kernel_rfl) fun ns _ => LW.law_true ns
