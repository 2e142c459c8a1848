import PyProof.Rows.All
import Wide.All
import OpenK.AllK
import Wide.FinOn
import HandS.ForMost
import HandS.ForExc
import HandS.IsInst
import HandS.FStr
import HandS.Conv
import HandS.Flow
import HandS.Star
import HandS.StrMore
import HandS.Zip
import HandS.RaiseMore
import HandS.ExcCtx
import OpenK.KOps
import KE.KFmtOwn
import HandS.Property
import HandS.ClsMeth
import HandS.HeadWalk
import HandS.Comp
import HandS.Iter
import KE.GoesEnum
import KE.GoesMore
import HandS.Small
import KE.KUnpackStar
import HandS.Words
import HandS.Ends
import HandS.Head0
import HandS.Head1
import HandS.Head2
import HandS.HeadHook1
import HandS.HeadHook2
import HandS.Defaults
import PySem.Challenge.RW_salebids_k02_rules_made
set_option Elab.async false
set_option linter.all false
/-! SbSem: data, a small syntax, its meaning (no machine in sight). -/
namespace SB
open PySem L2
/-- a value as a tree -/
inductive Dat where
  | non
  | bl (b : Bool)
  | int (i : Int)
  | str (s : PySem.Str)
  | tup (l : List Dat)
  | lst (l : List Dat)
  | dic (l : List (L2.Key × Dat))
  | obj (c : Nat) (fs : List (PySem.Str × Dat))
  | exc (c : Nat) (fs : List (PySem.Str × Dat))
  | cls (c : Nat)
  deriving Inhabited
/-- a slot of a frame: data that stands for ever, or an object of the frame's own that may still change -/
inductive Slo where
  | dat (d : Dat)
  | own (d : Dat)
  deriving Inhabited
abbrev Frm := List (Option Slo)
/-- what an expression gives: data, a new object of nobody's yet, or the own object of a slot -/
inductive RV where
  | dat (d : Dat)
  | own (d : Dat)
  | bor (i : Nat)
  deriving Inhabited
/-- an exception: its class, what it holds -/
structure Exn where
  c : Nat
  fs : List (PySem.Str × Dat)
abbrev M (α : Type) := Frm → Option (Except Exn α × Frm)
def ret {α : Type} (a : α) : M α := fun m => some (.ok a, m)
def bnd {α β : Type} (x : M α) (f : α → M β) : M β := fun m => match x m with
  | none => none
  | some (.error e, m1) => some (.error e, m1)
  | some (.ok a, m1) => f a m1
def lft {α : Type} (o : Option α) : M α := fun m => match o with
  | none => none
  | some a => some (.ok a, m)
def lft' {α : Type} (o : Frm → Option α) : M α := fun m => match o m with
  | none => none
  | some a => some (.ok a, m)
/-! ### values -/
def flat : Dat → Bool
  | .non => true
  | .bl _ => true
  | .int _ => true
  | .str _ => true
  | _ => false
def eqF : Dat → Dat → Bool
  | .non, .non => true
  | .bl a, .bl b => a == b
  | .bl a, .int b => (if a then 1 else 0) == b
  | .int a, .bl b => a == (if b then 1 else 0)
  | .int a, .int b => a == b
  | .str a, .str b => a == b
  | _, _ => false
mutual
def pd : Dat → Option PyData
  | .non => some .none
  | .bl b => some (.bool b)
  | .int i => some (.int i)
  | .str s => some (.str s)
  | .tup l => (pds l).map .tuple
  | .lst l => (pds l).map .list
  | .dic [] => some (.dict [])
  | _ => none
def pds : List Dat → Option (List PyData)
  | [] => some []
  | d :: r => match pd d, pds r with
    | some x, some y => some (x :: y)
    | _, _ => none
end
/-- what a slot's own object, or a datum, is now -/
def peek (m : Frm) : RV → Option Dat
  | .dat d => some d
  | .own d => some d
  | .bor i => match m[i]? with
    | some (some (.own d)) => some d
    | some (some (.dat d)) => some d
    | _ => none
/-- a new object is from now on data -/
def prj : RV → RV
  | .own d => .dat d
  | r => r
/-- as data: a slot's own object is from now on data, too -/
def frz (r : RV) : M Dat := fun m => match r with
  | .dat d => some (.ok d, m)
  | .own d => some (.ok d, m)
  | .bor i => match m[i]? with
    | some (some (.own d)) => some (.ok d, m.set i (some (.dat d)))
    | some (some (.dat d)) => some (.ok d, m)
    | _ => none
def frzs : List RV → M (List Dat)
  | [] => ret []
  | r :: rs => bnd (frz r) fun d => bnd (frzs rs) fun ds => ret (d :: ds)
def look (r : RV) : M Dat := fun m => match peek m r with
  | none => none
  | some d => some (.ok d, m)
def looks : List RV → M (List Dat)
  | [] => ret []
  | r :: rs => bnd (look r) fun d => bnd (looks rs) fun ds => ret (d :: ds)
/-- flat values but a number beside a truth -/
def scalD : Dat → Dat → Bool
  | .int _, .bl _ => false
  | .bl _, .int _ => false
  | x, y => flat x && flat y
def eqD (x y : Dat) : Option Bool :=
  if scalD x y then some (eqF x y) else
  match pd x, pd y with
  | some a, some b => if SeqAt.shaped a && SeqAt.shaped b then some (PyData.eqv a b) else none
  | _, _ => none
def small64 (i : Int) : Bool := decide (-(2 ^ 64) < i) && decide (i < 2 ^ 64)
def binV (op : Operator) (x y : Dat) : Option RV := match op, x, y with
  | .Add, .int i, .int j => some (.dat (.int (i + j)))
  | .Add, .str a, .str b => if a.length + b.length ≤ sizeLine then some (.dat (.str (a ++ b))) else none
  | .Add, .lst a, .lst b => if a.length + b.length ≤ sizeLine then some (.own (.lst (a ++ b))) else none
  | .Sub, .int i, .int j => some (.dat (.int (i - j)))
  | .Mult, .int i, .int j => if small64 i || small64 j then some (.dat (.int (i * j))) else none
  | .Mod, .int i, .int j => if 0 < j then some (.dat (.int (i % j))) else none
  | .FloorDiv, .int i, .int j => if 0 < j ∧ j < 1073741824 then some (.dat (.int (i / j))) else none
  | .Pow, .int i, .int j => if 0 ≤ j ∧ j ≤ 1000000 ∧ i.natAbs < 2 ^ 64 then some (.dat (.int (i ^ j.toNat))) else none
  | _, _, _ => none
def unaV (op : UnaryOp) (x : Dat) : Option RV := match op, x with
  | .USub, .int i => some (.dat (.int (-i)))
  | _, _ => none
def inV (x : Dat) (l : List Dat) : Option Bool := if flat x && l.all flat then some (l.any fun y => eqF y x) else none
def keyOf : Dat → Option L2.Key
  | .int i => some (Sum.inl i)
  | .str s => some (Sum.inr s)
  | _ => none
def valD (l : List (L2.Key × Dat)) (k : L2.Key) : Option Dat := (l.find? fun kv => decide (kv.1 = k)).map (·.2)
def isIn (x y : Dat) : Option Bool := match y with
  | .lst l => inV x l
  | .tup l => inV x l
  | .str z => match x with
    | .str a => match a.cps.toList with
      | [c] => some (decide (c ∈ z.cps.toList))
      | _ => none
    | _ => none
  | .dic l => (keyOf x).map fun k => (valD l k).isSome
  | _ => none
def cmpV (op : CmpOp) (x y : Dat) : Option Bool := match op, x, y with
  | .Eq, _, _ => eqD x y
  | .NotEq, _, _ => (eqD x y).map (!·)
  | .Lt, .int i, .int j => some (decide (i < j))
  | .LtE, .int i, .int j => some (decide (i ≤ j))
  | .Gt, .int i, .int j => some (decide (j < i))
  | .GtE, .int i, .int j => some (decide (j ≤ i))
  | .Lt, .str a, .str b => some (decide (a.cps.toList < b.cps.toList))
  | .LtE, .str a, .str b => some (!decide (b.cps.toList < a.cps.toList))
  | .Is, _, .non => some (match x with | .non => true | _ => false)
  | .IsNot, _, .non => some (match x with | .non => false | _ => true)
  | .In, _, _ => isIn x y
  | .NotIn, _, .dic _ => none
  | .NotIn, _, _ => (isIn x y).map (!·)
  | _, _, _ => none
def idxV (x i : Dat) : Option Dat := match x, i with
  | .lst l, .int k => L2.atI l k
  | .tup l, .int k => L2.atI l k
  | .str z, .int k => if z.length ≤ sizeLine then (L2.atI z.cps.toList k).map fun c => .str ⟨#[c]⟩ else none
  | .dic l, _ => match (keyOf i).bind (valD l) with
    | some d => if flat d then some d else none
    | none => none
  | _, _ => none
def partV : Dat → Option (Option Int)
  | .non => some none
  | .int i => some (some i)
  | _ => none
def partD : Option Int → Dat
  | none => .non
  | some i => .int i
def cutD (l : List Dat) (lo hi : Option Int) : List Dat := (l.drop (HT.sIx l.length 0 lo)).take (HT.sIx l.length l.length hi - HT.sIx l.length 0 lo)
def sliV (x lo hi : Dat) : Option RV := match partV lo, partV hi with
  | some a, some b => match x with
    | .lst l => some (.own (.lst (cutD l a b)))
    | .tup l => if HT.sIx l.length 0 a = 0 ∧ HT.sIx l.length l.length b = l.length then none else some (.dat (.tup (cutD l a b)))
    | .str z => if z.length ≤ sizeLine then some (.dat (.str (L2.cutS z a b))) else none
    | _ => none
  | _, _ => none
def lenV : Dat → Option Int
  | .str z => if z.length ≤ sizeLine then some z.length else none
  | .lst l => some l.length
  | .tup l => some l.length
  | .dic l => some l.length
  | _ => none
def intsD : List Dat → Option (List Int)
  | [] => some []
  | .int i :: r => (intsD r).map (i :: ·)
  | _ => none
def strsD : List Dat → Option (List PySem.Str)
  | [] => some []
  | .str s :: r => (strsD r).map (s :: ·)
  | _ => none
def blsD : List Dat → Option (List Bool)
  | [] => some []
  | .bl b :: r => (blsD r).map (b :: ·)
  | _ => none
def strV : Dat → Option PySem.Str
  | .int i => if i.natAbs.log2 < 1920 then some (Str.ofString (toString i)) else none
  | .str s => some s
  | _ => none
def reprV (x : Dat) : Option PySem.Str := match pd x with
  | some p => if p.showable && !p.hasDict && decide (p.depth ≤ 60) && decide (p.shown.length ≤ sizeLine) then some p.shown else none
  | none => none
/-- a built-in function or class, by the values of its arguments -/
inductive Bf where
  | len | abs | int | str | repr | tuple | list | max | min | divmod | all | any | bool
  deriving DecidableEq
def bltV (f : Bf) (ds : List Dat) : Option RV := match f, ds with
  | .len, [x] => (lenV x).map fun n => .dat (.int n)
  | .abs, [.int i] => some (.dat (.int (if i < 0 then -i else i)))
  | .int, [.int i] => some (.dat (.int i))
  | .int, [.str s] => if s.length ≤ 640 then (PySem.intText? s).map fun n => .dat (.int n) else none
  | .str, [x] => (strV x).map fun s => .dat (.str s)
  | .repr, [x] => (reprV x).map fun s => .dat (.str s)
  | .tuple, [.lst l] => some (.dat (.tup l))
  | .tuple, [.tup l] => some (.dat (.tup l))
  | .list, [.lst l] => some (.own (.lst l))
  | .list, [.tup l] => some (.own (.lst l))
  | .max, [.int i, .int j] => some (.dat (.int (if j > i then j else i)))
  | .min, [.int i, .int j] => some (.dat (.int (if j < i then j else i)))
  | .divmod, [.int i, .int j] => if 0 < j ∧ j < 1073741824 then some (.dat (.tup [.int (i / j), .int (i % j)])) else none
  | .all, [.lst l] => (blsD l).map fun bs => .dat (.bl (bs.all id))
  | .any, [.lst l] => (blsD l).map fun bs => .dat (.bl (bs.any id))
  | _, _ => none
/-- the methods of texts and lists that change nothing -/
inductive Mf where
  | split | join | partition | endswith | index | count
  deriving DecidableEq
def metV (f : Mf) (o : Dat) (ds : List Dat) : Option RV := match f, o, ds with
  | .split, .str a, [.str b] => if (b.length == 0) = false ∧ a.length + 2 ≤ sizeLine then some (.own (.lst ((Txt.split a b).map .str))) else none
  | .join, .str a, [.lst l] => match strsD l with
    | some ys => if (ys.map (·.length)).sum + ys.length * a.length ≤ 16777216 then some (.dat (.str (Txt.join a ys))) else none
    | none => none
  | .partition, .str a, [.str b] => if (b.length == 0) = false ∧ a.length ≤ sizeLine then
      some (.dat (.tup [.str (Txt.partition a b).1, .str (Txt.partition a b).2.1, .str (Txt.partition a b).2.2])) else none
  | .endswith, .str a, [.str b] => some (.dat (.bl (Txt.endswith a b)))
  | .index, .lst l, [y] => if flat y && l.all flat then (l.findIdx? fun z => eqF z y).map fun (j : Nat) => .dat (.int (j : Int)) else none
  | _, _, _ => none
/-- whose method it is -/
def metK (f : Mf) (d : Dat) : Option Unit := match f, d with
  | .split, .str _ => some ()
  | .join, .str _ => some ()
  | .partition, .str _ => some ()
  | .endswith, .str _ => some ()
  | .index, .lst _ => some ()
  | _, _ => none
/-! ### terms -/
/-- a target of names -/
inductive Pat where
  | nam (i : Nat)
  | tup (p : Pat)
  | nil
  | cons (p r : Pat)
  | bad
  deriving DecidableEq
/-- a class: a built-in one, or one of the program's by its number -/
inductive Cl where
  | ty (n : String)
  | own (c : Nat)
  deriving DecidableEq
/-- what is walked: a thing, enumerate, zip, range(n), range(a, b) -/
inductive Ik where
  | pl | en | zi | r1 | r2
  deriving DecidableEq
inductive Ex where
  | bad
  | nil
  | cons (e r : Ex)
  | star (e r : Ex)
  | var (i : Nat)
  | cst (d : Dat)
  | bin (op : Operator) (a b : Ex)
  | una (op : UnaryOp) (a : Ex)
  | cmp (op : CmpOp) (a b : Ex)
  | chn (o1 o2 : CmpOp) (a b c : Ex)
  | and (a b : Ex)
  | or (a b : Ex)
  | not (a : Ex)
  | ife (c a b : Ex)
  | tup (es : Ex)
  | lst (es : Ex)
  | dic0
  | idx (a b : Ex)
  | sli (a lo hi : Ex)
  | att (a : Ex) (f : PySem.Str)
  | cal (f : Nat) (es : Ex)
  | calm (f : Nat) (e es : Ex)
  | mak (c : Nat) (es : Ex)
  | makv (i c : Nat) (es : Ex)
  | blt (f : Bf) (es : Ex)
  | isi (e : Ex) (c : Cl)
  | kcal (f : Nat) (ks : List PySem.Str) (ix : List Nat) (es kv : Ex)
  | kmak (c : Nat) (ks : List PySem.Str) (ix : List Nat) (es kv : Ex)
  | omet (o : Ex) (m : PySem.Str) (ks : List PySem.Str) (ix : List Nat) (es kv : Ex)
  | cmet (f : Nat) (c : Nat) (ks : List PySem.Str) (ix : List Nat) (es kv : Ex)
  | met (f : Mf) (o es : Ex)
  | app (i : Nat) (e : Ex)
  | pop (i : Nat) (e : Ex)
  | comp (elt : Ex) (p : Pat) (k : Ik) (it it2 : Ex) (hc : Bool) (cond : Ex) (own : List Nat)
  | jst (es : Ex)
  | fmt (e : Ex)
  deriving Inhabited
/-- a target of an assignment -/
inductive Tg where
  | pat (p : Pat)
  | tup (t : Tg)
  | sub (i : Nat) (e : Ex)
  | att (i : Nat) (f : PySem.Str)
  | nil
  | cons (t r : Tg)
  | bad
inductive Stm where
  | bad
  | nil
  | seq (s r : Stm)
  | asg (t : Tg) (e : Ex)
  | par (i j : Nat) (a b : Ex)
  | hdr (i j : Nat) (e : Ex)
  | exp (e : Ex)
  | ret (e : Ex)
  | retn
  | ife (c : Ex) (a b : Stm)
  | loop (p : Pat) (k : Ik) (it it2 : Ex) (body : Stm)
  | whl (c : Ex) (body : Stm)
  | rai (c : Nat) (es : Ex)
  | tryf (body : Stm) (cs : List Nat) (i : Option Nat) (suite : Stm)
  | tryr (body : Stm) (cs : List Nat) (c : Nat) (es : Ex)
  | tryq (body : Stm)
  | pas
  | brk
  | cnt
  deriving Inhabited
/-- what a statement comes to -/
inductive Out where
  | nxt
  | brk
  | cnt
  | ret (r : RV)
  | exc (x : Exn)
/-! ### the program's table -/
structure Fd where
  np : Nat
  n : Nat
  /-- its first argument's object may change -/
  mt : Bool
  /-- exceptions that leave it were raised where nothing was handled -/
  nn : Bool
  body : Stm
  /-- how keywords may stand in its calls: how many values by position, the names in their order, where each parameter's value stands -/
  kws : List (Nat × List PySem.Str × List Nat) := []
structure Cd where
  /-- a class of exceptions -/
  exc : Bool
  /-- what __init__ of an exception stores -/
  attr : PySem.Str
  /-- the number of __init__ -/
  init : Option Nat
  /-- the names that its instances may hold -/
  flds : List PySem.Str
  /-- properties: name, getter -/
  props : List (PySem.Str × Nat)
  /-- methods: name, def -/
  mets : List (PySem.Str × Nat)
  /-- the classes of the program that it is of, itself among them -/
  ups : List Nat
  /-- isinstance of the built-in ones is known -/
  isb : Bool
  /-- isinstance of these classes of the program is known -/
  iss : List (Nat × Bool)
  /-- built-in values are not of it -/
  isn : Bool
structure Tab where
  fns : List Fd
  cls : List Cd
/-- the meaning of calls: a def by its number, its arguments; what it gives, and its first argument's object behind it -/
abbrev Calls := Nat → List Slo → Option (Except Exn RV × Option Dat)
/-! ### meaning -/
def bindP : Pat → Dat → Frm → Option Frm
  | .nam i, d, m => if i < m.length then some (m.set i (some (.dat d))) else none
  | .tup p, .tup l, m => bindPs p l m
  | _, _, _ => none
where
  bindPs : Pat → List Dat → Frm → Option Frm
  | .nil, [], m => some m
  | .cons p r, d :: ds, m => match bindP p d m with
    | some m1 => bindPs r ds m1
    | none => none
  | _, _, _ => none
/-- its slots -/
def patIx : Pat → List Nat
  | .nam i => [i]
  | .tup p => patIx p
  | .cons p r => patIx p ++ patIx r
  | _ => []
def isOwn : Option (Option Slo) → Bool
  | some (some (.own _)) => true
  | _ => false
def wipeF (m : Frm) : List Nat → Frm
  | [] => m
  | i :: r => (wipeF m r).set i none
/-- the slots of the list as in m0, the rest as in m -/
def backF (m0 m : Frm) : List Nat → Frm
  | [] => m
  | i :: r => (backF m0 m r).set i (m0[i]?.getD none)
def oneSign (c : Nat) : Dat := .str ⟨#[c]⟩
def itemsV : Dat → Option (List Dat)
  | .lst l => some l
  | .tup l => some l
  | .str z => some (z.cps.toList.map oneSign)
  | _ => none
def enumV (k : Nat) : List Dat → List Dat
  | [] => []
  | d :: r => .tup [.int (k : Nat), d] :: enumV (k + 1) r
def zipV : List Dat → List Dat → List Dat
  | x :: xs, y :: ys => .tup [x, y] :: zipV xs ys
  | _, _ => []
def rngV (lo : Int) : Nat → List Dat
  | 0 => []
  | n + 1 => .int lo :: rngV (lo + 1) n
def asBl : RV → Option Bool
  | .dat (.bl b) => some b
  | _ => none
section
variable (T : Tab) (C : Calls)
/-- a def's call behind its arguments -/
def callF (f : Nat) (ds : List Dat) : M RV := fun m => match C f (ds.map .dat) with
  | some (r, _) => some (r, m)
  | none => none
/-- .. whose first argument may change: an own object of a slot, or a new one -/
def callM (f : Nat) (r0 : RV) (ds : List Dat) : M RV := fun m => match r0 with
  | .own d => match C f (.own d :: ds.map .dat) with
    | some (r, _) => some (r, m)
    | none => none
  | .bor i => match m[i]? with
    | some (some (.own d)) => match C f (.own d :: ds.map .dat) with
      | some (r, some d') => some (r, m.set i (some (.own d')))
      | _ => none
    | _ => none
  | .dat _ => none
/-- a new instance: its __init__ -/
def makeM (c : Nat) (ds : List Dat) : M RV := match T.cls[c]? with
  | some cd => if cd.exc then fun _ => none else match cd.init with
    | some g => fun m => match C g (.own (.obj c []) :: ds.map .dat) with
      | some (.ok (.dat .non), some (.obj c' fs)) => if c' = c then some (.ok (.dat (.obj c fs)), m) else none
      | some (.error x, some (.obj _ _)) => some (.error x, m)
      | _ => none
    | none => fun _ => none
  | none => fun _ => none
/-- the slot holds this class -/
def clsM (i c : Nat) : M Unit := lft' fun m => match m[i]?, T.cls[c]? with
  | some (some (.dat (.cls c'))), some cd => if c' = c ∧ cd.exc = false then some () else none
  | _, _ => none
/-- a getter's call: nothing is raised -/
def callP (f : Nat) (ds : List Dat) : M RV := fun m => match C f (ds.map .dat) with
  | some (.ok r, _) => some (.ok r, m)
  | _ => none
def attV (r : RV) (d : Dat) (f : PySem.Str) : M RV := match d with
  | .obj c fs => match T.cls[c]? with
    | some cd => if cd.exc then fun _ => none else if cd.flds.contains f then lft ((fs.lookup f).map .dat) else match cd.props.lookup f with
      | some g => bnd (frz r) fun d => callP C g [d]
      | none => fun _ => none
    | none => fun _ => none
  | _ => fun _ => none
/-- a method of the object at the head, by its class -/
def specM (f : PySem.Str) (c : Nat) (rs : List RV) : M RV := match T.cls[c]? with
  | some cd => if cd.exc then fun _ => none else match cd.mets.lookup f with
    | some g => bnd (frzs rs) fun ds => callF C g ds
    | none => fun _ => none
  | none => fun _ => none
def isLen : RV → Option RV
  | .dat (.int n) => if 0 ≤ n ∧ n < 2 ^ 63 then some (.dat (.int n)) else none
  | _ => none
def isTxt : RV → Option RV
  | .dat (.str s) => some (.dat (.str s))
  | _ => none
def isTru : RV → Option RV
  | .dat (.bl s) => some (.dat (.bl s))
  | _ => none
/-- a built-in function: of an object by its class's method -/
def bltM (f : Bf) (rs : List RV) (ds : List Dat) : M RV := match f, ds with
  | .len, [.obj c _] => bnd (specM T C "__len__" c rs) fun r => lft (isLen r)
  | .str, [.obj c _] => bnd (specM T C "__str__" c rs) fun r => lft (isTxt r)
  | .bool, [.obj c _] => bnd (specM T C "__bool__" c rs) fun r => lft (isTru r)
  | _, _ => lft (bltV f ds)
def idxM (r k : RV) (x i : Dat) : M RV := match x with
  | .obj c _ => specM T C "__getitem__" c [r, k]
  | _ => lft ((idxV x i).map .dat)
/-- which def is a method of this object -/
def metI (d : Dat) (f : PySem.Str) : Option Nat := match d with
  | .obj c fs => match T.cls[c]? with
    | some cd => if cd.exc then none else match cd.mets.lookup f with
      | some g => if (fs.lookup f).isNone then some g else none
      | none => none
    | none => none
  | _ => none
/-- values at their parameters' places -/
def permL {α : Type} : List Nat → List α → Option (List α)
  | [], _ => some []
  | i :: r, l => match l[i]?, permL r l with
    | some a, some as => some (a :: as)
    | _, _ => none
/-- .. of a call with n values by position (k ahead of them), keywords ks -/
def kwD (f k n : Nat) (ks : List PySem.Str) (ix : List Nat) (ds : List Dat) : Option (List Dat) := if ds.length = n + ks.length then if ks = [] ∧ ix = [] then some ds else match T.fns[f]? with
  | some fd => if (fd.kws.any fun q => decide (q = (k + n, ks, (if k = 1 then 0 :: ix.map (· + 1) else ix)))) then permL ix ds else none
  | none => none
  else none
/-- the pattern of a class's call -/
def kwC (c n : Nat) (ks : List PySem.Str) (ix : List Nat) (ds : List Dat) : Option (List Dat) := match T.cls[c]? with
  | some cd => match cd.init with
    | some g => kwD T g 1 n ks ix ds
    | none => none
  | none => none
def isiV (d : Dat) : Cl → Option Bool
  | .ty n => if n = "int" ∨ n = "str" ∨ n = "tuple" ∨ n = "list" ∨ n = "bool" then match d with
    | .non => some false
    | .bl _ => some (decide (n = "int" ∨ n = "bool"))
    | .int _ => some (decide (n = "int"))
    | .str _ => some (decide (n = "str"))
    | .tup _ => some (decide (n = "tuple"))
    | .lst _ => some (decide (n = "list"))
    | .dic _ => some false
    | .obj c _ => match T.cls[c]? with
      | some cd => if !cd.exc && cd.isb then some false else none
      | none => none
    | .exc _ _ => none
    | .cls _ => none
    else none
  | .own k => match d with
    | .obj c _ => match T.cls[c]? with
      | some cd => if !cd.exc && cd.isb then cd.iss.lookup k else none
      | none => none
    | .exc _ _ => none
    | .cls _ => none
    | _ => match T.cls[k]? with
      | some cd => if cd.isn then some false else none
      | none => none
/-- one turn of a comprehension after the other: the list so far, in turn's order -/
def compL (turn : Dat → M (Option RV)) : List Dat → List Dat → M (List Dat)
  | [], acc => ret acc
  | d :: r, acc => bnd (turn d) fun o => match o with
    | none => compL turn r acc
    | some v => bnd (frz (prj v)) fun x => if acc.length < sizeLine then compL turn r (acc ++ [x]) else fun _ => none
/-- what is walked, its items -/
def itM (k : Ik) (a b : M RV) : M (List Dat) := match k with
  | .pl => bnd a fun x => bnd (frz (prj x)) fun d => lft (itemsV d)
  | .en => bnd a fun x => bnd (frz (prj x)) fun d => match d with
    | .lst l => ret (enumV 0 l)
    | .tup l => ret (enumV 0 l)
    | _ => fun _ => none
  | .zi => bnd a fun x => bnd b fun y => bnd (frz (prj x)) fun dx => bnd (frz (prj y)) fun dy => match dx, dy with
    | .tup l, .tup k => ret (zipV l k)
    | .lst l, .lst k => ret (zipV l k)
    | _, _ => fun _ => none
  | .r1 => bnd a fun x => match x with
    | .dat (.int n) => if -(2 ^ 62) ≤ n ∧ n < 2 ^ 62 then ret (rngV 0 n.toNat) else fun _ => none
    | _ => fun _ => none
  | .r2 => bnd a fun x => bnd b fun y => match x, y with
    | .dat (.int i), .dat (.int j) => if -(2 ^ 62) ≤ i ∧ i < 2 ^ 62 ∧ -(2 ^ 62) ≤ j ∧ j < 2 ^ 62 then ret (rngV i (j - i).toNat) else fun _ => none
    | _, _ => fun _ => none
def asB (a : M RV) : M Bool := bnd a fun x => lft (asBl x)
/-- a comprehension's turn -/
def turnM (p : Pat) (own : List Nat) (hc : Bool) (cond : M RV) (elt : M RV) (d : Dat) : M (Option RV) := fun m1 => match bindP p d (wipeF m1 own) with
  | none => none
  | some m2 => match (if hc then asB cond else ret true) m2 with
    | some (.ok true, m3) => match elt m3 with
      | some (.ok r, m4) => some (.ok (some r), m4)
      | _ => none
    | some (.ok false, m3) => some (.ok none, m3)
    | _ => none
/-- a bound of a slice -/
def partM (e : Ex) (v : M RV) : M (Option Int) := match e with
  | .nil => ret none
  | _ => bnd v fun x => match x with
    | .dat (.int i) => ret (some i)
    | _ => fun _ => none
/-- texts one behind the other -/
def jstL : List (M RV) → PySem.Str → M RV
  | [], acc => ret (.dat (.str acc))
  | x :: r, acc => bnd x fun v => match v with
    | .dat (.str y) => if (acc ++ y).length ≤ sizeLine then jstL r (acc ++ y) else fun _ => none
    | _ => fun _ => none
mutual
def ev : Ex → M RV
  | .var i => fun m => match m[i]? with
    | some (some (.dat d)) => some (.ok (.dat d), m)
    | some (some (.own _)) => some (.ok (.bor i), m)
    | _ => none
  | .cst d => ret (.dat d)
  | .bin op a b => bnd (ev a) fun x => bnd (ev b) fun y => bnd (look (prj x)) fun dx => bnd (look (prj y)) fun dy => lft (binV op dx dy)
  | .una op a => bnd (ev a) fun x => bnd (look (prj x)) fun dx => lft (unaV op dx)
  | .cmp op a b => bnd (ev a) fun x => bnd (ev b) fun y => bnd (look (prj x)) fun dx => bnd (look (prj y)) fun dy => lft ((cmpV op dx dy).map fun b => .dat (.bl b))
  | .chn o1 o2 a b c => bnd (ev a) fun x => bnd (ev b) fun y => bnd (look (prj x)) fun dx => bnd (look (prj y)) fun dy => bnd (lft (cmpV o1 dx dy)) fun k =>
      if k then bnd (ev c) fun z => bnd (look (prj y)) fun dy => bnd (look (prj z)) fun dz => lft ((cmpV o2 dy dz).map fun b => .dat (.bl b)) else ret (.dat (.bl false))
  | .and a b => bnd (ev a) fun x => bnd (lft (asBl x)) fun k => if k then ev b else ret (.dat (.bl false))
  | .or a b => bnd (ev a) fun x => bnd (lft (asBl x)) fun k => if k then ret (.dat (.bl true)) else ev b
  | .not a => bnd (ev a) fun x => bnd (lft (asBl x)) fun k => ret (.dat (.bl (!k)))
  | .ife c a b => bnd (ev c) fun x => bnd (lft (asBl x)) fun k => if k then ev a else ev b
  | .tup es => bnd (evs es) fun rs => bnd (frzs rs) fun ds => if ds.length ≤ sizeLine then ret (.dat (.tup ds)) else fun _ => none
  | .lst es => bnd (evs es) fun rs => bnd (frzs rs) fun ds => if ds.length ≤ sizeLine then ret (.own (.lst ds)) else fun _ => none
  | .dic0 => ret (.own (.dic []))
  | .idx a b => bnd (ev a) fun x => bnd (ev b) fun y => bnd (look (prj x)) fun dx => bnd (look (prj y)) fun dy => idxM T C (prj x) (prj y) dx dy
  | .sli a lo hi => bnd (ev a) fun x => bnd (partM lo (ev lo)) fun l => bnd (partM hi (ev hi)) fun h => bnd (look (prj x)) fun dx => lft (sliV dx (partD l) (partD h))
  | .att a f => bnd (ev a) fun x => bnd (look (prj x)) fun d => attV T C (prj x) d f
  | .cal f es => bnd (evs es) fun rs => bnd (frzs rs) fun ds => callF C f ds
  | .calm f e es => bnd (ev e) fun r0 => bnd (evs es) fun rs => bnd (frzs rs) fun ds => callM C f r0 ds
  | .mak c es => bnd (evs es) fun rs => bnd (frzs rs) fun ds => makeM T C c ds
  | .makv i c es => bnd (clsM T i c) fun _ => bnd (evs es) fun rs => bnd (frzs rs) fun ds => makeM T C c ds
  | .blt f es => bnd (evs es) fun rs => bnd (looks rs) fun ds => bltM T C f rs ds
  | .isi e c => bnd (ev e) fun x => bnd (look (prj x)) fun d => lft ((isiV T d c).map fun b => .dat (.bl b))
  | .kcal f ks ix es kv => bnd (evs es) fun rs => bnd (evs kv) fun zs => bnd (frzs (rs ++ zs)) fun ds => bnd (lft (kwD T f 0 rs.length ks ix ds)) fun ds => callF C f ds
  | .kmak c ks ix es kv => bnd (evs es) fun rs => bnd (evs kv) fun zs => bnd (frzs (rs ++ zs)) fun ds => bnd (lft (kwC T c rs.length ks ix ds)) fun ds => makeM T C c ds
  | .omet o f ks ix es kv => bnd (ev o) fun x => bnd (frz (prj x)) fun d => bnd (lft (metI T d f)) fun g => bnd (evs es) fun rs => bnd (evs kv) fun zs => bnd (frzs (rs ++ zs)) fun ds => bnd (lft (kwD T g 1 rs.length ks ix ds)) fun ds => callF C g (d :: ds)
  | .cmet f c ks ix es kv => bnd (evs es) fun rs => bnd (evs kv) fun zs => bnd (frzs (rs ++ zs)) fun ds => bnd (lft (kwD T f 1 rs.length ks ix ds)) fun ds => callF C f (.cls c :: ds)
  | .met f o es => bnd (ev o) fun x => bnd (look (prj x)) fun d0 => bnd (lft (metK f d0)) fun _ => bnd (evs es) fun rs => bnd (look (prj x)) fun d => bnd (looks rs) fun ds => lft (metV f d ds)
  | .app i e => bnd (lft' fun m => match m[i]? with | some (some (.own (.lst _))) => some () | _ => none) fun _ => bnd (ev e) fun x => bnd (frz (prj x)) fun d => fun m => match m[i]? with
    | some (some (.own (.lst l))) => if l.length < sizeLine then some (.ok (.dat .non), m.set i (some (.own (.lst (l ++ [d]))))) else none
    | _ => none
  | .pop i e => bnd (lft' fun m => match m[i]? with | some (some (.own (.lst _))) => some () | _ => none) fun _ => bnd (ev e) fun x => fun m => match x, m[i]? with
    | .dat (.int 0), some (some (.own (.lst (d :: r)))) => some (.ok (.dat d), m.set i (some (.own (.lst r))))
    | _, _ => none
  | .comp elt p k it it2 hc cond own => bnd (itM k (ev it) (ev it2)) fun ds => fun m =>
      if own.all (fun i => !isOwn m[i]? && decide (i < m.length)) && (patIx p).all own.contains then
        match compL (turnM p own hc (ev cond) (ev elt)) ds [] m with
        | some (.ok l, m5) => some (.ok (.own (.lst l)), backF m m5 own)
        | _ => none
      else none
  | .jst es => jstL (evl es) Str.empty
  | .fmt e => bnd (ev e) fun x => bnd (look (prj x)) fun d => lft (match strV d with
    | some s => if s.length ≤ sizeLine then some (.dat (.str s)) else none
    | none => none)
  | _ => fun _ => none
/-- a list of arguments, or of a display's items -/
def evs : Ex → M (List RV)
  | .nil => ret []
  | .cons e r => bnd (ev e) fun x => bnd (evs r) fun xs => ret (prj x :: xs)
  | .star e r => bnd (ev e) fun x => bnd (look (prj x)) fun d => match d with
    | .lst l => bnd (evs r) fun xs => ret (l.map .dat ++ xs)
    | .tup l => bnd (evs r) fun xs => ret (l.map .dat ++ xs)
    | _ => fun _ => none
  | _ => fun _ => none
def evl : Ex → List (M RV)
  | .nil => []
  | .cons e r => ev e :: evl r
  | _ => [fun _ => none]
end
/-! ### statements -/
def putD (f : PySem.Str) (v : Dat) : List (PySem.Str × Dat) → List (PySem.Str × Dat)
  | [] => [(f, v)]
  | (g, u) :: r => if g = f then (g, v) :: r else (g, u) :: putD f v r
def putK (k : L2.Key) (v : Dat) (l : List (L2.Key × Dat)) : List (L2.Key × Dat) :=
  if (l.any fun kv => decide (kv.1 = k)) = true then l.map (fun kv => if kv.1 = k then (kv.1, v) else kv) else l ++ [(k, v)]
/-- a name takes what an expression gave -/
def setR (i : Nat) (r : RV) : M Unit := fun m => if i < m.length then match r with
    | .own d => some (.ok (), m.set i (some (.own d)))
    | r => match frz r m with
      | some (.ok d, m1) => some (.ok (), m1.set i (some (.dat d)))
      | _ => none
  else none
/-- how many -/
def tgLen : Tg → Nat
  | .cons _ r => tgLen r + 1
  | _ => 0
/-- a slot's own object becomes data: the value does not hang on the slot any more -/
def hold (r : RV) : M RV := match r with
  | .bor i => bnd (frz (.bor i)) fun d => ret (.dat d)
  | r => ret r
mutual
def asgT : Tg → RV → M Unit
  | .pat (.nam i), r => setR i r
  | .pat p, r => bnd (frz (prj r)) fun d => fun m => match bindP p d m with
    | some m1 => some (.ok (), m1)
    | none => none
  | .tup t, r => bnd (frz (prj r)) fun d => match d with
    | .tup l => if l.length = tgLen t then asgTs t l else fun _ => none
    | _ => fun _ => none
  | .sub i e, r => bnd (frz (prj r)) fun v => bnd (lft' fun m => if isOwn m[i]? then some () else none) fun _ => bnd (ev T C e) fun y => bnd (frz (prj y)) fun k => fun m => match m[i]? with
    | some (some (.own (.lst l))) => match k with
      | .int z => match L2.ixN l.length z with
        | some j => some (.ok (), m.set i (some (.own (.lst (l.set j v)))))
        | none => none
      | _ => none
    | some (some (.own (.dic l))) => match keyOf k with
      | some key => if l.length < 1000 then some (.ok (), m.set i (some (.own (.dic (putK key v l))))) else none
      | none => none
    | _ => none
  | .att i f, r => bnd (frz (prj r)) fun v => fun m => match m[i]? with
    | some (some (.own (.obj c fs))) => match T.cls[c]? with
      | some cd => if !cd.exc && cd.flds.contains f && decide (fs.length < 900) then some (.ok (), m.set i (some (.own (.obj c (putD f v fs))))) else none
      | none => none
    | _ => none
  | _, _ => fun _ => none
def asgTs : Tg → List Dat → M Unit
  | .nil, [] => ret ()
  | .cons t r, d :: ds => bnd (asgT t (.dat d)) fun _ => asgTs r ds
  | _, _ => fun _ => none
end
def outOf {α : Type} (x : M α) (f : α → Frm → Option (Out × Frm)) : Frm → Option (Out × Frm) := fun m => match x m with
  | none => none
  | some (.error e, m1) => some (.exc e, m1)
  | some (.ok a, m1) => f a m1
def seqO (x y : Frm → Option (Out × Frm)) : Frm → Option (Out × Frm) := fun m => match x m with
  | some (.nxt, m1) => y m1
  | r => r
def forL (p : Pat) (b : Frm → Option (Out × Frm)) : List Dat → Frm → Option (Out × Frm)
  | [], m => some (.nxt, m)
  | d :: r, m => match bindP p d m with
    | none => none
    | some m1 => match b m1 with
      | some (.nxt, m2) => forL p b r m2
      | some (.cnt, m2) => forL p b r m2
      | some (.brk, m2) => some (.nxt, m2)
      | q => q
def whlL (c : M Bool) (b : Frm → Option (Out × Frm)) : Nat → Frm → Option (Out × Frm)
  | 0, _ => none
  | n + 1, m => match c m with
    | some (.ok true, m1) => match b m1 with
      | some (.nxt, m2) => whlL c b n m2
      | some (.cnt, m2) => whlL c b n m2
      | some (.brk, m2) => some (.nxt, m2)
      | q => q
    | some (.ok false, m1) => some (.nxt, m1)
    | some (.error x, m1) => some (.exc x, m1)
    | none => none
/-- what is handed back: a slot's own object leaves its slot -/
def handO (r : RV) (m : Frm) : Option (Out × Frm) := match r with
  | .bor i => match m[i]? with
    | some (some (.own d)) => some (.ret (.own d), m.set i none)
    | some (some (.dat d)) => some (.ret (.dat d), m)
    | _ => none
  | r => some (.ret r, m)
def isUp (c : Nat) (cs : List Nat) : Bool := match T.cls[c]? with
  | some cd => cs.any cd.ups.contains
  | none => false
/-- an exception of the class with these arguments -/
def exnM (c : Nat) (x : M (List RV)) : Frm → Option (Out × Frm) := outOf x fun rs => outOf (frzs rs) fun ds m => match T.cls[c]?, ds with
  | some cd, [d] => some (.exc ⟨c, [(cd.attr, d)]⟩, m)
  | _, _ => none
def es (fuel : Nat) : Stm → Frm → Option (Out × Frm)
  | .nil => fun m => some (.nxt, m)
  | .pas => fun m => some (.nxt, m)
  | .brk => fun m => some (.brk, m)
  | .cnt => fun m => some (.cnt, m)
  | .seq s r => seqO (es fuel s) (es fuel r)
  | .asg t e => outOf (bnd (ev T C e) fun r => asgT T C t r) fun _ m => some (.nxt, m)
  | .par i j a b => outOf (bnd (ev T C a) fun x => bnd (ev T C b) fun y => bnd (hold x) fun x => bnd (hold y) fun y => bnd (setR i x) fun _ => setR j y) fun _ m => some (.nxt, m)
  | .hdr i j e => outOf (bnd (ev T C e) fun r => bnd (look (prj r)) fun d => match d with
    | .lst (x :: l) => if l.length < 16384 then bnd (setR i (.dat x)) fun _ => setR j (.own (.lst l)) else fun _ => none
    | _ => fun _ => none) fun _ m => some (.nxt, m)
  | .exp e => outOf (ev T C e) fun _ m => some (.nxt, m)
  | .ret e => outOf (ev T C e) handO
  | .retn => fun m => some (.ret (.dat .non), m)
  | .ife c a b => outOf (asB (ev T C c)) fun k => if k then es fuel a else es fuel b
  | .loop p k it it2 body => outOf (itM k (ev T C it) (ev T C it2)) fun ds => forL p (es fuel body) ds
  | .whl c body => whlL (asB (ev T C c)) (es fuel body) fuel
  | .rai c x => exnM T c (evs T C x)
  | .tryr body cs c x => fun m => match es fuel body m with
    | some (.exc e, m1) => if isUp T e.c cs then exnM T c (evs T C x) m1 else some (.exc e, m1)
    | q => q
  | .tryq body => fun m => match es fuel body m with
    | some (.exc _, _) => none
    | q => q
  | _ => fun _ => none
/-- a def's run -/
def runF (fuel : Nat) (fd : Fd) (avs : List Slo) : Option (Except Exn RV × Option Dat) :=
  if avs.length = fd.np ∧ fd.np ≤ fd.n then
    match es T C fuel fd.body (avs.map some ++ List.replicate (fd.n - fd.np) none) with
    | some (o, m) => match (match o with | .nxt => some (Except.ok (RV.dat .non)) | .ret r => some (.ok r) | .exc x => some (.error x) | _ => none) with
      | some r => if fd.mt then (match (m : List (Option Slo))[0]? with
          | some (some (Slo.own d)) => some (r, some d)
          | _ => none)
        else some (r, none)
      | none => none
    | none => none
  else none
end
/-- calls, n deep -/
def callN (T : Tab) (fuel : Nat) : Nat → Calls
  | 0 => fun _ _ => none
  | n + 1 => fun f avs => match T.fns[f]? with
    | some fd => runF T (callN T fuel n) fuel fd avs
    | none => none
end SB
/-! SbRep: how data lie in the abstract heap; frames; what an evaluation leaves. -/
namespace SB
open PySem L2
example : pd (.tup [.int 1]) = some (.tuple [.int 1]) := rfl
section
variable (ca : Nat → Addr)
mutual
/-- v is the datum, by the part F of the heap that stands for ever -/
def IsD (F : Hp) : Dat → V → Prop
  | .non, v => v = .non
  | .bl b, v => v = .bl b
  | .int i, v => v = .int i
  | .str s, v => v = .str s
  | .tup l, v => ∃ a xs, v = .ref a ∧ F a = some (.tup xs) ∧ IsDs F l xs
  | .lst l, v => ∃ a xs, v = .ref a ∧ (F a = some (.lst xs) ∨ ∃ o, F a = some (.frz o (.lst xs))) ∧ IsDs F l xs
  | .dic l, v => ∃ a kvs, v = .ref a ∧ F a = some (.dK kvs) ∧ IsKs F l kvs
  | .obj c fs, v => ∃ a dx fvs, v = .ref a ∧ F a = some (.ins (ca c) dx fvs) ∧ IsFs F fs fvs
  | .exc _ _, _ => False
  | .cls c, v => v = .ref (ca c)
def IsDs (F : Hp) : List Dat → List V → Prop
  | [], xs => xs = []
  | d :: r, xs => ∃ x ys, xs = x :: ys ∧ IsD F d x ∧ IsDs F r ys
def IsKs (F : Hp) : List (L2.Key × Dat) → List (L2.Key × V) → Prop
  | [], xs => xs = []
  | d :: r, xs => ∃ x ys, xs = (d.1, x) :: ys ∧ IsD F d.2 x ∧ IsKs F r ys
def IsFs (F : Hp) : List (PySem.Str × Dat) → List (PySem.Str × V) → Prop
  | [], xs => xs = []
  | d :: r, xs => ∃ x ys, xs = (d.1, x) :: ys ∧ IsD F d.2 x ∧ IsFs F r ys
end
variable {ca}
mutual
theorem IsD.mono {F G : Hp} (h : Same F G) : ∀ (d : Dat) (v : V), IsD ca F d v → IsD ca G d v
  | .non, v, x => x
  | .bl b, v, x => x
  | .int i, v, x => x
  | .str s, v, x => x
  | .tup l, v, x => by
    obtain ⟨a, xs, e, q, r⟩ := x
    exact ⟨a, xs, e, h _ _ q, IsDs.mono h l xs r⟩
  | .lst l, v, x => by
    obtain ⟨a, xs, e, q, r⟩ := x
    refine ⟨a, xs, e, ?_, IsDs.mono h l xs r⟩
    rcases q with q | ⟨o, q⟩
    · exact .inl (h _ _ q)
    · exact .inr ⟨o, h _ _ q⟩
  | .dic l, v, x => by
    obtain ⟨a, xs, e, q, r⟩ := x
    exact ⟨a, xs, e, h _ _ q, IsKs.mono h l xs r⟩
  | .obj c fs, v, x => by
    obtain ⟨a, dx, xs, e, q, r⟩ := x
    exact ⟨a, dx, xs, e, h _ _ q, IsFs.mono h fs xs r⟩
  | .exc _ _, v, x => x
  | .cls _, v, x => x
theorem IsDs.mono {F G : Hp} (h : Same F G) : ∀ (l : List Dat) (xs : List V), IsDs ca F l xs → IsDs ca G l xs
  | [], xs, x => x
  | d :: r, xs, x => by
    obtain ⟨y, ys, e, q, t⟩ := x
    exact ⟨y, ys, e, IsD.mono h d y q, IsDs.mono h r ys t⟩
theorem IsKs.mono {F G : Hp} (h : Same F G) : ∀ (l : List (L2.Key × Dat)) (xs : List (L2.Key × V)), IsKs ca F l xs → IsKs ca G l xs
  | [], xs, x => x
  | d :: r, xs, x => by
    obtain ⟨y, ys, e, q, t⟩ := x
    exact ⟨y, ys, e, IsD.mono h d.2 y q, IsKs.mono h r ys t⟩
theorem IsFs.mono {F G : Hp} (h : Same F G) : ∀ (l : List (PySem.Str × Dat)) (xs : List (PySem.Str × V)), IsFs ca F l xs → IsFs ca G l xs
  | [], xs, x => x
  | d :: r, xs, x => by
    obtain ⟨y, ys, e, q, t⟩ := x
    exact ⟨y, ys, e, IsD.mono h d.2 y q, IsFs.mono h r ys t⟩
end
theorem IsDs.len {F : Hp} : ∀ {l : List Dat} {xs : List V}, IsDs ca F l xs → xs.length = l.length
  | [], xs, x => by
    have e : xs = [] := x
    rw [e]; rfl
  | d :: r, xs, x => by
    obtain ⟨y, ys, e, q, t⟩ := x
    rw [e, List.length_cons, List.length_cons, IsDs.len t]
theorem IsDs.app {F : Hp} : ∀ {l k : List Dat} {xs ys : List V}, IsDs ca F l xs → IsDs ca F k ys → IsDs ca F (l ++ k) (xs ++ ys)
  | [], k, xs, ys, x, y => by
    have e : xs = [] := x
    subst e; exact y
  | d :: r, k, xs, ys, x, y => by
    obtain ⟨z, zs, e, q, t⟩ := x
    subst e
    exact ⟨z, zs ++ ys, rfl, q, IsDs.app t y⟩
theorem IsDs.get {F : Hp} : ∀ {l : List Dat} {xs : List V} {i : Nat} {d : Dat}, IsDs ca F l xs → l[i]? = some d → ∃ x, xs[i]? = some x ∧ IsD ca F d x
  | [], xs, i, d, x, e => by simp at e
  | c :: r, xs, 0, d, x, e => by
    obtain ⟨z, zs, e1, q, t⟩ := x
    subst e1
    have e2 : c = d := by simpa using e
    subst e2
    exact ⟨z, rfl, q⟩
  | c :: r, xs, i + 1, d, x, e => by
    obtain ⟨z, zs, e1, q, t⟩ := x
    subst e1
    obtain ⟨y, h1, h2⟩ := IsDs.get (i := i) (d := d) t (by simpa using e)
    exact ⟨y, by simpa using h1, h2⟩
theorem IsDs.drop {F : Hp} : ∀ {l : List Dat} {xs : List V} (n : Nat), IsDs ca F l xs → IsDs ca F (l.drop n) (xs.drop n)
  | l, xs, 0, x => x
  | [], xs, n + 1, x => by
    have e : xs = [] := x
    subst e; exact rfl
  | d :: r, xs, n + 1, x => by
    obtain ⟨z, zs, e1, q, t⟩ := x
    subst e1
    exact IsDs.drop n t
theorem IsDs.take {F : Hp} : ∀ {l : List Dat} {xs : List V} (n : Nat), IsDs ca F l xs → IsDs ca F (l.take n) (xs.take n)
  | l, xs, 0, x => rfl
  | [], xs, n + 1, x => by
    have e : xs = [] := x
    subst e; exact rfl
  | d :: r, xs, n + 1, x => by
    obtain ⟨z, zs, e1, q, t⟩ := x
    subst e1
    exact ⟨z, zs.take n, rfl, q, IsDs.take n t⟩
theorem IsDs.set {F : Hp} {v : Dat} {y : V} (hv : IsD ca F v y) : ∀ {l : List Dat} {xs : List V} (j : Nat), IsDs ca F l xs → IsDs ca F (l.set j v) (xs.set j y)
  | [], xs, j, x => by
    have e : xs = [] := x
    subst e; exact rfl
  | d :: r, xs, 0, x => by
    obtain ⟨z, zs, e1, q, t⟩ := x
    subst e1
    exact ⟨y, zs, rfl, hv, t⟩
  | d :: r, xs, j + 1, x => by
    obtain ⟨z, zs, e1, q, t⟩ := x
    subst e1
    exact ⟨z, zs.set j y, rfl, q, IsDs.set hv j t⟩
theorem IsDs.one {F : Hp} {d : Dat} {x : V} (h : IsD ca F d x) : IsDs ca F [d] [x] := ⟨x, [], rfl, h, rfl⟩
theorem IsDs.strs {F : Hp} : ∀ (l : List PySem.Str), IsDs ca F (l.map .str) (l.map V.str)
  | [] => rfl
  | s :: r => ⟨.str s, r.map V.str, rfl, rfl, IsDs.strs r⟩
/-- the datum at the top as it is now, its parts standing for ever -/
def AtD (ca : Nat → Addr) (F H : Hp) : Dat → V → Prop
  | .lst l, v => ∃ a xs, v = .ref a ∧ (H a = some (.lst xs) ∨ ∃ o, H a = some (.frz o (.lst xs))) ∧ IsDs ca F l xs
  | .dic l, v => ∃ a kvs, v = .ref a ∧ H a = some (.dK kvs) ∧ IsKs ca F l kvs
  | .obj c fs, v => ∃ a dx fvs, v = .ref a ∧ H a = some (.ins (ca c) dx fvs) ∧ IsFs ca F fs fvs
  | d, v => IsD ca F d v
theorem IsD.at {F H : Hp} (h : Same F H) : ∀ {d : Dat} {v : V}, IsD ca F d v → AtD ca F H d v
  | .non, v, x => x
  | .bl b, v, x => x
  | .int i, v, x => x
  | .str s, v, x => x
  | .tup l, v, x => x
  | .lst l, v, x => by
    obtain ⟨a, xs, e, q, r⟩ := x
    refine ⟨a, xs, e, ?_, r⟩
    rcases q with q | ⟨o, q⟩
    · exact .inl (h _ _ q)
    · exact .inr ⟨o, h _ _ q⟩
  | .dic l, v, x => by
    obtain ⟨a, xs, e, q, r⟩ := x
    exact ⟨a, xs, e, h _ _ q, r⟩
  | .obj c fs, v, x => by
    obtain ⟨a, dx, xs, e, q, r⟩ := x
    exact ⟨a, dx, xs, e, h _ _ q, r⟩
  | .exc _ _, v, x => x
  | .cls _, v, x => x
/-- an own object at a: a list, a dict, an instance that is being made -/
def OwnAt (ca : Nat → Addr) (F H : Hp) (a : Addr) : Dat → Prop
  | .lst l => ∃ xs, H a = some (.lst xs) ∧ IsDs ca F l xs
  | .dic l => ∃ kvs, H a = some (.dK kvs) ∧ IsKs ca F l kvs
  | .obj c fs => ∃ dx fvs, H a = some (.ins (ca c) dx fvs) ∧ IsFs ca F fs fvs
  | _ => False
theorem OwnAt.at {F H : Hp} {a : Addr} : ∀ {d : Dat}, OwnAt ca F H a d → AtD ca F H d (.ref a)
  | .lst l, ⟨xs, h, r⟩ => ⟨a, xs, rfl, .inl h, r⟩
  | .dic l, ⟨xs, h, r⟩ => ⟨a, xs, rfl, h, r⟩
  | .obj c fs, ⟨dx, xs, h, r⟩ => ⟨a, dx, xs, rfl, h, r⟩
theorem OwnAt.there {F H : Hp} {a : Addr} : ∀ {d : Dat}, OwnAt ca F H a d → ∃ o, H a = Option.some o
  | .lst l, ⟨xs, h, r⟩ => ⟨_, h⟩
  | .dic l, ⟨xs, h, r⟩ => ⟨_, h⟩
  | .obj c fs, ⟨dx, xs, h, r⟩ => ⟨_, h⟩
theorem OwnAt.mono {F G H J : Hp} {a : Addr} (h : Same F G) (hj : ∀ o, H a = some o → J a = some o) : ∀ {d : Dat}, OwnAt ca F H a d → OwnAt ca G J a d
  | .lst l, ⟨xs, e, r⟩ => ⟨xs, hj _ e, IsDs.mono h l xs r⟩
  | .dic l, ⟨xs, e, r⟩ => ⟨xs, hj _ e, IsKs.mono h l xs r⟩
  | .obj c fs, ⟨dx, xs, e, r⟩ => ⟨dx, xs, hj _ e, IsFs.mono h fs xs r⟩
/-- it stands for ever from now on -/
def frzH (F H : Hp) (a : Addr) : Hp := fun b => if b = a then H a else F b
theorem frzH_same {F H : Hp} {a : Addr} : frzH F H a a = H a := if_pos rfl
theorem frzH_ne {F H : Hp} {a b : Addr} (h : b ≠ a) : frzH F H a b = F b := if_neg h
theorem frzH_sup {F H : Hp} {a : Addr} (hs : Same F H) : Same F (frzH F H a) := fun b o e => by
  by_cases hb : b = a
  · subst hb; rw [frzH_same]; exact hs _ _ e
  · rw [frzH_ne hb]; exact e
theorem frzH_sub {F H : Hp} {a : Addr} (hs : Same F H) : Same (frzH F H a) H := fun b o e => by
  by_cases hb : b = a
  · subst hb; rw [frzH_same] at e; exact e
  · rw [frzH_ne hb] at e; exact hs _ _ e
theorem OwnAt.frz {F H : Hp} {a : Addr} (hs : Same F H) : ∀ {d : Dat}, OwnAt ca F H a d → IsD ca (frzH F H a) d (.ref a)
  | .lst l, ⟨xs, e, r⟩ => ⟨a, xs, rfl, .inl (by rw [frzH_same]; exact e), IsDs.mono (frzH_sup hs) l xs r⟩
  | .dic l, ⟨xs, e, r⟩ => ⟨a, xs, rfl, by rw [frzH_same]; exact e, IsKs.mono (frzH_sup hs) l xs r⟩
  | .obj c fs, ⟨dx, xs, e, r⟩ => ⟨a, dx, xs, rfl, by rw [frzH_same]; exact e, IsFs.mono (frzH_sup hs) fs xs r⟩
/-! ### frames -/
def Own (m : Frm) (σ : St) (b : Addr) : Prop := ∃ (i : Nat) (d : Dat), m[i]? = some (some (Slo.own d)) ∧ σ[i]? = some (some (V.ref b))
structure Rep (ca : Nat → Addr) (F : Hp) (m : Frm) (σ : St) (H : Hp) : Prop where
  sub : Same F H
  len : m.length = σ.length
  dat : ∀ (i : Nat) (d : Dat), m[i]? = some (some (.dat d)) → ∃ v, σ[i]? = some (some v) ∧ IsD ca F d v
  own : ∀ (i : Nat) (d : Dat), m[i]? = some (some (.own d)) → ∃ a, σ[i]? = some (some (.ref a)) ∧ F a = none ∧ OwnAt ca F H a d
  inj : ∀ (i j : Nat) (d e : Dat) (a : Addr), m[i]? = some (some (.own d)) → m[j]? = some (some (.own e)) → σ[i]? = some (some (.ref a)) → σ[j]? = some (some (.ref a)) → i = j
/-- what an evaluation keeps: F0, H0 before, A what may change; F, H behind, B what may change from then on -/
structure Since (F0 H0 : Hp) (A : Addr → Prop) (F H : Hp) (B : Addr → Prop) : Prop where
  k1 : Same F0 F
  k2 : ∀ b o, H0 b = some o → ¬ A b → H b = some o
  k3 : ∀ b o, F b = some o → F0 b = some o ∨ H0 b = none ∨ A b
  k4 : ∀ b, B b → A b ∨ H0 b = none
theorem Since.refl {F H : Hp} {A : Addr → Prop} : Since F H A F H A := ⟨Same.refl F, fun _ _ h _ => h, fun _ _ h => .inl h, fun _ h => .inl h⟩
theorem Since.trans {F0 H0 F1 H1 F2 H2 : Hp} {A B D : Addr → Prop} (x : Since F0 H0 A F1 H1 B) (y : Since F1 H1 B F2 H2 D) : Since F0 H0 A F2 H2 D := by
  have new : ∀ b, H1 b = none → H0 b = none ∨ A b := fun b h => by
    cases e : H0 b with
    | none => exact .inl rfl
    | some o =>
      by_cases q : A b
      · exact .inr q
      · have := x.k2 b o e q
        rw [h] at this; cases this
  have beh : ∀ b, B b → H0 b = none ∨ A b := fun b h => (x.k4 b h).elim .inr .inl
  refine ⟨x.k1.trans y.k1, fun b o h q => ?_, fun b o h => ?_, fun b h => ?_⟩
  · refine y.k2 b o (x.k2 b o h q) fun z => ?_
    rcases beh b z with z | z
    · rw [h] at z; cases z
    · exact q z
  · rcases y.k3 b o h with z | z | z
    · rcases x.k3 b o z with z | z | z
      · exact .inl z
      · exact .inr (.inl z)
      · exact .inr (.inr z)
    · exact .inr (new b z)
    · exact .inr (beh b z)
  · rcases y.k4 b h with z | z
    · exact (beh b z).symm
    · exact (new b z).symm
theorem Since.less {F0 H0 F H : Hp} {A B D : Addr → Prop} (x : Since F0 H0 A F H B) (h : ∀ b, D b → B b) : Since F0 H0 A F H D := ⟨x.k1, x.k2, x.k3, fun b q => x.k4 b (h b q)⟩
theorem Since.wide {F0 H0 F H : Hp} {A B D : Addr → Prop} (x : Since F0 H0 A F H B) (h : ∀ b, A b → D b) : Since F0 H0 D F H B :=
  ⟨x.k1, fun b o e q => x.k2 b o e fun z => q (h b z), fun b o e => (x.k3 b o e).imp id (Or.imp id (h b)), fun b q => (x.k4 b q).imp (h b) id⟩
/-- an address of what was there and could not change -/
theorem Since.stay {F0 H0 F H : Hp} {A B : Addr → Prop} (x : Since F0 H0 A F H B) {a : Addr} {o : HO} (h : H0 a = some o) (q : ¬ A a) : H a = some o ∧ ¬ B a ∧ (F0 a = none → F a = none) := by
  refine ⟨x.k2 a o h q, fun z => ?_, fun z => ?_⟩
  · rcases x.k4 a z with y | y
    · exact q y
    · rw [h] at y; cases y
  · cases e : F a with
    | none => rfl
    | some u =>
      rcases x.k3 a u e with y | y | y
      · rw [z] at y; cases y
      · rw [h] at y; cases y
      · exact absurd y q
end
end SB
/-! SbCore: the reading of a meaning; how readings follow one another. -/
namespace SB
open PySem L2
theorem PE.imp {X : Cx} {e : Expr} {t t' : TE} (h : PE X e t) (k : ∀ σ H Q, t' σ H Q → t σ H Q) : PE X e t' := ⟨fun P s σ H Q I q => h.run P s σ H Q I (k σ H Q q)⟩
theorem PT.imp {X : Cx} {e : Expr} {t t' : TT} (h : PT X e t) (k : ∀ σ H Q, t' σ H Q → t σ H Q) : PT X e t' := ⟨fun P s σ H Q I q => h.run P s σ H Q I (k σ H Q q)⟩
theorem PA.imp {X : Cx} {e : List Expr} {t t' : TA} (h : PA X e t) (k : ∀ σ H Q, t' σ H Q → t σ H Q) : PA X e t' := ⟨fun p P s σ H Q I q => h.run p P s σ H Q I (k σ H Q q)⟩
theorem PS.imp {X : Cx} {e : Stmt} {t t' : TS} (h : PS X e t) (k : ∀ D σ H, t' D σ H → t D σ H) : PS X e t' := ⟨fun P s σ H D I q => h.run P s σ H D I (k D σ H q)⟩
theorem PSs.imp {X : Cx} {e : List Stmt} {t t' : TS} (h : PSs X e t) (k : ∀ D σ H, t' D σ H → t D σ H) : PSs X e t' := ⟨fun P s σ H D I q => h.run P s σ H D I (k D σ H q)⟩
section
variable (ca : Nat → Addr)
/-- a result, and what lies at it -/
def RB (r : RV) (v : V) (b : Addr) : Prop := match r with
  | .own _ => v = .ref b
  | _ => False
def IsR (F H : Hp) (m : Frm) (σ : St) (r : RV) (v : V) : Prop := match r with
  | .dat d => IsD ca F d v
  | .own d => ∃ a, v = .ref a ∧ F a = none ∧ OwnAt ca F H a d ∧ ¬ Own m σ a
  | .bor i => σ[i]? = some (some v)
/-- a value that is used, not kept: no new object -/
def IsP (F : Hp) (σ : St) (r : RV) (v : V) : Prop := match r with
  | .dat d => IsD ca F d v
  | .own _ => False
  | .bor i => σ[i]? = some (some v)
def IsPs (F : Hp) (σ : St) : List RV → List V → Prop
  | [], xs => xs = []
  | r :: rs, xs => ∃ x ys, xs = x :: ys ∧ IsP ca F σ r x ∧ IsPs F σ rs ys
def IsX (F H : Hp) (x : Exn) (C : Value) (d : Option Addr) : Prop := C = .ref (ca x.c) ∧ ∃ dx fvs, d = some dx ∧ H dx = some (.xd fvs) ∧ IsFs ca F x.fs fvs
/-- the reading: f, run at this frame, comes to an end, and wherever that lies, Q holds; an exception is wished for by W -/
def tG {α β : Type} (rel : Hp → Hp → Frm → St → α → β → Prop) (rb : α → β → Addr → Prop) (W : WX) (f : M α) (F : Hp) (m : Frm) (σ : St) (H : Hp) (Q : β → Hp → Prop) : Prop :=
  ∃ r m', f m = some (r, m') ∧ match r with
  | .ok a => ∀ F' H' v, Since F H (Own m σ) F' H' (fun b => Own m' σ b ∨ rb a v b) → Rep ca F' m' σ H' → rel F' H' m' σ a v → Q v H'
  | .error x => ∀ F' H' C d, Since F H (Own m σ) F' H' (Own m' σ) → Rep ca F' m' σ H' → IsX ca F' H' x C d → W C d σ H'
abbrev no2 {α β : Type} : α → β → Addr → Prop := fun _ _ _ => False
def tK (W : WX) (f : M RV) (F : Hp) (m : Frm) (σ : St) (H : Hp) (Q : V → Hp → Prop) : Prop := tG ca (IsR ca) RB W f F m σ H Q
def tB (W : WX) (f : M Bool) (F : Hp) (m : Frm) (σ : St) (H : Hp) (Q : Bool → Hp → Prop) : Prop := tG ca (fun _ _ _ _ a b => a = b) no2 W f F m σ H Q
def tL (W : WX) (f : M (List RV)) (F : Hp) (m : Frm) (σ : St) (H : Hp) (Q : List V → Hp → Prop) : Prop := tG ca (fun F' _ _ σ' a b => IsPs ca F' σ' a b) no2 W f F m σ H Q
def tE (W : WX) (f : M RV) : TE := fun σ H Q => ∃ F m, Rep ca F m σ H ∧ tK ca W f F m σ H Q
def tT (W : WX) (f : M Bool) : TT := fun σ H Q => ∃ F m, Rep ca F m σ H ∧ tB ca W f F m σ H Q
def tA (W : WX) (f : M (List RV)) : TA := fun σ H Q => ∃ F m, Rep ca F m σ H ∧ tL ca W f F m σ H Q
def DE (X : Cx) (e : Expr) (f : M RV) : Prop := ∀ W, L2.Takes X W → PE X e (tE ca W f)
def DT (X : Cx) (e : Expr) (f : M Bool) : Prop := ∀ W, L2.Takes X W → PT X e (tT ca W f)
def DA (X : Cx) (e : List Expr) (f : M (List RV)) : Prop := ∀ W, L2.Takes X W → PA X e (tA ca W f)
variable {ca}
variable {F G H J : Hp} {m m1 : Frm} {σ : St} {W : WX}
theorem IsP.mono (h : Same F G) : ∀ {r : RV} {v : V}, IsP ca F σ r v → IsP ca G σ r v
  | .dat d, v, x => IsD.mono h d v x
  | .own d, v, x => x
  | .bor i, v, x => x
theorem IsPs.mono (h : Same F G) : ∀ {rs : List RV} {vs : List V}, IsPs ca F σ rs vs → IsPs ca G σ rs vs
  | [], vs, x => x
  | r :: rs, vs, x => by
    obtain ⟨y, ys, e, q, t⟩ := x
    exact ⟨y, ys, e, IsP.mono h q, IsPs.mono h t⟩
theorem Rep.owns {d : Dat} {i : Nat} (R : Rep ca F m σ H) (h : m[i]? = some (some (.own d))) : ∃ a, σ[i]? = some (some (.ref a)) ∧ Own m σ a ∧ F a = none ∧ OwnAt ca F H a d :=
  let ⟨a, e, n, o⟩ := R.own i d h
  ⟨a, e, ⟨i, d, h, e⟩, n, o⟩
theorem Rep.ownH (R : Rep ca F m σ H) {a : Addr} (h : Own m σ a) : (∃ o, H a = some o) ∧ F a = none := by
  obtain ⟨i, d, e1, e2⟩ := h
  obtain ⟨b, e3, n, o⟩ := R.own i d e1
  have : a = b := by rw [e2] at e3; cases e3; rfl
  subst this
  exact ⟨o.there, n⟩
/-- the standing part grows -/
theorem Rep.grow (R : Rep ca F m σ H) (h : Same F G) (hs : Same G H) (hn : ∀ a, Own m σ a → G a = none) : Rep ca G m σ H :=
  ⟨hs, R.len, fun i d e => let ⟨v, e1, q⟩ := R.dat i d e; ⟨v, e1, IsD.mono h d v q⟩, fun i d e => by
    obtain ⟨a, e1, n, o⟩ := R.own i d e
    exact ⟨a, e1, hn a ⟨i, d, e, e1⟩, o.mono h fun _ z => z⟩, R.inj⟩
/-- the heap grows by a new object -/
theorem Rep.new {p : Addr} {o : HO} (R : Rep ca F m σ H) (h : H p = none) : Rep ca F m σ (upd H p o) :=
  ⟨fun b u e => by rw [upd_ne (ne_of_none (R.sub b u e) h)]; exact R.sub b u e, R.len, R.dat, fun i d e => by
    obtain ⟨a, e1, n, q⟩ := R.own i d e
    obtain ⟨u, hu⟩ := q.there
    exact ⟨a, e1, n, q.mono (Same.refl F) fun z hz => by rw [upd_ne (ne_of_none hz h)]; exact hz⟩, R.inj⟩
theorem Since.new {p : Addr} {o : HO} {A : Addr → Prop} (h : H p = none) : Since F H A F (upd H p o) (fun b => A b ∨ p = b) :=
  ⟨Same.refl F, fun b u e _ => by rw [upd_ne (ne_of_none e h)]; exact e, fun _ _ e => .inl e, fun b q => q.elim .inl fun e => .inr (by rw [← e]; exact h)⟩
/-- what is to be shown behind a value -/
def Fin (ca : Nat → Addr) (F : Hp) (m : Frm) (σ : St) (H : Hp) (r : RV) (Q : V → Hp → Prop) : Prop :=
  ∀ F' H' v, Since F H (Own m σ) F' H' (fun b => Own m σ b ∨ RB r v b) → Rep ca F' m σ H' → IsR ca F' H' m σ r v → Q v H'
theorem Fin.flat {d : Dat} {v : V} {Q : V → Hp → Prop} (R : Rep ca F m σ H) (h : Fin ca F m σ H (.dat d) Q) (hv : IsD ca F d v) : Q v H :=
  h F H v ⟨Same.refl F, fun _ _ e _ => e, fun _ _ e => .inl e, fun b q => q.elim .inl False.elim⟩ R hv
theorem Fin.newL {l : List Dat} {xs : List V} {p : Addr} {Q : V → Hp → Prop} (R : Rep ca F m σ H) (h : Fin ca F m σ H (.own (.lst l)) Q) (hv : IsDs ca F l xs) (hp : H p = none) : Q (.ref p) (upd H p (.lst xs)) := by
  have hF : F p = none := by
    cases e : F p with
    | none => rfl
    | some o => have := R.sub p o e; rw [hp] at this; cases this
  refine h F _ (.ref p) (Since.less (Since.new hp) fun b q => q.imp id fun (e : V.ref p = .ref b) => by cases e; rfl) (R.new hp) ⟨p, rfl, hF, ⟨xs, upd_same, hv⟩, fun z => ?_⟩
  obtain ⟨⟨o, e⟩, _⟩ := R.ownH z
  rw [hp] at e; cases e
theorem Fin.newD {p : Addr} {Q : V → Hp → Prop} (R : Rep ca F m σ H) (h : Fin ca F m σ H (.own (.dic [])) Q) (hp : H p = none) : Q (.ref p) (upd H p (.dK [])) := by
  have hF : F p = none := by
    cases e : F p with
    | none => rfl
    | some o => have := R.sub p o e; rw [hp] at this; cases this
  refine h F _ (.ref p) (Since.less (Since.new hp) fun b q => q.imp id fun (e : V.ref p = .ref b) => by cases e; rfl) (R.new hp) ⟨p, rfl, hF, ⟨[], upd_same, rfl⟩, fun z => ?_⟩
  obtain ⟨⟨o, e⟩, _⟩ := R.ownH z
  rw [hp] at e; cases e
/-- a new object that stands for ever -/
theorem Since.fix {p : Addr} {o : HO} {A : Addr → Prop} (hs : Same F H) (h : H p = none) : Since F H A (upd F p o) (upd H p o) A :=
  ⟨fun b u e => by rw [upd_ne (ne_of_none (hs b u e) h)]; exact e, fun b u e _ => by rw [upd_ne (ne_of_none e h)]; exact e, fun b u e => by
    by_cases hb : b = p
    · exact .inr (.inl (by rw [hb]; exact h))
    · rw [upd_ne hb] at e; exact .inl e, fun b q => .inl q⟩
theorem Rep.fix {p : Addr} {o : HO} (R : Rep ca F m σ H) (h : H p = none) : Rep ca (upd F p o) m σ (upd H p o) := by
  refine (R.new h).grow (fun b u e => by rw [upd_ne (ne_of_none (R.sub b u e) h)]; exact e) (fun b u e => ?_) fun a q => ?_
  · by_cases hb : b = p
    · subst hb; rw [upd_same] at e ⊢; exact e
    · rw [upd_ne hb] at e ⊢; exact R.sub b u e
  · obtain ⟨⟨u, e⟩, n⟩ := R.ownH q
    rw [upd_ne (ne_of_none e h)]; exact n
theorem Fin.newT {l : List Dat} {xs : List V} {p : Addr} {Q : V → Hp → Prop} (R : Rep ca F m σ H) (h : Fin ca F m σ H (.dat (.tup l)) Q) (hv : IsDs ca F l xs) (hp : H p = none) : Q (.ref p) (upd H p (.tup xs)) := by
  refine h (upd F p (.tup xs)) _ (.ref p) (Since.less (Since.fix R.sub hp) fun b q => q.elim id False.elim) (R.fix hp) ⟨p, xs, rfl, upd_same, IsDs.mono (fun b u e => ?_) l xs hv⟩
  rw [upd_ne (ne_of_none (R.sub b u e) hp)]; exact e
/-- a new object of nobody's is from now on data -/
theorem Since.frz {A : Addr → Prop} {a : Addr} {B : Addr → Prop} {F0 H0 : Hp} (S : Since F0 H0 A F H B) (hs : Same F H) (hb : B a) : Since F0 H0 A (frzH F H a) H B :=
  ⟨S.k1.trans (frzH_sup hs), S.k2, fun b o e => by
    by_cases q : b = a
    · subst q
      exact (S.k4 b hb).elim (fun z => .inr (.inr z)) fun z => .inr (.inl z)
    · rw [frzH_ne q] at e; exact S.k3 b o e, S.k4⟩
theorem Rep.frz {a : Addr} (R : Rep ca F m σ H) (ha : ¬ Own m σ a) : Rep ca (frzH F H a) m σ H :=
  R.grow (frzH_sup R.sub) (frzH_sub R.sub) fun b q => by
    rw [frzH_ne fun (e : b = a) => ha (by rw [← e]; exact q)]
    exact (R.ownH q).2
/-- behind a part's reading: its value as it may be used -/
theorem res_prj {F0 H0 : Hp} {A : Addr → Prop} {r : RV} {v : V} (S : Since F0 H0 A F H (fun b => Own m σ b ∨ RB r v b)) (R : Rep ca F m σ H) (h : IsR ca F H m σ r v) :
    ∃ G, Since F0 H0 A G H (Own m σ) ∧ Rep ca G m σ H ∧ IsP ca G σ (prj r) v := by
  cases r with
  | dat d => exact ⟨F, S.less fun b q => .inl q, R, h⟩
  | bor i => exact ⟨F, S.less fun b q => .inl q, R, h⟩
  | own d =>
    obtain ⟨a, e, n, o, q⟩ := h
    subst e
    exact ⟨frzH F H a, (S.frz R.sub (.inr rfl)).less fun b z => .inl z, R.frz q, o.frz R.sub⟩
theorem bnd_ok {α β : Type} {f : M α} {g : α → M β} {r : Except Exn β × Frm} (h : bnd f g m = some r) :
    (∃ x m1, f m = some (.error x, m1) ∧ r = (.error x, m1)) ∨ ∃ a m1, f m = some (.ok a, m1) ∧ g a m1 = some r := by
  unfold bnd at h
  split at h
  · cases h
  · rename_i e m1 q
    exact .inl ⟨e, m1, q, (Option.some.inj h).symm⟩
  · rename_i a m1 q
    exact .inr ⟨a, m1, q, h⟩
/-- THE STEP: first f, then g of what f gave -/
theorem tK_bnd {f : M RV} {g : RV → M RV} {Q : V → Hp → Prop} (R : Rep ca F m σ H) (h : tK ca W (bnd f g) F m σ H Q) :
    tE ca W f σ H fun v H1 => ∃ r F1 m1, Since F H (Own m σ) F1 H1 (Own m1 σ) ∧ Rep ca F1 m1 σ H1 ∧ IsP ca F1 σ (prj r) v ∧ tK ca W (g r) F1 m1 σ H1 Q := by
  obtain ⟨r, m', e, k⟩ := h
  refine ⟨F, m, R, ?_⟩
  rcases bnd_ok e with ⟨x, m1, e1, e2⟩ | ⟨a, m1, e1, e2⟩
  · cases e2
    exact ⟨_, _, e1, k⟩
  · refine ⟨_, _, e1, fun F1 H1 v S R1 q => ?_⟩
    obtain ⟨G, S1, R2, q1⟩ := res_prj S R1 q
    refine ⟨a, G, m1, S1, R2, q1, r, m', e2, ?_⟩
    cases r with
    | ok b => exact fun F2 H2 u S2 R3 q2 => k F2 H2 u (S1.trans S2) R3 q2
    | error x => exact fun F2 H2 C d S2 R3 q2 => k F2 H2 C d (S1.trans S2) R3 q2
/-- .. a test behind an expression -/
theorem tB_bnd {f : M RV} {g : RV → M Bool} {Q : Bool → Hp → Prop} (R : Rep ca F m σ H) (h : tB ca W (bnd f g) F m σ H Q) :
    tE ca W f σ H fun v H1 => ∃ r F1 m1, Since F H (Own m σ) F1 H1 (Own m1 σ) ∧ Rep ca F1 m1 σ H1 ∧ IsP ca F1 σ (prj r) v ∧ tB ca W (g r) F1 m1 σ H1 Q := by
  obtain ⟨r, m', e, k⟩ := h
  refine ⟨F, m, R, ?_⟩
  rcases bnd_ok e with ⟨x, m1, e1, e2⟩ | ⟨a, m1, e1, e2⟩
  · cases e2
    exact ⟨_, _, e1, k⟩
  · refine ⟨_, _, e1, fun F1 H1 v S R1 q => ?_⟩
    obtain ⟨G, S1, R2, q1⟩ := res_prj S R1 q
    refine ⟨a, G, m1, S1, R2, q1, r, m', e2, ?_⟩
    cases r with
    | ok b => exact fun F2 H2 u S2 R3 q2 => k F2 H2 u (S1.trans (S2.less fun b z => z)) R3 q2
    | error x => exact fun F2 H2 C d S2 R3 q2 => k F2 H2 C d (S1.trans S2) R3 q2
/-- .. an expression behind a test -/
theorem tK_bndB {f : M Bool} {g : Bool → M RV} {Q : V → Hp → Prop} (R : Rep ca F m σ H) (h : tK ca W (bnd f g) F m σ H Q) :
    tT ca W f σ H fun v H1 => ∃ F1 m1, Since F H (Own m σ) F1 H1 (Own m1 σ) ∧ Rep ca F1 m1 σ H1 ∧ tK ca W (g v) F1 m1 σ H1 Q := by
  obtain ⟨r, m', e, k⟩ := h
  refine ⟨F, m, R, ?_⟩
  rcases bnd_ok e with ⟨x, m1, e1, e2⟩ | ⟨a, m1, e1, e2⟩
  · cases e2
    exact ⟨_, _, e1, k⟩
  · refine ⟨_, _, e1, fun F1 H1 v S R1 q => ?_⟩
    have q' : a = v := q
    subst q'
    have S1 := S.less (D := Own m1 σ) fun b z => .inl z
    refine ⟨F1, m1, S1, R1, r, m', e2, ?_⟩
    cases r with
    | ok b => exact fun F2 H2 u S2 R3 q2 => k F2 H2 u (S1.trans S2) R3 q2
    | error x => exact fun F2 H2 C d S2 R3 q2 => k F2 H2 C d (S1.trans S2) R3 q2
/-- .. behind arguments -/
theorem tK_bndL {f : M (List RV)} {g : List RV → M RV} {Q : V → Hp → Prop} (R : Rep ca F m σ H) (h : tK ca W (bnd f g) F m σ H Q) :
    tA ca W f σ H fun vs H1 => ∃ rs F1 m1, Since F H (Own m σ) F1 H1 (Own m1 σ) ∧ Rep ca F1 m1 σ H1 ∧ IsPs ca F1 σ rs vs ∧ tK ca W (g rs) F1 m1 σ H1 Q := by
  obtain ⟨r, m', e, k⟩ := h
  refine ⟨F, m, R, ?_⟩
  rcases bnd_ok e with ⟨x, m1, e1, e2⟩ | ⟨a, m1, e1, e2⟩
  · cases e2
    exact ⟨_, _, e1, k⟩
  · refine ⟨_, _, e1, fun F1 H1 v S R1 q => ?_⟩
    have S1 := S.less (D := Own m1 σ) fun b z => .inl z
    refine ⟨a, F1, m1, S1, R1, q, r, m', e2, ?_⟩
    cases r with
    | ok b => exact fun F2 H2 u S2 R3 q2 => k F2 H2 u (S1.trans S2) R3 q2
    | error x => exact fun F2 H2 C d S2 R3 q2 => k F2 H2 C d (S1.trans S2) R3 q2
/-- arguments, one after the other -/
theorem tL_bnd {f : M RV} {g : RV → M (List RV)} {Q : List V → Hp → Prop} (R : Rep ca F m σ H) (h : tL ca W (bnd f g) F m σ H Q) :
    tE ca W f σ H fun v H1 => ∃ r F1 m1, Since F H (Own m σ) F1 H1 (Own m1 σ) ∧ Rep ca F1 m1 σ H1 ∧ IsP ca F1 σ (prj r) v ∧ tL ca W (g r) F1 m1 σ H1 Q := by
  obtain ⟨r, m', e, k⟩ := h
  refine ⟨F, m, R, ?_⟩
  rcases bnd_ok e with ⟨x, m1, e1, e2⟩ | ⟨a, m1, e1, e2⟩
  · cases e2
    exact ⟨_, _, e1, k⟩
  · refine ⟨_, _, e1, fun F1 H1 v S R1 q => ?_⟩
    obtain ⟨G, S1, R2, q1⟩ := res_prj S R1 q
    refine ⟨a, G, m1, S1, R2, q1, r, m', e2, ?_⟩
    cases r with
    | ok b => exact fun F2 H2 u S2 R3 q2 => k F2 H2 u (S1.trans S2) R3 q2
    | error x => exact fun F2 H2 C d S2 R3 q2 => k F2 H2 C d (S1.trans S2) R3 q2
theorem tL_bndL {f : M (List RV)} {g : List RV → M (List RV)} {Q : List V → Hp → Prop} (R : Rep ca F m σ H) (h : tL ca W (bnd f g) F m σ H Q) :
    tA ca W f σ H fun vs H1 => ∃ rs F1 m1, Since F H (Own m σ) F1 H1 (Own m1 σ) ∧ Rep ca F1 m1 σ H1 ∧ IsPs ca F1 σ rs vs ∧ tL ca W (g rs) F1 m1 σ H1 Q := by
  obtain ⟨r, m', e, k⟩ := h
  refine ⟨F, m, R, ?_⟩
  rcases bnd_ok e with ⟨x, m1, e1, e2⟩ | ⟨a, m1, e1, e2⟩
  · cases e2
    exact ⟨_, _, e1, k⟩
  · refine ⟨_, _, e1, fun F1 H1 v S R1 q => ?_⟩
    have S1 := S.less (D := Own m1 σ) fun b z => .inl z
    refine ⟨a, F1, m1, S1, R1, q, r, m', e2, ?_⟩
    cases r with
    | ok b => exact fun F2 H2 u S2 R3 q2 => k F2 H2 u (S1.trans S2) R3 q2
    | error x => exact fun F2 H2 C d S2 R3 q2 => k F2 H2 C d (S1.trans S2) R3 q2
/-! ### ends -/
theorem tK_ret {r : RV} {Q : V → Hp → Prop} (h : tK ca W (ret r) F m σ H Q) : Fin ca F m σ H r Q := by
  obtain ⟨r', m', e, k⟩ := h
  cases e
  exact k
theorem tK_lft {o : Option RV} {Q : V → Hp → Prop} (h : tK ca W (lft o) F m σ H Q) : ∃ r, o = some r ∧ Fin ca F m σ H r Q := by
  obtain ⟨r', m', e, k⟩ := h
  cases o with
  | none => cases e
  | some r => cases e; exact ⟨r, rfl, k⟩
theorem tK_lftB {α : Type} {o : Option α} {g : α → M RV} {Q : V → Hp → Prop} (h : tK ca W (bnd (lft o) g) F m σ H Q) : ∃ a, o = some a ∧ tK ca W (g a) F m σ H Q := by
  obtain ⟨r', m', e, k⟩ := h
  cases o with
  | none => cases e
  | some r => exact ⟨r, rfl, r', m', e, k⟩
theorem tK_none {Q : V → Hp → Prop} (h : tK ca W (fun _ => none) F m σ H Q) : False := by
  obtain ⟨_, _, e, _⟩ := h
  cases e
/-- what a used value is now -/
theorem peek_at {r : RV} {v : V} {d : Dat} (R : Rep ca F m σ H) (h : IsP ca F σ r v) (e : peek m r = some d) : AtD ca F H d v := by
  cases r with
  | dat c => cases e; exact IsD.at R.sub h
  | own c => exact False.elim h
  | bor i =>
    simp only [peek] at e
    split at e
    · rename_i c q
      cases e
      obtain ⟨a, e1, n, o⟩ := R.own i _ q
      have h' : σ[i]? = some (some v) := h
      rw [e1] at h'; cases h'
      exact o.at
    · rename_i c q
      cases e
      obtain ⟨u, e1, o⟩ := R.dat i _ q
      have h' : σ[i]? = some (some v) := h
      rw [e1] at h'; cases h'
      exact IsD.at R.sub o
    · cases e
theorem tK_look {r : RV} {g : Dat → M RV} {v : V} {Q : V → Hp → Prop} (R : Rep ca F m σ H) (p : IsP ca F σ r v) (h : tK ca W (bnd (look r) g) F m σ H Q) : ∃ d, peek m r = some d ∧ AtD ca F H d v ∧ tK ca W (g d) F m σ H Q := by
  obtain ⟨r', m', e, k⟩ := h
  cases hd : peek m r with
  | none => simp only [bnd, look, hd] at e; cases e
  | some d =>
    simp only [bnd, look, hd] at e
    exact ⟨d, rfl, peek_at R p hd, r', m', e, k⟩
/-- a slot's own object is from now on data -/
theorem frz_at {r : RV} {v : V} {m' : Frm} {o : Except Exn Dat} (R : Rep ca F m σ H) (p : IsP ca F σ r v) (e : frz r m = some (o, m')) :
    ∃ d G, o = .ok d ∧ Since F H (Own m σ) G H (Own m' σ) ∧ Rep ca G m' σ H ∧ IsD ca G d v := by
  cases r with
  | dat c => cases e; exact ⟨c, F, rfl, Since.refl, R, p⟩
  | own c => exact False.elim p
  | bor i =>
    have p' : σ[i]? = some (some v) := p
    simp only [frz] at e
    · split at e
      · rename_i d q
        cases e
        obtain ⟨a, e1, ow, n, o⟩ := R.owns q
        rw [e1] at p'; cases p'
        have hi : i < m.length := (List.getElem?_eq_some_iff.mp q).1
        have own' : ∀ b, Own (m.set i (some (.dat d))) σ b → Own m σ b ∧ b ≠ a := fun b ⟨j, c, h1, h2⟩ => by
          by_cases hj : i = j
          · subst hj
            rw [List.getElem?_set_self hi] at h1
            cases h1
          · rw [List.getElem?_set_ne hj] at h1
            refine ⟨⟨j, c, h1, h2⟩, fun z => hj ?_⟩
            subst z
            exact R.inj i j _ _ _ q h1 e1 h2
        have R1 : Rep ca F (m.set i (some (.dat d))) σ H → False ∨ True := fun _ => .inr trivial
        refine ⟨d, frzH F H a, rfl, ?_, ?_, o.frz R.sub⟩
        · exact ((Since.refl (A := Own m σ)).frz R.sub ow).less fun b z => (own' b z).1
        · refine ⟨frzH_sub R.sub, by rw [List.length_set]; exact R.len, fun j c h1 => ?_, fun j c h1 => ?_, fun j k c1 c2 b h1 h2 h3 h4 => ?_⟩
          · by_cases hj : i = j
            · subst hj
              rw [List.getElem?_set_self hi] at h1
              cases h1
              exact ⟨_, e1, o.frz R.sub⟩
            · rw [List.getElem?_set_ne hj] at h1
              obtain ⟨u, e2, q2⟩ := R.dat j c h1
              exact ⟨u, e2, IsD.mono (frzH_sup R.sub) _ _ q2⟩
          · by_cases hj : i = j
            · subst hj
              rw [List.getElem?_set_self hi] at h1
              cases h1
            · rw [List.getElem?_set_ne hj] at h1
              obtain ⟨b, e2, n2, q2⟩ := R.own j c h1
              have hb : b ≠ a := fun z => by
                subst z
                exact hj (R.inj i j _ _ _ q h1 e1 e2)
              exact ⟨b, e2, by rw [frzH_ne hb]; exact n2, q2.mono (frzH_sup R.sub) fun _ z => z⟩
          · have g : ∀ {j : Nat} {c : Dat}, (m.set i (some (Slo.dat d)))[j]? = some (some (Slo.own c)) → m[j]? = some (some (Slo.own c)) := fun {j c} h => by
              by_cases hj : i = j
              · subst hj
                rw [List.getElem?_set_self hi] at h
                cases h
              · rw [List.getElem?_set_ne hj] at h
                exact h
            exact R.inj j k c1 c2 b (g h1) (g h2) h3 h4
      · rename_i d q
        cases e
        obtain ⟨u, e1, o⟩ := R.dat i _ q
        rw [e1] at p'; cases p'
        exact ⟨d, F, rfl, Since.refl, R, o⟩
      · cases e
end
end SB
/-! SbVal: the operations by values, over the machine's rules. -/
namespace SB
open PySem L2
section
variable {ca : Nat → Addr} {F H : Hp} {m : Frm} {σ σ0 : St} {X : Cx}
/-- the last step of an operation: its values lie as data, and what is wanted of its result -/
def V2 (ca : Nat → Addr) (f : Dat → Dat → Option RV) : R2 := fun x y H Q => ∃ (F : Hp) (m : Frm) (σ : St) (dx dy : Dat) (r : RV), Rep ca F m σ H ∧ AtD ca F H dx x ∧ AtD ca F H dy y ∧ f dx dy = some r ∧ Fin ca F m σ H r Q
mutual
theorem dict_no : ∀ p : PyData, p.canLay0 = true → p.hasDict = false
  | .none, _ => by simp [PyData.hasDict]
  | .bool _, _ => by simp [PyData.hasDict]
  | .int _, _ => by simp [PyData.hasDict]
  | .str _, _ => by simp [PyData.hasDict]
  | .list l, h => by
    simp only [PyData.canLay0] at h
    simp only [PyData.hasDict]
    exact dict_noAll l h
  | .tuple l, h => by
    simp only [PyData.canLay0] at h
    simp only [PyData.hasDict]
    exact dict_noAll l h
  | .dict _, h => by simp [PyData.canLay0] at h
theorem dict_noAll : ∀ l : List PyData, PyData.canLayAll0 l = true → PyData.hasDictAll l = false
  | [], _ => by simp [PyData.hasDictAll]
  | p :: r, h => by
    simp only [PyData.canLayAll0, Bool.and_eq_true] at h
    simp only [PyData.hasDictAll, dict_no p h.1, dict_noAll r h.2, Bool.or_false]
end
mutual
theorem dp_of {K : PySem.W.Frag} (hs : Same F H) : ∀ (d : Dat) (v : V) (p : PyData), IsD ca F d v → pd d = some p → p.hasDict = false → Dp K H v p
  | .non, v, p, x, e, _ => by
    have x' : v = .non := x
    cases e; subst x'; exact .non
  | .bl b, v, p, x, e, _ => by
    have x' : v = .bl b := x
    cases e; subst x'; exact .bl b
  | .int b, v, p, x, e, _ => by
    have x' : v = .int b := x
    cases e; subst x'; exact .int b
  | .str b, v, p, x, e, _ => by
    have x' : v = .str b := x
    cases e; subst x'; exact .str b
  | .tup l, v, p, x, e, c => by
    obtain ⟨a, xs, ev, q, r⟩ := x
    simp only [pd] at e
    cases ep : pds l with
    | none => rw [ep] at e; cases e
    | some ps =>
      rw [ep] at e; cases e
      subst ev
      exact .tup (.of (hs _ _ q)) (dps_of hs l xs ps r ep (by simpa only [PyData.hasDict] using c))
  | .lst l, v, p, x, e, c => by
    obtain ⟨a, xs, ev, q, r⟩ := x
    simp only [pd] at e
    cases ep : pds l with
    | none => rw [ep] at e; cases e
    | some ps =>
      rw [ep] at e; cases e
      subst ev
      refine .lst (.inl ?_) (dps_of hs l xs ps r ep (by simpa only [PyData.hasDict] using c))
      rcases q with q | ⟨o, q⟩
      · exact .inl (hs _ _ q)
      · exact .inr ⟨o, hs _ _ q⟩
  | .dic [], v, p, x, e, c => by
    simp only [pd] at e
    cases e
    simp [PyData.hasDict] at c
  | .dic (_ :: _), v, p, x, e, c => by simp [pd] at e
  | .obj _ _, v, p, x, e, c => by simp [pd] at e
  | .exc _ _, v, p, x, e, c => by simp [pd] at e
  | .cls _, v, p, x, e, c => by simp [pd] at e
theorem dps_of {K : PySem.W.Frag} (hs : Same F H) : ∀ (l : List Dat) (vs : List V) (ps : List PyData), IsDs ca F l vs → pds l = some ps → PyData.hasDictAll ps = false → DpAll K H vs ps
  | [], vs, ps, x, e, _ => by
    have x' : vs = [] := x
    subst x'
    cases e; exact .nil
  | d :: r, vs, ps, x, e, c => by
    obtain ⟨y, ys, ey, q, t⟩ := x
    subst ey
    simp only [pds] at e
    cases e1 : pd d with
    | none => rw [e1] at e; cases e
    | some p =>
      cases e2 : pds r with
      | none => rw [e1, e2] at e; cases e
      | some qs =>
        rw [e1, e2] at e
        cases e
        simp only [PyData.hasDictAll, Bool.or_eq_false_iff] at c
        exact .cons (dp_of hs d y p q e1 c.1) (dps_of hs r ys qs t e2 c.2)
end
theorem at_dp {K : PySem.W.Frag} (hs : Same F H) {d : Dat} {v : V} {p : PyData} (x : AtD ca F H d v) (e : pd d = some p) (c : p.hasDict = false) : Dp K H v p := by
  cases d with
  | lst l =>
    obtain ⟨a, xs, ev, q, r⟩ := x
    simp only [pd] at e
    cases ep : pds l with
    | none => rw [ep] at e; cases e
    | some ps =>
      rw [ep] at e; cases e
      subst ev
      exact .lst (.inl q) (dps_of hs l xs ps r ep (by simpa only [PyData.hasDict] using c))
  | dic l =>
    cases l with
    | nil =>
      simp only [pd] at e
      cases e
      simp [PyData.hasDict] at c
    | cons a r => simp [pd] at e
  | obj c fs => simp [pd] at e
  | _ => exact dp_of hs _ v p x e c
/-- a flat datum is its value -/
def vOf : Dat → V
  | .bl b => .bl b
  | .int i => .int i
  | .str s => .str s
  | _ => .non
theorem at_flat {d : Dat} {v : V} (h : flat d = true) (x : AtD ca F H d v) : v = vOf d := by
  cases d <;> first | exact x | cases h
theorem isd_flat {d : Dat} {v : V} (h : flat d = true) (x : IsD ca F d v) : v = vOf d := by
  cases d <;> first | exact x | cases h
theorem flatV_of {d : Dat} (h : flat d = true) : flatV (vOf d) = true := by
  cases d <;> first | rfl | cases h
theorem eqV_of {d e : Dat} (h : flat d = true) (k : flat e = true) : eqV (vOf d) (vOf e) = eqF d e := by
  cases d <;> first | (exact absurd h Bool.false_ne_true) | (cases e <;> first | (exact absurd k Bool.false_ne_true) | rfl)
theorem isds_flat : ∀ {l : List Dat} {xs : List V}, l.all flat = true → IsDs ca F l xs → xs = l.map vOf
  | [], xs, _, x => x
  | d :: r, xs, h, x => by
    obtain ⟨y, ys, ey, q, t⟩ := x
    simp only [List.all_cons, Bool.and_eq_true] at h
    rw [ey, isd_flat h.1 q, isds_flat h.2 t]
    rfl
theorem scal_of {d e : Dat} (h : scalD d e = true) : flat d = true ∧ flat e = true ∧ scal (vOf d) (vOf e) = true ∧ decide (vOf d = vOf e) = eqF d e := by
  cases d <;> cases e <;> first
    | (exact absurd h Bool.false_ne_true)
    | (refine ⟨rfl, rfl, rfl, ?_⟩; first | exact dec_int | exact dec_bl | exact dec_str | rfl | (simp [vOf, eqF]; done))
/-- list + list, whatever else knows them -/
theorem cat_any : OpR X (binaryOp .Add) (fun x y H Q => ∃ a b xs ys, x = .ref a ∧ y = .ref b ∧ SqL X.K H a xs ∧ SqL X.K H b ys ∧ xs.length + ys.length ≤ sizeLine ∧ ∀ p, H p = none → Q (.ref p) (upd H p (.lst (xs ++ ys)))) := by
  intro P s σ1 H x y v u Q I rx ry h
  obtain ⟨a, b, xs, ys, ex, ey, h1, h2, hz, k⟩ := h
  subst ex; subst ey
  cases rx; cases ry
  obtain ⟨i1, r1, ⟨⟨cl, dd, da, sl⟩, n, g1, c1, d1, e1⟩, _⟩ := I.list h1
  obtain ⟨i2, r2, ⟨⟨cl2, dd2, da2, sl2⟩, n2, g2, c2, d2, e2⟩, _⟩ := I.list h2
  simp only at c1 d1 e1 c2 d2 e2
  subst c1; subst d1; subst e1; subst c2; subst d2; subst e2
  have hl1 := r1.length
  have hl2 := r2.length
  have e : i1.toArray ++ i2.toArray = (i1 ++ i2).toArray := by simp
  refine concat_meets ⟨_, g1, rfl⟩ ⟨_, g2, rfl⟩ noFill_list_add seq_list_add PySem.F.slot_list_add PySem.F.entry_list_add (PySem.F.args_list_add_2 _ _) (PyProof.Rows.list_addW a b i1.toArray i2.toArray n n2 none none sl sl2 (by rw [List.size_toArray, List.size_toArray]; omega)) ⟨g1, g2, ?_⟩
  rw [e]
  exact ⟨.ref _, _, I.lnew (t' := s.toks) (r1.append r2) (by rw [List.length_append]; omega), rfl, k _ I.fresh⟩
theorem op_bin (op : Operator) : OpR X (binaryOp op) (V2 ca (binV op)) := by
  intro P s σ1 H x y v u Q I rx ry h
  obtain ⟨F, m, σ, dx, dy, r, R, ax, ay, e, k⟩ := h
  unfold binV at e
  split at e
  · cases e
    exact op_add P s σ1 H x y v u Q I rx ry ⟨_, _, ax, ay, k.flat R rfl⟩
  · split at e
    · rename_i hz
      cases e
      exact op_add_str P s σ1 H x y v u Q I rx ry ⟨_, _, ax, ay, hz, k.flat R rfl⟩
    · cases e
  · rename_i l j
    split at e
    · rename_i hz
      cases e
      obtain ⟨a, xs, ex, qx, hx⟩ := ax
      obtain ⟨b, ys, ey, qy, hy⟩ := ay
      have hl := hx.len
      have hk := hy.len
      refine cat_any P s σ1 H x y v u Q I rx ry ⟨a, b, xs, ys, ex, ey, .inl qx, .inl qy, by omega, fun p hp => k.newL R (hx.app hy) hp⟩
    · cases e
  · cases e
    exact op_sub P s σ1 H x y v u Q I rx ry ⟨_, _, ax, ay, k.flat R rfl⟩
  · split at e
    · rename_i hz
      cases e
      refine op_mul P s σ1 H x y v u Q I rx ry ⟨_, _, ax, ay, ?_, k.flat R rfl⟩
      simp only [small64, Bool.or_eq_true, Bool.and_eq_true, decide_eq_true_eq] at hz
      exact hz
    · cases e
  · split at e
    · rename_i hz
      cases e
      exact op_mod P s σ1 H x y v u Q I rx ry ⟨_, _, ax, ay, hz, k.flat R rfl⟩
    · cases e
  · split at e
    · rename_i hz
      cases e
      exact op_fdiv P s σ1 H x y v u Q I rx ry ⟨_, _, ax, ay, hz, k.flat R rfl⟩
    · cases e
  · split at e
    · rename_i hz
      cases e
      exact op_pow P s σ1 H x y v u Q I rx ry ⟨_, _, ax, ay, hz, k.flat R rfl⟩
    · cases e
  · cases e
/-- a test's answer as a value -/
def blR (o : Option Bool) : Option RV := o.map fun b => .dat (.bl b)
theorem ks_get {k : L2.Key} : ∀ {l : List (L2.Key × Dat)} {kvs : List (L2.Key × V)}, IsKs ca F l kvs → match valD l k with
    | some d => ∃ v, valV kvs k = some v ∧ IsD ca F d v
    | none => valV kvs k = none
  | [], kvs, x => by
    have e : kvs = [] := x
    subst e; rfl
  | d :: r, kvs, x => by
    obtain ⟨y, ys, e, q, t⟩ := x
    subst e
    by_cases h : d.1 = k
    · have e1 : valD (d :: r) k = some d.2 := by simp [valD, h]
      rw [e1]
      exact ⟨y, by simp [valV, h], q⟩
    · have e1 : valD (d :: r) k = valD r k := by simp [valD, h]
      have e2 : valV ((d.1, y) :: ys) k = valV ys k := by simp [valV, h]
      rw [e1, e2]
      exact ks_get t
theorem key_of {d : Dat} {v : V} {k : L2.Key} (e : keyOf d = some k) (x : AtD ca F H d v) : v = kV k := by
  cases d <;> first
    | (cases e; exact x)
    | cases e
theorem at_seq {d : Dat} {l : List Dat} {v : V} {K : PySem.W.Frag} (hs : Same F H) (e : d = .lst l ∨ d = .tup l) (x : AtD ca F H d v) : ∃ a xs, v = .ref a ∧ (SqL K H a xs ∨ SqT K H a xs) ∧ IsDs ca F l xs := by
  rcases e with e | e
  · subst e
    obtain ⟨a, xs, ev, q, r⟩ := x
    exact ⟨a, xs, ev, .inl (.inl q), r⟩
  · subst e
    obtain ⟨a, xs, ev, q, r⟩ := x
    exact ⟨a, xs, ev, .inr (.of (hs _ _ q)), r⟩
theorem any_in {x : Dat} (fx : flat x = true) : ∀ {l : List Dat}, l.all flat = true → inV x l = some (l.any fun y => eqF y x) ∧ L2.inV (vOf x) (l.map vOf) = l.any fun y => eqF y x := fun {l} h => by
  refine ⟨by simp only [SB.inV, fx, h]; rfl, ?_⟩
  induction l with
  | nil => rfl
  | cons y r ih =>
    simp only [List.all_cons, Bool.and_eq_true] at h
    simp only [L2.inV, List.map_cons, List.any_cons, eqV_of h.1 fx]
    exact congrArg _ (ih h.2)
theorem all_flatV {l : List Dat} (h : l.all flat = true) : (l.map vOf).all flatV = true := by
  induction l with
  | nil => rfl
  | cons y r ih =>
    simp only [List.all_cons, Bool.and_eq_true] at h
    simp only [List.map_cons, List.all_cons, flatV_of h.1, ih h.2, Bool.and_self]
theorem op_cmp (hu : X.A.units + 64 < cLine) (op : CmpOp) : OpR X (compareOp op) (V2 ca fun x y => blR (cmpV op x y)) := by
  intro P s σ1 H x y v u Q I rx ry h
  obtain ⟨F, m, σ, dx, dy, r, R, ax, ay, e, k⟩ := h
  have hsame := R.sub
  have fin : ∀ {b : Bool}, cmpV op dx dy = some b → Q (.bl b) H := fun {b} q => by
    have e' : blR (cmpV op dx dy) = some r := e
    rw [q] at e'
    cases e'
    exact k.flat R rfl
  have eqs : ∀ b, eqD dx dy = some b → (scalD dx dy = true ∧ b = eqF dx dy) ∨ ∃ p q, pd dx = some p ∧ pd dy = some q ∧ SeqAt.shaped p = true ∧ SeqAt.shaped q = true ∧ b = PyData.eqv p q := fun b q => by
    unfold eqD at q
    split at q
    · rename_i hz
      cases q
      exact .inl ⟨hz, rfl⟩
    · split at q
      · rename_i p p2 e1 e2
        split at q
        · rename_i hz
          cases q
          simp only [Bool.and_eq_true] at hz
          exact .inr ⟨p, p2, e1, e2, hz.1, hz.2, rfl⟩
        · cases q
      · cases q
  have dps : ∀ {d : Dat} {z : V} {p : PyData}, AtD ca F H d z → pd d = some p → SeqAt.shaped p = true → Dp X.K H z p := fun a q c => at_dp R.sub a q (dict_no _ (SeqAt.canLay_of_shaped c))
  cases hc : cmpV op dx dy with
  | none => simp only [blR, hc, Option.map_none] at e; cases e
  | some b =>
  have hb := hc
  unfold cmpV at hc
  split at hc
  · rcases eqs b hc with ⟨h1, h2⟩ | ⟨p, q, e1, e2, c1, c2, h2⟩
    · obtain ⟨f1, f2, f3, f4⟩ := scal_of h1
      have ex := at_flat f1 ax
      have ey := at_flat f2 ay
      subst ex; subst ey; subst h2
      exact op_eq P s σ1 H _ _ v u Q I rx ry ⟨f3, by rw [f4]; exact fin hb⟩
    · subst h2
      exact op_eqD hu P s σ1 H x y v u Q I rx ry ⟨p, q, dps ax e1 c1, dps ay e2 c2, c1, c2, fin hb⟩
  · cases hq : eqD dx dy with
    | none => rw [hq] at hc; cases hc
    | some b' =>
    rw [hq] at hc
    cases hc
    rcases eqs b' hq with ⟨h1, h2⟩ | ⟨p, q, e1, e2, c1, c2, h2⟩
    · obtain ⟨f1, f2, f3, f4⟩ := scal_of h1
      have ex := at_flat f1 ax
      have ey := at_flat f2 ay
      subst ex; subst ey; subst h2
      exact op_ne P s σ1 H _ _ v u Q I rx ry ⟨f3, by rw [f4]; exact fin hb⟩
    · subst h2
      exact op_neD hu P s σ1 H x y v u Q I rx ry ⟨p, q, dps ax e1 c1, dps ay e2 c2, c1, c2, fin hb⟩
  · cases hc; exact op_lt P s σ1 H x y v u Q I rx ry ⟨_, _, ax, ay, fin hb⟩
  · cases hc; exact op_le P s σ1 H x y v u Q I rx ry ⟨_, _, ax, ay, fin hb⟩
  · cases hc; exact op_gt P s σ1 H x y v u Q I rx ry ⟨_, _, ax, ay, fin hb⟩
  · cases hc; exact op_ge P s σ1 H x y v u Q I rx ry ⟨_, _, ax, ay, fin hb⟩
  · cases hc; exact op_lt_str P s σ1 H x y v u Q I rx ry ⟨_, _, ax, ay, fin hb⟩
  · cases hc; exact op_le_str P s σ1 H x y v u Q I rx ry ⟨_, _, ax, ay, fin hb⟩
  · have ey : y = .non := ay
    refine op_isN P s σ1 H x y v u Q I rx ry ⟨ey, ?_⟩
    have eb : b = decide (x = .non) := by
      cases dx <;> cases hc <;> first
        | (have q : x = V.non := ax; rw [q]; rfl)
        | (have q : x = vOf _ := at_flat rfl ax; rw [q]; rfl)
        | (obtain ⟨a, z, q, _⟩ := ax; rw [q]; rfl)
        | (obtain ⟨a, z, w', q, _⟩ := ax; rw [q]; rfl)
        | (have q : x = V.ref _ := ax; rw [q]; rfl)
        | (exact False.elim ax)
    rw [← eb]; exact fin hb
  · have ey : y = .non := ay
    refine op_notN P s σ1 H x y v u Q I rx ry ⟨ey, ?_⟩
    have eb : b = !decide (x = .non) := by
      cases dx <;> cases hc <;> first
        | (have q : x = V.non := ax; rw [q]; rfl)
        | (have q : x = vOf _ := at_flat rfl ax; rw [q]; rfl)
        | (obtain ⟨a, z, q, _⟩ := ax; rw [q]; rfl)
        | (obtain ⟨a, z, w', q, _⟩ := ax; rw [q]; rfl)
        | (have q : x = V.ref _ := ax; rw [q]; rfl)
        | (exact False.elim ax)
    rw [← eb]; exact fin hb
  · have seqs : ∀ l, (dy = .lst l ∨ dy = .tup l) → SB.inV dx l = some b → wpAny (model X.prog X.w) X.A (compareOp .In v u) (EP X P σ1 Q) X.xe s := fun l q1 q2 => by
      obtain ⟨a, xs, ev, sq, r1⟩ := at_seq (K := X.K) R.sub q1 ay
      have q3 := q2
      simp only [SB.inV] at q3
      split at q3
      · rename_i hz
        simp only [Bool.and_eq_true] at hz
        obtain ⟨i1, i2⟩ := any_in hz.1 hz.2
        have ex := at_flat hz.1 ax
        have exs := isds_flat hz.2 r1
        subst ex; subst exs
        refine op_in_seq P s σ1 H _ y v u Q I rx ry ⟨a, _, ev, sq, flatV_of hz.1, all_flatV hz.2, ?_⟩
        rw [i1] at q2
        cases q2
        rw [if_neg Bool.false_ne_true, i2]
        exact fin hb
      · cases q3
    unfold isIn at hc
    split at hc
    · exact seqs _ (.inl rfl) hc
    · exact seqs _ (.inr rfl) hc
    · rename_i z
      split at hc
      · rename_i a
        split at hc
        · rename_i c hcs
          cases hc
          have ex : x = .str a := ax
          have ea : a = ⟨#[c]⟩ := by
            obtain ⟨cps⟩ := a
            have : cps.toList = [c] := hcs
            have : cps = #[c] := by rw [← Array.toList_inj, this]
            rw [this]
          exact op_in_sign P s σ1 H x y v u Q I rx ry ⟨c, z, by rw [ex, ea], ay, fin hb⟩
        · cases hc
      · cases hc
    · rename_i l
      obtain ⟨a, kvs, ev, q, r1⟩ := ay
      cases hk : keyOf dx with
      | none => rw [hk] at hc; cases hc
      | some key =>
        rw [hk] at hc
        cases hc
        have ex := key_of hk ax
        subst ex; subst ev
        cases ry
        refine d_in (by omega) I (DGet.k (k := key) q) rx fun s3 I3 => ?_
        have g := ks_get (k := key) r1
        have eb : (valV kvs key).isSome = (valD l key).isSome := by
          cases hv : valD l key with
          | none => rw [hv] at g; rw [show valV kvs key = none from g]; rfl
          | some d => rw [hv] at g; obtain ⟨z, g1, _⟩ := g; rw [g1]; rfl
        rw [eb]
        exact ⟨.bl _, H, I3, rfl, fin hb⟩
    · cases hc
  · cases hc
  · have seqs : ∀ l b', (dy = .lst l ∨ dy = .tup l) → SB.inV dx l = some b' → b = !b' → wpAny (model X.prog X.w) X.A (compareOp .NotIn v u) (EP X P σ1 Q) X.xe s := fun l b' q1 q2 q4 => by
      obtain ⟨a, xs, ev, sq, r1⟩ := at_seq (K := X.K) R.sub q1 ay
      have q3 := q2
      simp only [SB.inV] at q3
      split at q3
      · rename_i hz
        simp only [Bool.and_eq_true] at hz
        obtain ⟨i1, i2⟩ := any_in hz.1 hz.2
        have ex := at_flat hz.1 ax
        have exs := isds_flat hz.2 r1
        subst ex; subst exs
        refine op_notIn_seq P s σ1 H _ y v u Q I rx ry ⟨a, _, ev, sq, flatV_of hz.1, all_flatV hz.2, ?_⟩
        rw [i1] at q2
        cases q2
        rw [if_pos rfl, i2, ← q4]
        exact fin hb
      · cases q3
    cases hq : isIn dx dy with
    | none => rw [hq] at hc; cases hc
    | some b' =>
    rw [hq] at hc
    have eb : b = !b' := by cases hc; rfl
    clear hc
    unfold isIn at hq
    split at hq
    · exact seqs _ _ (.inl rfl) hq eb
    · exact seqs _ _ (.inr rfl) hq eb
    · rename_i z hnd
      split at hq
      · rename_i a
        split at hq
        · rename_i c hcs
          cases hq
          have ex : x = .str a := ax
          have ea : a = ⟨#[c]⟩ := by
            obtain ⟨cps⟩ := a
            have : cps.toList = [c] := hcs
            have : cps = #[c] := by rw [← Array.toList_inj, this]
            rw [this]
          exact op_notIn_sign P s σ1 H x y v u Q I rx ry ⟨c, z, by rw [ex, ea], ay, by rw [← eb]; exact fin hb⟩
        · cases hq
      · cases hq
    · rename_i l hnd
      exact absurd rfl (hnd l)
    · cases hq
  · cases hc
end
end SB
/-! SbVal2: subscripts, slices, built-in functions, methods by values. -/
namespace SB
open PySem L2
section
variable {ca : Nat → Addr} {F H : Hp} {m : Frm} {σ σ0 : St} {X : Cx}
def V1 (ca : Nat → Addr) (f : Dat → Option RV) : V → Hp → VK → Prop := fun x H Q => ∃ (F : Hp) (m : Frm) (σ : St) (dx : Dat) (r : RV), Rep ca F m σ H ∧ AtD ca F H dx x ∧ f dx = some r ∧ Fin ca F m σ H r Q
def AtDs (ca : Nat → Addr) (F H : Hp) : List Dat → List V → Prop
  | [], vs => vs = []
  | d :: r, vs => ∃ x ys, vs = x :: ys ∧ AtD ca F H d x ∧ AtDs ca F H r ys
def VL (ca : Nat → Addr) (f : List Dat → Option RV) : List V → Hp → VK → Prop := fun xs H Q => ∃ (F : Hp) (m : Frm) (σ : St) (ds : List Dat) (r : RV), Rep ca F m σ H ∧ AtDs ca F H ds xs ∧ f ds = some r ∧ Fin ca F m σ H r Q
def VM (ca : Nat → Addr) (f : Dat → List Dat → Option RV) : V → List V → Hp → VK → Prop := fun x xs H Q => ∃ (F : Hp) (m : Frm) (σ : St) (d : Dat) (ds : List Dat) (r : RV), Rep ca F m σ H ∧ AtD ca F H d x ∧ AtDs ca F H ds xs ∧ f d ds = some r ∧ Fin ca F m σ H r Q
theorem un_any (op : UnaryOp) : UnR X (unaryOp op) (V1 ca (unaV op)) := by
  intro P s σ1 H x v Q I rx h
  obtain ⟨F, m, σ, dx, r, R, ax, e, k⟩ := h
  unfold unaV at e
  split at e
  · cases e
    exact un_neg P s σ1 H x v Q I rx ⟨_, ax, k.flat R rfl⟩
  · cases e
theorem atI_map {l : List Dat} {xs : List V} {i : Int} {d : Dat} (h : IsDs ca F l xs) (e : L2.atI l i = some d) : ∃ x, L2.atI xs i = some x ∧ IsD ca F d x := by
  unfold L2.atI at e ⊢
  have hl := h.len
  rw [hl]
  cases q : ixN l.length i with
  | none => rw [q] at e; cases e
  | some j =>
    rw [q] at e
    exact h.get e
theorem ix_any (hu : X.A.units + 64 < cLine) : IxR X (V2 ca fun x y => (idxV x y).map .dat) := by
  intro value slice P s σ1 H x y v u Q I rx ry h hs
  obtain ⟨F, m, σ, dx, dy, r, R, ax, ay, e, k⟩ := h
  cases hc : idxV dx dy with
  | none => simp only [hc, Option.map_none] at e; cases e
  | some d =>
  simp only [hc, Option.map_some] at e
  cases e
  cases dx with
  | lst l =>
    cases dy with
    | int i =>
      obtain ⟨a, xs, ev, q, r1⟩ := ax
      obtain ⟨z, h1, h2⟩ := atI_map r1 hc
      exact ix_list value slice P s σ1 H x y v u Q I rx ry ⟨a, xs, i, z, ev, ay, .inl q, h1, k.flat R h2⟩ hs
    | _ => cases hc
  | tup l =>
    cases dy with
    | int i =>
      obtain ⟨a, xs, ev, q, r1⟩ := ax
      obtain ⟨z, h1, h2⟩ := atI_map r1 hc
      exact ix_tup value slice P s σ1 H x y v u Q I rx ry ⟨a, xs, i, z, ev, ay, .of (R.sub _ _ q), h1, k.flat R h2⟩ hs
    | _ => cases hc
  | str z =>
    cases dy with
    | int i =>
      simp only [idxV] at hc
      split at hc
      · rename_i hz
        cases hq : L2.atI z.cps.toList i with
        | none => rw [hq] at hc; cases hc
        | some c =>
          rw [hq] at hc
          cases hc
          exact ix_str value slice P s σ1 H x y v u Q I rx ry ⟨z, i, c, ax, ay, hz, hq, k.flat R rfl⟩ hs
      · cases hc
    | _ => cases hc
  | dic l =>
    simp only [idxV] at hc
    obtain ⟨a, kvs, ev, q, r1⟩ := ax
    cases hk : keyOf dy with
    | none => simp only [hk, Option.bind_none] at hc; cases hc
    | some key =>
      simp only [hk, Option.bind_some] at hc
      cases hv : valD l key with
      | none => simp only [hv] at hc; cases hc
      | some d' =>
        simp only [hv] at hc
        split at hc
        · rename_i hf
          cases hc
          have ex := key_of hk ay
          subst ex; subst ev
          cases rx
          have g := ks_get (k := key) r1
          rw [hv] at g
          obtain ⟨z, g1, g2⟩ := g
          have ez := isd_flat hf g2
          have dg : DGet H a (kV key) (some z) := by
            have := DGet.k (k := key) q
            rw [g1] at this; exact this
          refine PyProof.Rows.subscriptTail_builtin_flat (dict_typeIs I dg) PySem.F.slot_dict_getitem.lookup (d_getItem (by omega) I dg ry fun w' s3 I3 rw' => ⟨fun b eb => ?_, z, H, I3, rw', k.flat R g2⟩) hs
          subst ez
          subst eb
          cases d <;> first
            | exact absurd hf Bool.false_ne_true
            | (cases rw'; done)
            | (obtain ⟨t, rw'⟩ := rw'; cases rw')
        · cases hc
  | _ => cases hc
theorem cut_is {l : List Dat} {xs : List V} {lo hi : Option Int} (h : IsDs ca F l xs) : IsDs ca F (cutD l lo hi) (cutV xs lo hi) := by
  unfold cutD cutV
  rw [h.len]
  exact (h.drop _).take _
/-- a slice by values: the parts are given -/
def VS (ca : Nat → Addr) : V → Option Int → Option Int → Hp → VK → Prop := fun x lo hi H Q => ∃ (F : Hp) (m : Frm) (σ : St) (dx dl dh : Dat) (r : RV), Rep ca F m σ H ∧ AtD ca F H dx x ∧ partV dl = some lo ∧ partV dh = some hi ∧ sliV dx dl dh = some r ∧ Fin ca F m σ H r Q
theorem sl_any : SlR X (VS ca) := by
  intro P s σ1 H x v vl vu lo hi sl Q I rx hs pl pu h
  obtain ⟨F, m, σ, dx, dl, dh, r, R, ax, e1, e2, e, k⟩ := h
  unfold sliV at e
  rw [e1, e2] at e
  simp only at e
  split at e
  · rename_i l
    cases e
    obtain ⟨a, xs, ev, q, r1⟩ := ax
    exact sl_list P s σ1 H x v vl vu lo hi sl Q I rx hs pl pu ⟨a, xs, ev, .inl q, fun p hp => k.newL R (cut_is r1) hp⟩
  · rename_i l
    split at e
    · cases e
    · rename_i hn
      cases e
      obtain ⟨a, xs, ev, q, r1⟩ := ax
      refine sl_tup P s σ1 H x v vl vu lo hi sl Q I rx hs pl pu ⟨a, xs, ev, .of (R.sub _ _ q), ?_, fun p hp => k.newT R (cut_is r1) hp⟩
      rw [r1.len]; exact hn
  · rename_i z
    split at e
    · rename_i hz
      cases e
      exact sl_str P s σ1 H x v vl vu lo hi sl Q I rx hs pl pu ⟨z, ax, hz, k.flat R rfl⟩
    · cases e
  · cases e
/-! ### built-in functions -/
theorem ats_1 {d : Dat} {vs : List V} (h : AtDs ca F H [d] vs) : ∃ x, vs = [x] ∧ AtD ca F H d x := by
  obtain ⟨x, ys, e, q, t⟩ := h
  have t' : ys = [] := t
  subst t'
  exact ⟨x, e, q⟩
theorem ats_2 {d e : Dat} {vs : List V} (h : AtDs ca F H [d, e] vs) : ∃ x y, vs = [x, y] ∧ AtD ca F H d x ∧ AtD ca F H e y := by
  obtain ⟨x, ys, e1, q, t⟩ := h
  obtain ⟨y, e2, q2⟩ := ats_1 t
  subst e2
  exact ⟨x, y, e1, q, q2⟩
theorem bls_is : ∀ {l : List Dat} {bs : List Bool} {xs : List V}, blsD l = some bs → IsDs ca F l xs → xs = bs.map V.bl
  | [], bs, xs, e, x => by
    cases e; exact x
  | .bl b :: r, bs, xs, e, x => by
    obtain ⟨y, ys, ey, q, t⟩ := x
    have q' : y = V.bl b := q
    simp only [blsD] at e
    cases er : blsD r with
    | none => rw [er] at e; cases e
    | some br =>
      rw [er] at e
      cases e
      rw [ey, q', bls_is er t]
      rfl
  | .non :: r, bs, xs, e, x => by cases e
  | .int _ :: r, bs, xs, e, x => by cases e
  | .str _ :: r, bs, xs, e, x => by cases e
  | .tup _ :: r, bs, xs, e, x => by cases e
  | .lst _ :: r, bs, xs, e, x => by cases e
  | .dic _ :: r, bs, xs, e, x => by cases e
  | .obj _ _ :: r, bs, xs, e, x => by cases e
  | .exc _ _ :: r, bs, xs, e, x => by cases e
  | .cls _ :: r, bs, xs, e, x => by cases e
theorem strs_is : ∀ {l : List Dat} {bs : List PySem.Str} {xs : List V}, strsD l = some bs → IsDs ca F l xs → xs = bs.map V.str
  | [], bs, xs, e, x => by
    cases e; exact x
  | .str b :: r, bs, xs, e, x => by
    obtain ⟨y, ys, ey, q, t⟩ := x
    have q' : y = V.str b := q
    simp only [strsD] at e
    cases er : strsD r with
    | none => rw [er] at e; cases e
    | some br =>
      rw [er] at e
      cases e
      rw [ey, q', strs_is er t]
      rfl
  | .non :: r, bs, xs, e, x => by cases e
  | .int _ :: r, bs, xs, e, x => by cases e
  | .bl _ :: r, bs, xs, e, x => by cases e
  | .tup _ :: r, bs, xs, e, x => by cases e
  | .lst _ :: r, bs, xs, e, x => by cases e
  | .dic _ :: r, bs, xs, e, x => by cases e
  | .obj _ _ :: r, bs, xs, e, x => by cases e
  | .exc _ _ :: r, bs, xs, e, x => by cases e
  | .cls _ :: r, bs, xs, e, x => by cases e
theorem call_lenA : CallR X (.builtin "len") (VL ca (bltV .len)) := by
  intro P s σ1 H xs us Q I rs h
  obtain ⟨F, m, σ, ds, r, R, as, e, k⟩ := h
  unfold bltV at e
  split at e
  case h_1 heq =>
    obtain ⟨x, rfl, ax⟩ := ats_1 as
    rename_i d
    cases hl : lenV d with
    | none => rw [hl] at e; cases e
    | some n =>
    rw [hl] at e
    cases e
    have fin : Q (.int n) H := k.flat R rfl
    unfold lenV at hl
    split at hl
    · split at hl
      · rename_i z hz
        cases hl
        exact call_len P s σ1 H _ us Q I rs ⟨_, _, rfl, by rw [show x = V.str z from ax]; exact ⟨hz, rfl⟩, fin⟩
      · cases hl
    · rename_i l
      cases hl
      obtain ⟨a, ys, ev, q, r1⟩ := ax
      subst ev
      exact call_len P s σ1 H _ us Q I rs ⟨_, l.length, rfl, .inl ⟨ys, .inl q, r1.len.symm⟩, fin⟩
    · rename_i l
      cases hl
      obtain ⟨a, ys, ev, q, r1⟩ := ax
      subst ev
      exact call_len P s σ1 H _ us Q I rs ⟨_, l.length, rfl, .inr ⟨ys, .of (R.sub _ _ q), r1.len.symm⟩, fin⟩
    · rename_i l
      cases hl
      obtain ⟨a, kvs, ev, q, r1⟩ := ax
      subst ev
      have el : kvs.length = l.length := by
        have : ∀ {l : List (L2.Key × Dat)} {kvs : List (L2.Key × V)}, IsKs ca F l kvs → kvs.length = l.length := fun {l} => by
          induction l with
          | nil => intro kvs x; have x' : kvs = [] := x; subst x'; rfl
          | cons d r ih => intro kvs x; obtain ⟨y, ys, e1, _, t⟩ := x; subst e1; simp [ih t]
        exact this r1
      exact call_lenD P s σ1 H _ us Q I rs ⟨a, kvs, rfl, q, by rw [el]; exact fin⟩
    · cases hl
  all_goals first | (rename_i heq; cases heq; done) | cases e
theorem call_absA : CallR X (.builtin "abs") (VL ca (bltV .abs)) := by
  intro P s σ1 H xs us Q I rs ⟨F, m, σ, ds, r, R, as, e, k⟩
  rcases ds with _ | ⟨d, _ | ⟨d2, r2⟩⟩
  · cases e
  · obtain ⟨x, rfl, ax⟩ := ats_1 as
    cases d with
    | int i =>
      cases e
      have ex : x = V.int i := ax
      exact call_abs P s σ1 H _ us Q I rs ⟨i, by rw [ex], k.flat R rfl⟩
    | _ => cases e
  · cases d <;> cases e
theorem call_intA : CallR X (.type "int") (VL ca (bltV .int)) := by
  intro P s σ1 H xs us Q I rs ⟨F, m, σ, ds, r, R, as, e, k⟩
  rcases ds with _ | ⟨d, _ | ⟨d2, r2⟩⟩
  · cases e
  · obtain ⟨x, rfl, ax⟩ := ats_1 as
    cases d with
    | int i =>
      cases e
      have ex : x = V.int i := ax
      exact call_int1 P s σ1 H _ us Q I rs (.inl ⟨i, by rw [ex], k.flat R rfl⟩)
    | str z =>
      simp only [bltV] at e
      split at e
      · rename_i hz
        cases hn : intText? z with
        | none => rw [hn] at e; cases e
        | some n =>
          rw [hn] at e
          cases e
          have ex : x = V.str z := ax
          exact call_int_str P s σ1 H _ us Q I rs ⟨z, n, by rw [ex], hn, hz, k.flat R rfl⟩
      · cases e
    | _ => cases e
  · cases d <;> cases e
theorem call_strA : CallR X (.type "str") (VL ca (bltV .str)) := by
  intro P s σ1 H xs us Q I rs ⟨F, m, σ, ds, r, R, as, e, k⟩
  rcases ds with _ | ⟨d, _ | ⟨d2, r2⟩⟩
  · cases e
  · obtain ⟨x, rfl, ax⟩ := ats_1 as
    cases d with
    | int i =>
      simp only [bltV, strV] at e
      split at e
      · rename_i hz
        cases e
        have ex : x = V.int i := ax
        exact call_str_int P s σ1 H _ us Q I rs ⟨i, by rw [ex], hz, k.flat R rfl⟩
      · cases e
    | str z =>
      cases e
      have ex : x = V.str z := ax
      exact SkE.call_str_str P s σ1 H _ us Q I rs ⟨z, by rw [ex], k.flat R rfl⟩
    | _ => cases e
  · cases e
theorem call_tupleA : CallR X (.type "tuple") (VL ca (bltV .tuple)) := by
  intro P s σ1 H xs us Q I rs ⟨F, m, σ, ds, r, R, as, e, k⟩
  rcases ds with _ | ⟨d, _ | ⟨d2, r2⟩⟩
  · cases e
  · obtain ⟨x, rfl, ax⟩ := ats_1 as
    cases d with
    | lst l =>
      cases e
      obtain ⟨a, ys, ev, q, r1⟩ := ax
      exact call_tuple_of P s σ1 H _ us Q I rs ⟨a, ys, by rw [ev], .inl ⟨.inl q, fun p hp => k.newT R r1 hp⟩⟩
    | tup l =>
      cases e
      have ax' := ax
      obtain ⟨a, ys, ev, q, r1⟩ := ax
      refine call_tuple_of P s σ1 H _ us Q I rs ⟨a, ys, by rw [ev], .inr ⟨.of (R.sub _ _ q), ?_⟩⟩
      have := k.flat R (v := x) ax'
      rw [ev] at this; exact this
    | _ => cases e
  · cases d <;> cases e
theorem call_listA : CallR X (.type "list") (VL ca (bltV .list)) := by
  intro P s σ1 H xs us Q I rs ⟨F, m, σ, ds, r, R, as, e, k⟩
  rcases ds with _ | ⟨d, _ | ⟨d2, r2⟩⟩
  · cases e
  · obtain ⟨x, rfl, ax⟩ := ats_1 as
    cases d with
    | lst l =>
      cases e
      obtain ⟨a, ys, ev, q, r1⟩ := ax
      exact call_list_of P s σ1 H _ us Q I rs ⟨a, ys, by rw [ev], .inl (.inl q), fun p hp => k.newL R r1 hp⟩
    | tup l =>
      cases e
      obtain ⟨a, ys, ev, q, r1⟩ := ax
      exact call_list_of P s σ1 H _ us Q I rs ⟨a, ys, by rw [ev], .inr (.of (R.sub _ _ q)), fun p hp => k.newL R r1 hp⟩
    | _ => cases e
  · cases d <;> cases e
theorem call_maxA (hc : X.calm = true) : CallR X (.builtin "max") (VL ca (bltV .max)) := by
  intro P s σ1 H xs us Q I rs ⟨F, m, σ, ds, r, R, as, e, k⟩
  rcases ds with _ | ⟨d, _ | ⟨d2, _ | ⟨d3, r3⟩⟩⟩
  · cases e
  · cases d <;> cases e
  · obtain ⟨x, y, rfl, ax, ay⟩ := ats_2 as
    cases d with
    | int i =>
      cases d2 with
      | int j =>
        cases e
        have ex : x = V.int i := ax
        have ey : y = V.int j := ay
        exact call_max2 hc P s σ1 H _ us Q I rs ⟨i, j, by rw [ex, ey], k.flat R rfl⟩
      | _ => cases e
    | _ => cases e
  · cases d <;> cases d2 <;> cases e
theorem call_minA (hc : X.calm = true) : CallR X (.builtin "min") (VL ca (bltV .min)) := by
  intro P s σ1 H xs us Q I rs ⟨F, m, σ, ds, r, R, as, e, k⟩
  rcases ds with _ | ⟨d, _ | ⟨d2, _ | ⟨d3, r3⟩⟩⟩
  · cases e
  · cases d <;> cases e
  · obtain ⟨x, y, rfl, ax, ay⟩ := ats_2 as
    cases d with
    | int i =>
      cases d2 with
      | int j =>
        cases e
        have ex : x = V.int i := ax
        have ey : y = V.int j := ay
        exact call_min2 hc P s σ1 H _ us Q I rs ⟨i, j, by rw [ex, ey], k.flat R rfl⟩
      | _ => cases e
    | _ => cases e
  · cases d <;> cases d2 <;> cases e
theorem call_divmodA : CallR X (.builtin "divmod") (VL ca (bltV .divmod)) := by
  intro P s σ1 H xs us Q I rs ⟨F, m, σ, ds, r, R, as, e, k⟩
  rcases ds with _ | ⟨d, _ | ⟨d2, _ | ⟨d3, r3⟩⟩⟩
  · cases e
  · cases d <;> cases e
  · obtain ⟨x, y, rfl, ax, ay⟩ := ats_2 as
    cases d with
    | int i =>
      cases d2 with
      | int j =>
        simp only [bltV] at e
        split at e
        · rename_i hz
          cases e
          have ex : x = V.int i := ax
          have ey : y = V.int j := ay
          refine call_divmod P s σ1 H _ us Q I rs ⟨i, j, by rw [ex, ey], hz, fun p hp => k.newT R ?_ hp⟩
          exact ⟨_, _, rfl, rfl, _, _, rfl, rfl, rfl⟩
        · cases e
      | _ => cases e
    | _ => cases e
  · cases d <;> cases d2 <;> cases e
theorem call_allA (hc : X.calm = true) : CallR X (.builtin "all") (VL ca (bltV .all)) := by
  intro P s σ1 H xs us Q I rs ⟨F, m, σ, ds, r, R, as, e, k⟩
  rcases ds with _ | ⟨d, _ | ⟨d2, r2⟩⟩
  · cases e
  · obtain ⟨x, rfl, ax⟩ := ats_1 as
    cases d with
    | lst l =>
      obtain ⟨a, ys, ev, q, r1⟩ := ax
      simp only [bltV] at e
      cases hb : blsD l with
      | none => rw [hb] at e; cases e
      | some bs =>
        rw [hb] at e
        cases e
        have ey := bls_is hb r1
        subst ey
        exact cr_all hc P s σ1 H _ us Q I rs ⟨a, bs, by rw [ev], .inl q, k.flat R rfl⟩
    | _ => cases e
  · cases d <;> cases e
theorem call_anyA (hc : X.calm = true) : CallR X (.builtin "any") (VL ca (bltV .any)) := by
  intro P s σ1 H xs us Q I rs ⟨F, m, σ, ds, r, R, as, e, k⟩
  rcases ds with _ | ⟨d, _ | ⟨d2, r2⟩⟩
  · cases e
  · obtain ⟨x, rfl, ax⟩ := ats_1 as
    cases d with
    | lst l =>
      obtain ⟨a, ys, ev, q, r1⟩ := ax
      simp only [bltV] at e
      cases hb : blsD l with
      | none => rw [hb] at e; cases e
      | some bs =>
        rw [hb] at e
        cases e
        have ey := bls_is hb r1
        subst ey
        exact cr_any hc P s σ1 H _ us Q I rs ⟨a, bs, by rw [ev], .inl q, k.flat R rfl⟩
    | _ => cases e
  · cases d <;> cases e
theorem call_reprA (hu : X.A.units + 64 < cLine) (hg : X.A.guards = some []) : CallR X (.builtin "repr") (VL ca (bltV .repr)) := by
  intro P s σ1 H xs us Q I rs ⟨F, m, σ, ds, r, R, as, e, k⟩
  rcases ds with _ | ⟨d, _ | ⟨d2, r2⟩⟩
  · cases e
  · obtain ⟨x, rfl, ax⟩ := ats_1 as
    obtain ⟨u, rfl, ru⟩ := vals1 rs
    simp only [bltV] at e
    cases hr : reprV d with
    | none => rw [hr] at e; cases e
    | some z =>
      rw [hr] at e
      cases e
      have fin : Q (.str z) H := k.flat R rfl
      unfold reprV at hr
      cases hp : pd d with
      | none => rw [hp] at hr; cases hr
      | some p =>
        rw [hp] at hr
        simp only at hr
        split at hr
        · rename_i hz
          cases hr
          simp only [Bool.and_eq_true, decide_eq_true_eq, Bool.not_eq_true'] at hz
          obtain ⟨⟨⟨h1, h2⟩, h3⟩, h4⟩ := hz
          have dpx := at_dp (K := X.K) R.sub ax hp h2
          obtain ⟨ad, rd⟩ := Dp.reads I p x u dpx ru
          have done : ∀ h' (tk ut : Nat), (∀ b o, s.heap.get? b = some o → h'.get? b = some o) → EP X P σ1 Q (.str p.shown ut) { s with heap := h', toks := tk } := fun h' tk ut hk => ⟨.str p.shown, H, I.kept hk, ⟨ut, rfl⟩, fin⟩
          cases rd with
          | none => exact PySem.P.repr_of_none (done _ _ _ fun b o q => q)
          | bool b => exact PySem.P.repr_of_bool (by have := done s.heap (s.toks + 1) s.toks fun b o q => q; simpa only [PyData.shown] using this)
          | int i t =>
            have hi : i.natAbs.log2 < 1920 := by simpa [PyData.showable] using h1
            exact PySem.P.repr_of_int hi (by have := done s.heap (s.toks + 1) s.toks fun b o q => q; simpa only [PyData.shown] using this)
          | str y t => exact PySem.P.repr_of_str (by have := done s.heap (s.toks + 1) s.toks fun b o q => q; simpa only [PyData.shown] using this) (by simpa only [PyData.shown] using h4)
          | list g1 g2 g3 g4 => exact repr_of_reads' (.list g1 g2 g3 g4) h1 (fun q => by rw [h2] at q; cases q) hg (by omega) (fun b o q => q) (fun h' ut tk hk => done h' tk ut hk) h4
          | tuple g1 g2 g3 g4 => exact repr_of_reads' (.tuple g1 g2 g3 g4) h1 (fun q => by rw [h2] at q; cases q) hg (by omega) (fun b o q => q) (fun h' ut tk hk => done h' tk ut hk) h4
          | dict g1 g2 g3 g4 g5 => simp [PyData.hasDict] at h2
        · cases hr
  · cases d <;> cases e
end
end SB
/-! SbVal3: methods of texts and lists by values. -/
namespace SB
open PySem L2
section
variable {ca : Nat → Addr} {F H : Hp} {m : Frm} {σ σ0 : St} {X : Cx}
theorem mt_splitA : MtR X "str.split" (VM ca (metV .split)) := by
  intro P s σ1 H x xs v us Q I rx rs ⟨F, m, σ, d, ds, r, R, ad, as, e, k⟩
  rcases ds with _ | ⟨d1, _ | ⟨d2, r2⟩⟩
  · cases d <;> cases e
  · obtain ⟨y, rfl, ay⟩ := ats_1 as
    cases d with
    | str a =>
      cases d1 with
      | str b =>
        simp only [metV] at e
        split at e
        · rename_i hz
          cases e
          exact mt_split P s σ1 H x _ v us Q I rx rs ⟨a, b, ad, by rw [show y = V.str b from ay], hz.1, hz.2, fun p hp => k.newL R (IsDs.strs _) hp⟩
        · cases e
      | _ => cases e
    | _ => cases e
  · cases d <;> cases d1 <;> cases e
theorem mt_joinA : MtR X "str.join" (VM ca (metV .join)) := by
  intro P s σ1 H x xs v us Q I rx rs ⟨F, m, σ, d, ds, r, R, ad, as, e, k⟩
  rcases ds with _ | ⟨d1, _ | ⟨d2, r2⟩⟩
  · cases d <;> cases e
  · obtain ⟨y, rfl, ay⟩ := ats_1 as
    cases d with
    | str a =>
      cases d1 with
      | lst l =>
        obtain ⟨b, ys, ev, q, r1⟩ := ay
        simp only [metV] at e
        cases hs : strsD l with
        | none => rw [hs] at e; cases e
        | some zs =>
          rw [hs] at e
          simp only at e
          split at e
          · rename_i hz
            cases e
            have ey := strs_is hs r1
            subst ey
            exact mt_join P s σ1 H x _ v us Q I rx rs ⟨a, b, zs, ad, by rw [ev], .inl (.inl q), hz, k.flat R rfl⟩
          · cases e
      | _ => cases e
    | _ => cases e
  · cases d <;> cases d1 <;> cases e
theorem mt_partitionA : MtR X "str.partition" (VM ca (metV .partition)) := by
  intro P s σ1 H x xs v us Q I rx rs ⟨F, m, σ, d, ds, r, R, ad, as, e, k⟩
  rcases ds with _ | ⟨d1, _ | ⟨d2, r2⟩⟩
  · cases d <;> cases e
  · obtain ⟨y, rfl, ay⟩ := ats_1 as
    cases d with
    | str a =>
      cases d1 with
      | str b =>
        simp only [metV] at e
        split at e
        · rename_i hz
          cases e
          refine mt_partition P s σ1 H x _ v us Q I rx rs ⟨a, b, ad, by rw [show y = V.str b from ay], hz.1, hz.2, fun p hp => k.newT R ?_ hp⟩
          exact ⟨_, _, rfl, rfl, _, _, rfl, rfl, _, _, rfl, rfl, rfl⟩
        · cases e
      | _ => cases e
    | _ => cases e
  · cases d <;> cases d1 <;> cases e
theorem mt_endswithA : MtR X "str.endswith" (VM ca (metV .endswith)) := by
  intro P s σ1 H x xs v us Q I rx rs ⟨F, m, σ, d, ds, r, R, ad, as, e, k⟩
  rcases ds with _ | ⟨d1, _ | ⟨d2, r2⟩⟩
  · cases d <;> cases e
  · obtain ⟨y, rfl, ay⟩ := ats_1 as
    cases d with
    | str a =>
      cases d1 with
      | str b =>
        cases e
        exact mt_endswith P s σ1 H x _ v us Q I rx rs ⟨a, b, ad, by rw [show y = V.str b from ay], k.flat R rfl⟩
      | _ => cases e
    | _ => cases e
  · cases d <;> cases d1 <;> cases e
theorem mt_indexA : MtR X "list.index" (VM ca (metV .index)) := by
  intro P s σ1 H x xs v us Q I rx rs ⟨F, m, σ, d, ds, r, R, ad, as, e, k⟩
  rcases ds with _ | ⟨d1, _ | ⟨d2, r2⟩⟩
  · cases d <;> cases e
  · obtain ⟨y, rfl, ay⟩ := ats_1 as
    cases d with
    | lst l =>
      obtain ⟨b, ys, ev, q, r1⟩ := ad
      simp only [metV] at e
      split at e
      · rename_i hz
        simp only [Bool.and_eq_true] at hz
        cases hf : l.findIdx? (fun z => eqF z d1) with
        | none => rw [hf] at e; cases e
        | some j =>
          rw [hf] at e
          cases e
          obtain ⟨hj, h1, h2⟩ := List.findIdx?_eq_some_iff_getElem.mp hf
          have exs := isds_flat hz.2 r1
          have ey := at_flat hz.1 ay
          subst exs; subst ey
          have fl : ∀ i (hi : i < l.length), flat l[i] = true := fun i hi => List.all_eq_true.mp hz.2 _ (List.getElem_mem hi)
          refine mt_index P s σ1 H x _ v us Q I rx rs ⟨b, l.map vOf, vOf d1, j, vOf l[j], ev, rfl, .inl q, flatV_of hz.1, all_flatV hz.2, by simp [hj], by rw [eqV_of (fl j hj) hz.1]; exact h1, fun i z' hi hz' => ?_, k.flat R rfl⟩
          have hil : i < l.length := Nat.lt_trans hi hj
          have ez : z' = vOf l[i] := by
            rw [List.getElem?_map, List.getElem?_eq_getElem hil] at hz'
            exact (Option.some.inj hz').symm
          rw [ez, eqV_of (fl i hil) hz.1]
          have := h2 i hi
          simpa using this
      · cases e
    | _ => cases e
  · cases d <;> cases e
end
end SB
/-! SbTr: from the text's tree to the small language. What is not served becomes `bad`. -/
namespace SB
open PySem L2
/-- what a module's name means -/
inductive GK where
  | fn (f : Nat)
  | fnm (f : Nat)
  | cls (c : Nat)
  | exc (c : Nat)
  | con (d : Dat)
/-- the names: a def's own (by slot), the module's -/
structure Nam where
  N : List PySem.Str
  G : List (PySem.Str × GK)
  /-- its locals that hold a class -/
  C : List (PySem.Str × Nat)
  /-- class methods: class, name, def -/
  cm : List (Nat × PySem.Str × Nat)
  /-- methods by name alone -/
  om : List PySem.Str
  /-- where values stand in calls with keywords -/
  kp : List ((Nat × List PySem.Str) × List Nat) := []
def ixOf : List PySem.Str → PySem.Str → Option Nat
  | [], _ => none
  | y :: r, x => if y = x then some 0 else (ixOf r x).map (· + 1)
def visB (sc : Scope) (x : PySem.Str) : Bool := match sc.names.lookup x with
  | some .local => true
  | some .cell => true
  | some .free => true
  | _ => false
def glB (sc : Scope) (x : PySem.Str) : Bool := decide (sc.names.lookup x = some .globalImplicit) && !(x == ("__debug__" : PySem.Str))
def okN (x : PySem.Str) : Bool := !(x == ("__debug__" : PySem.Str)) && !(x == ("__classdict__" : PySem.Str))
def locB (sc : Scope) (x : PySem.Str) : Bool := decide (sc.names.lookup x = some .local)
/-- a def's own name, captured or not -/
def stB (sc : Scope) (x : PySem.Str) : Bool := match sc.names.lookup x with
  | some .local => true
  | some .cell => true
  | _ => false
def starB : Expr → Bool
  | .Starred .. => true
  | _ => false
def slcB : Expr → Bool
  | .Slice .. => true
  | _ => false
def attrOk : Expr → Bool
  | .Call (.Name x _) [] [] _ => !(x == ("super" : PySem.Str))
  | _ => true
def compB : Expr → Bool
  | .ListComp .. => true
  | .SetComp .. => true
  | .DictComp .. => true
  | _ => false
def setB : Expr → Bool
  | .Set .. => true
  | _ => false
def bfTab : List (PySem.Str × Bf) := [("len", .len), ("abs", .abs), ("int", .int), ("str", .str), ("repr", .repr), ("tuple", .tuple), ("list", .list), ("max", .max), ("min", .min), ("divmod", .divmod), ("all", .all), ("any", .any), ("bool", .bool)]
def bfOf (x : PySem.Str) : Option Bf := bfTab.lookup x
def mfOf (x : PySem.Str) : Option Mf :=
  if x = "split" then some .split else if x = "join" then some .join else if x = "partition" then some .partition else
  if x = "endswith" then some .endswith else if x = "index" then some .index else none
def exBool (a : Bool) (t : Expr → Ex) : List Expr → Ex
  | [] => .bad
  | [e] => t e
  | e :: r => if a then .and (t e) (exBool a t r) else .or (t e) (exBool a t r)
def exArgs (t : Expr → Ex) : List Expr → Ex
  | [] => .nil
  | e :: r => .cons (t e) (exArgs t r)
/-- no star among them -/
def noStar (es : List Expr) : Bool := es.all fun e => !starB e
def exItems (t : Expr → Ex) : List Expr → Ex
  | [] => .nil
  | .Starred e _ :: r => .star (t e) (exItems t r)
  | e :: r => .cons (t e) (exItems t r)
def notNil : Ex → Ex
  | .nil => .bad
  | y => y
theorem notNil_or (y : Ex) : (y = .nil ∧ notNil y = .bad) ∨ (notNil y = y ∧ y ≠ .nil) := by
  cases y <;> first | exact .inl ⟨rfl, rfl⟩ | exact .inr ⟨rfl, fun h => by cases h⟩
def exOpt (t : Expr → Ex) : Option Expr → Ex
  | none => .nil
  | some e => notNil (t e)
def kwNames : List Keyword → List PySem.Str
  | [] => []
  | ⟨some n, _, _⟩ :: r => n :: kwNames r
  | _ :: r => kwNames r
def kwVals : List Keyword → List Expr
  | [] => []
  | ⟨_, e, _⟩ :: r => e :: kwVals r
def kwAll (kws : List Keyword) : Bool := kws.all fun k => match k with
  | ⟨some _, _, _⟩ => true
  | _ => false
section
variable (Z : Nam)
/-- a target of names that may be stored there -/
def toPat (ok : PySem.Str → Bool) : Nat → Expr → Pat
  | 0, _ => .bad
  | n + 1, e => match e with
    | .Name x _ => if ok x then match ixOf Z.N x with
        | some i => .nam i
        | none => .bad
      else .bad
    | .Tuple es _ _ => .tup (es.foldr (fun e r => .cons (toPat ok n e) r) .nil)
    | _ => .bad
/-- the names of a target, with their slots -/
def ownOf : Nat → Expr → List (PySem.Str × Nat)
  | 0, _ => []
  | n + 1, e => match e with
    | .Name x _ => match ixOf Z.N x with
      | some i => [(x, i)]
      | none => []
    | .Tuple es _ _ => es.flatMap (ownOf n)
    | _ => []
def tupB : Expr → Bool
  | .Tuple .. => true
  | _ => false
/-- what is walked -/
def toIt (t : Expr → Ex) (sc : Scope) (tg it : Expr) : Ik × Ex × Ex := match it with
  | .Call (.Name x _) [a] [] _ =>
    if x = "enumerate" ∧ (Z.G.lookup x).isNone ∧ glB sc x ∧ tupB tg ∧ starB a = false then (.en, t a, .nil)
    else if x = "range" ∧ (Z.G.lookup x).isNone ∧ glB sc x ∧ starB a = false then (.r1, t a, .nil)
    else (.pl, t it, .nil)
  | .Call (.Name x _) [a, b] [] _ =>
    if x = "zip" ∧ (Z.G.lookup x).isNone ∧ glB sc x ∧ tupB tg ∧ starB a = false ∧ starB b = false then (.zi, t a, t b)
    else if x = "range" ∧ (Z.G.lookup x).isNone ∧ glB sc x ∧ starB a = false ∧ starB b = false then (.r2, t a, t b)
    else (.pl, t it, .nil)
  | _ => (.pl, t it, .nil)
def clOf (sc : Scope) : Expr → Option Cl
  | .Name x _ => if glB sc x then match Z.G.lookup x with
      | some (.cls c) => some (.own c)
      | none => if x = "int" then some (.ty "int") else if x = "str" then some (.ty "str") else if x = "tuple" then some (.ty "tuple") else
          if x = "list" then some (.ty "list") else if x = "bool" then some (.ty "bool") else none
      | _ => none
    else none
  | _ => none
def toName (sc : Scope) (x : PySem.Str) : Ex := if okN x then match ixOf Z.N x with
  | some i => if visB sc x then .var i else .bad
  | none => if glB sc x then match Z.G.lookup x with
      | some (.con d) => .cst d
      | _ => .bad
    else .bad
  else .bad
/-- x(..), x a name of the module -/
def toGlob (t : Expr → Ex) (sc : Scope) (x : PySem.Str) (args : List Expr) : Ex := match Z.G.lookup x with
  | some (.fn f) => .cal f (exArgs t args)
  | some (.fnm f) => match args with
    | a :: r => .calm f (t a) (exArgs t r)
    | [] => .bad
  | some (.cls c) => .mak c (exArgs t args)
  | some _ => .bad
  | none => if x = "isinstance" then match args with
      | [a, te] => match clOf Z sc te with
        | some c => .isi (t a) c
        | none => .bad
      | _ => .bad
    else match bfOf x with
      | some f => match args with
        | [] => .bad
        | a :: r => .blt f (exArgs t (a :: r))
      | none => .bad
/-- x(..) -/
def toCallN (t : Expr → Ex) (sc : Scope) (x : PySem.Str) (args : List Expr) : Ex := match ixOf Z.N x with
  | some i => if okN x && visB sc x then match Z.C.lookup x with
      | some c => .makv i c (exArgs t args)
      | none => .bad
    else .bad
  | none => if glB sc x then toGlob Z t sc x args else .bad
/-- a name's own slot -/
def slotOf (sc : Scope) : Expr → Option Nat
  | .Name x _ => if okN x && visB sc x then ixOf Z.N x else none
  | _ => none
/-- o.m(a) -/
def toMeth (t : Expr → Ex) (sc : Scope) (o : Expr) (m : PySem.Str) (a : Expr) : Ex :=
  if m = "append" then match slotOf Z sc o with
    | some i => .app i (t a)
    | none => .bad
  else if m = "pop" then match slotOf Z sc o with
    | some i => .pop i (t a)
    | none => .bad
  else match mfOf m with
    | some f => if attrOk o then .met f (t o) (.cons (t a) .nil) else .bad
    | none => .bad
def cmOf : List (Nat × PySem.Str × Nat) → Nat → PySem.Str → Option Nat
  | [], _, _ => none
  | (c, m, g) :: r, k, x => if c = k ∧ m = x then some g else cmOf r k x
def ixK (n : Nat) (ks : List PySem.Str) : List Nat := if ks = [] then [] else ((Z.kp.find? fun q => decide (q.1 = (n, ks))).map (·.2)).getD [0]
/-- x(.., k = ..) -/
def toCallK (t : Expr → Ex) (sc : Scope) (x : PySem.Str) (args : List Expr) (kws : List Keyword) : Ex := match ixOf Z.N x with
  | some _ => .bad
  | none => if glB sc x then match Z.G.lookup x with
      | some (.fn f) => .kcal f (kwNames kws) (ixK Z args.length (kwNames kws)) (exArgs t args) (exArgs t (kwVals kws))
      | some (.cls c) => .kmak c (kwNames kws) (ixK Z args.length (kwNames kws)) (exArgs t args) (exArgs t (kwVals kws))
      | _ => .bad
    else .bad
/-- the class of the module that a name stands for -/
def clsOf (sc : Scope) : Expr → Option (PySem.Str × Pos × Nat)
  | .Name x q => match ixOf Z.N x with
    | some _ => none
    | none => if glB sc x then match Z.G.lookup x with
        | some (.cls c) => some (x, q, c)
        | _ => none
      else none
  | _ => none
/-- o.m(..) -/
def toMethK (t : Expr → Ex) (sc : Scope) (o : Expr) (m : PySem.Str) (args : List Expr) (kws : List Keyword) : Ex :=
  if Z.om.contains m then
    if attrOk o && decide (args.length + kws.length < 29) then .omet (t o) m (kwNames kws) (ixK Z args.length (kwNames kws)) (exArgs t args) (exArgs t (kwVals kws)) else .bad
  else match clsOf Z sc o with
    | some (_, _, c) => match cmOf Z.cm c m with
      | some g => if decide (args.length + kws.length < 29) then .cmet g c (kwNames kws) (ixK Z args.length (kwNames kws)) (exArgs t args) (exArgs t (kwVals kws)) else .bad
      | none => .bad
    | none => match kws with
      | [] => match args with
        | [a] => toMeth Z t sc o m a
        | _ => .bad
      | _ => .bad
def toCall (t : Expr → Ex) (sc : Scope) (fe : Expr) (args : List Expr) (kws : List Keyword) (pos : Pos) : Ex := if noStar args && kwAll kws then match fe with
  | .Name x _ => match kws with
    | [] => toCallN Z t sc x args
    | kws => toCallK Z t sc x args kws
  | .Attribute o m apos => if apos.endLine == pos.line then toMethK Z t sc o m args kws else .bad
  | _ => .bad
  else .bad
def toCmp (t : Expr → Ex) (a : Expr) : List CmpOp → List Expr → Ex
  | [op], [b] => if behindInMarks op b then .bad else .cmp op (t a) (t b)
  | [o1, o2], [b, c] => if lastMarks [o1, o2] [b, c] then .bad else .chn o1 o2 (t a) (t b) (t c)
  | _, _ => .bad
def toSub (t : Expr → Ex) (a i : Expr) : Ex := match i with
  | .Slice lo hi st _ => match st with
    | none => .sli (t a) (exOpt t lo) (exOpt t hi)
    | some _ => .bad
  | i => .idx (t a) (t i)
/-- [elt for tg in it if ..] -/
def toComp (t t2 : Expr → Ex) (sc sc2 : Scope) (elt tg it : Expr) (ifs : List Expr) (scope : Scope) : Ex :=
  if setB it then .bad else if blkC Z.N sc scope (ownOf Z 8 tg) then
    match ifs with
    | [] => .comp (t2 elt) (toPat Z (locB sc2) 8 tg) (toIt Z t sc tg it).1 (toIt Z t sc tg it).2.1 (toIt Z t sc tg it).2.2 false .nil ((ownOf Z 8 tg).map (·.2))
    | [c] => .comp (t2 elt) (toPat Z (locB sc2) 8 tg) (toIt Z t sc tg it).1 (toIt Z t sc tg it).2.1 (toIt Z t sc tg it).2.2 true (t2 c) ((ownOf Z 8 tg).map (·.2))
    | _ => .bad
  else .bad
def toE : Nat → Scope → Expr → Ex
  | 0, _, _ => .bad
  | n + 1, sc, e => match e with
    | .Constant .none _ _ => .cst .non
    | .Constant (.bool b) _ _ => .cst (.bl b)
    | .Constant (.int i) _ _ => .cst (.int i)
    | .Constant (.str s) _ _ => .cst (.str s)
    | .Name x _ => toName Z sc x
    | .BinOp a op b _ => .bin op (toE n sc a) (toE n sc b)
    | .UnaryOp .Not a _ => .not (toE n sc a)
    | .UnaryOp .USub a _ => .una .USub (toE n sc a)
    | .BoolOp .And vs _ => exBool true (toE n sc) vs
    | .BoolOp .Or vs _ => exBool false (toE n sc) vs
    | .Compare a ops bs _ => toCmp (toE n sc) a ops bs
    | .IfExp c a b _ => .ife (toE n sc c) (toE n sc a) (toE n sc b)
    | .Tuple es _ _ => .tup (exItems (toE n sc) es)
    | .List es _ => .lst (exItems (toE n sc) es)
    | .Dict [] [] _ => .dic0
    | .Subscript a i _ => toSub (toE n sc) a i
    | .Attribute a f _ => if attrOk a then .att (toE n sc a) f else .bad
    | .Call fe args kws pos => toCall Z (toE n sc) sc fe args kws pos
    | .ListComp elt [⟨tg, it, ifs, 0⟩] scope _ => toComp Z (toE n sc) (toE n (relS scope sc)) sc (relS scope sc) elt tg it ifs scope
    | .JoinedStr (a :: b :: r) _ => .jst (exArgs (toE n sc) (a :: b :: r))
    | .FormattedValue v (-1) none _ => .fmt (toE n sc v)
    | _ => .bad
/-! ### statements -/
def toTg (t : Expr → Ex) (sc : Scope) : Nat → Expr → Tg
  | 0, _ => .bad
  | n + 1, e => match e with
    | .Name x _ => if stB sc x then match ixOf Z.N x with
        | some i => .pat (.nam i)
        | none => .bad
      else .bad
    | .Tuple es _ _ => if noStar es then .tup (es.foldr (fun e r => .cons (toTg t sc n e) r) .nil) else .bad
    | .Subscript o ie _ => if slcB ie then .bad else match slotOf Z sc o with
        | some i => .sub i (t ie)
        | none => .bad
    | _ => .bad
/-- a, b = x, y: stored from the right -/
def parB (sc : Scope) (x y : PySem.Str) (px py : Pos) (a b : Expr) : Bool :=
  locB sc x && locB sc y && (py.line == px.line) && !(decide (x = y)) && !starB a && !starB b && !(foldedForSure 8 a && foldedForSure 8 b) && !(constantsAlone 8 a && constantsAlone 8 b)
/-- .. from the left -/
def parT (sc : Scope) (x y : PySem.Str) (px py : Pos) (a b : Expr) : Bool := stB sc x && stB sc y && !(locB sc x && locB sc y && (py.line == px.line)) && !starB a && !starB b
def toAsg (t : Expr → Ex) (sc : Scope) (tg e : Expr) : Stm := match tg with
  | .Name x _ => if stB sc x then match ixOf Z.N x with
      | some i => .asg (.pat (.nam i)) (t e)
      | none => .bad
    else .bad
  | .Attribute o f _ => match slotOf Z sc o with
    | some i => .asg (.att i f) (t e)
    | none => .bad
  | .Subscript o ie q => if compB e then .bad else .asg (toTg Z t sc 8 (.Subscript o ie q)) (t e)
  | .Tuple ts k q => if compB e then .bad else match ts with
    | [.Name x _, .Starred (.Name y _) _] => if stB sc x && stB sc y && !tupB e then match ixOf Z.N x, ixOf Z.N y with
        | some i, some j => .hdr i j (t e)
        | _, _ => .bad
      else .bad
    | ts => match e with
    | .Tuple [a, b] _ _ => match ts with
      | [.Name x px, .Name y py] => if parB sc x y px py a b then match ixOf Z.N x, ixOf Z.N y with
          | some i, some j => if i = j then .bad else .par i j (t a) (t b)
          | _, _ => .bad
        else if parT sc x y px py a b then match ixOf Z.N x, ixOf Z.N y with
          | some i, some j => .par i j (t a) (t b)
          | _, _ => .bad
        else .bad
      | _ => .bad
    | .Tuple _ _ _ => .bad
    | e => .asg (toTg Z t sc 8 (.Tuple ts k q)) (t e)
  | _ => .bad
def toSs (t : Stmt → Stm) : List Stmt → Stm
  | [] => .nil
  | s :: r => .seq (t s) (toSs t r)
/-- depth served in expressions -/
def dep : Nat := 40
def toS : Nat → Scope → Stmt → Stm
  | 0, _, _ => .bad
  | n + 1, sc, st => match st with
    | .Expr (.Constant (.str _) _ _) _ => .pas
    | .Expr e _ => if compB e then .bad else .exp (toE Z dep sc e)
    | .Return (some e) _ => .ret (toE Z dep sc e)
    | .Return none _ => .retn
    | .If c a b _ => .ife (toE Z dep sc c) (toSs (toS n sc) a) (toSs (toS n sc) b)
    | .For tg it body [] _ => if setB it then .bad else .loop (toPat Z (stB sc) 8 tg) (toIt Z (toE Z dep sc) sc tg it).1 (toIt Z (toE Z dep sc) sc tg it).2.1 (toIt Z (toE Z dep sc) sc tg it).2.2 (toSs (toS n sc) body)
    | .While c body [] _ => .whl (toE Z dep sc c) (toSs (toS n sc) body)
    | .Assign [tg] e _ => toAsg Z (toE Z dep sc) sc tg e
    | .Try body (_ :: _) [] [] _ => .tryq (toSs (toS n sc) body)
    | .Pass _ => .pas
    | .Break _ => .brk
    | .Continue _ => .cnt
    | _ => .bad
end
end SB
/-! SbCall: what a def of the program promises, as the small language says it; its call. -/
namespace SB
open PySem L2
def MutB (mo : Option Dat) (vs : List V) (b : Addr) : Prop := mo.isSome = true ∧ vs[0]? = some (V.ref b)
def MutAt (ca : Nat → Addr) (F H : Hp) (mo : Option Dat) (vs : List V) : Prop := ∀ d, mo = some d → ∃ a, vs[0]? = some (V.ref a) ∧ F a = none ∧ OwnAt ca F H a d
def IsO (ca : Nat → Addr) (F H : Hp) (mo : Option Dat) (vs : List V) (r : RV) (v : V) : Prop := match r with
  | .dat d => IsD ca F d v
  | .own d => ∃ a, v = .ref a ∧ F a = none ∧ OwnAt ca F H a d ∧ ¬ MutB mo vs a
  | .bor _ => False
def frm (avs : List Slo) : Frm := avs.map some
def sts (vs : List V) : St := vs.map some
def GEnd (ca : Nat → Addr) (F H : Hp) (avs : List Slo) (vs : List V) (r : Except Exn RV) (mo : Option Dat) (Q : VK) (E : XK) : Prop := match r with
  | .ok rv => ∀ F' H' v, Since F H (Own (frm avs) (sts vs)) F' H' (fun b => MutB mo vs b ∨ RB rv v b) → Same F' H' → MutAt ca F' H' mo vs → IsO ca F' H' mo vs rv v → Q v H'
  | .error x => ∀ F' H' C d, Since F H (Own (frm avs) (sts vs)) F' H' (MutB mo vs) → Same F' H' → MutAt ca F' H' mo vs → IsX ca F' H' x C d → E C d H'
/-- the kind of exceptions that may leave -/
def CXn (nn : Bool) (P : Program) (w : World) : CXT := if nn then L2N.CX P w else L2.CX P w
def Tks (nn : Bool) (X : Cx) (W : WX) : Prop := if nn then L2N.Takes X W else L2.Takes X W
/-- THE PROMISE -/
def GFn (ca : Nat → Addr) (P : Program) (w : World) (K : PySem.W.Frag) (mg : PySem.Str → Option Value) (base : Heap) (nn : Bool) (k : Nat) (fa : Addr) (fd : FuncData) (ps : List PySem.Str) (g : List Slo → Option (Except Exn RV × Option Dat)) : Prop :=
  ∀ (A : Around) (outer : List PySem.Env) (s : Shared) (H : Hp) (args : Args) (us : List Value) (vs : List V) (F : Hp) (avs : List Slo) (r : Except Exn RV) (mo : Option Dat) (Q : VK) (E : XK),
    A.guards = some [] → Room k A → Env0 P w K mg base A outer s H → BindsTo s fd args (ps.zip us) → Vals vs us → vs.length = ps.length → Rep ca F (frm avs) (sts vs) H → g avs = some (r, mo) → GEnd ca F H avs vs r mo Q E →
    codeAny (model P w) A (.call (.ref fa) args) (CR (CXn nn P w) outer P w H s Q E) s
theorem GFn.mono {ca : Nat → Addr} {P : Program} {w : World} {K : PySem.W.Frag} {mg : PySem.Str → Option Value} {base : Heap} {nn : Bool} {j k : Nat} {fa : Addr} {fd : FuncData} {ps : List PySem.Str} {g : List Slo → Option (Except Exn RV × Option Dat)}
    (G : GFn ca P w K mg base nn j fa fd ps g) (h : j ≤ k) : GFn ca P w K mg base nn k fa fd ps g := fun A outer s H args us vs F avs r mo Q E g1 hr => G A outer s H args us vs F avs r mo Q E g1 (hr.mono h)
theorem trz_zc {h B : Heap} {a : Addr} {cls : Value} {d : Option Addr} {fl : Value} (x : PySem.HandSPX.TracedZ h B a (L2N.Zn cls d) fl) : PySem.HandSPX.TracedZ h B a (Zc cls d) fl := by
  obtain ⟨oe, vs, T, oT, ts, h1, h2, r⟩ := x
  exact ⟨oe, vs, T, oT, ts, h1, h2.zc, r⟩
theorem takes_n {X : Cx} {W : WX} (t : L2.Takes X W) : L2N.Takes X W := fun u s' x => by
  obtain ⟨a, B, sI, P, σ, H, cls, d, e, I, nb, up, sky, na, os, ag, w⟩ := x
  refine t u s' ⟨a, B, sI, P, σ, H, cls, d, e, I, nb, up, ?_, na, os, ag, w⟩
  rcases sky with ⟨z1, z2, z3, oe, vs, z4, z5, z6⟩ | ⟨z1, z2, z3, z4⟩ | ⟨z1, z2, z3, z4⟩
  · exact .inl ⟨z1, z2, z3, oe, vs, z4, z5.zc, z6⟩
  · exact .inr (.inl ⟨z1, z2, z3, trz_zc z4⟩)
  · exact .inr (.inr ⟨z1, z2, z3, trz_zc z4⟩)
/-- a def of this kind may be called there -/
theorem passes_n {nn mm : Bool} {X : Cx} {W : WX} (t : Tks nn X W) (h : mm = true ∨ nn = false) (σ : St) : PassesAt (CXn mm X.prog X.w) X σ (WE W σ) := by
  cases mm with
  | true =>
    have t' : L2N.Takes X W := by
      cases nn with
      | true => exact t
      | false => exact takes_n t
    exact L2N.passAt t' σ
  | false =>
    have e : nn = false := by
      rcases h with z | z
      · cases z
      · exact z
    subst e
    exact passAt (X := X) (W := W) t σ
section
variable {ca : Nat → Addr} {F H : Hp} {m : Frm} {σ : St} {X : Cx} {W : WX}
/-- arguments as data: a call's frame -/
theorem rep_args {ds : List Dat} {vs : List V} (hs : Same F H) (h : IsDs ca F ds vs) : Rep ca F (frm (ds.map .dat)) (sts vs) H := by
  refine ⟨hs, by simp [frm, sts, h.len], fun i d e => ?_, fun i d e => ?_, fun i j d e a h1 => ?_⟩
  · simp only [frm, List.map_map, List.getElem?_map] at e
    cases q : ds[i]? with
    | none => rw [q] at e; cases e
    | some c =>
      rw [q] at e
      cases e
      obtain ⟨x, h1, h2⟩ := h.get q
      exact ⟨x, by simp [sts, h1], h2⟩
  · simp only [frm, List.map_map, List.getElem?_map] at e
    cases q : ds[i]? with
    | none => rw [q] at e; cases e
    | some c => rw [q] at e; cases e
  · simp only [frm, List.map_map, List.getElem?_map] at h1
    cases q : ds[i]? with
    | none => rw [q] at h1; cases h1
    | some c => rw [q] at h1; cases h1
theorem own_none {ds : List Dat} {vs : List V} {b : Addr} (h : Own (frm (ds.map .dat)) (sts vs) b) : False := by
  obtain ⟨i, d, h1, _⟩ := h
  simp only [frm, List.map_map, List.getElem?_map] at h1
  cases q : ds[i]? with
  | none => rw [q] at h1; cases h1
  | some c => rw [q] at h1; cases h1
/-- a frame's own objects that what happened could not touch -/
theorem Rep.stay {G J : Hp} {A B : Addr → Prop} (R : Rep ca F m σ H) (S : Since F H A G J B) (hs : Same G J) (hn : ∀ b, Own m σ b → ¬ A b) : Rep ca G m σ J := by
  refine ⟨hs, R.len, fun i d e => let ⟨v, e1, q⟩ := R.dat i d e; ⟨v, e1, IsD.mono S.k1 d v q⟩, fun i d e => ?_, R.inj⟩
  obtain ⟨a, e1, n, o⟩ := R.own i d e
  have na := hn a ⟨i, d, e, e1⟩
  obtain ⟨u, hu⟩ := o.there
  obtain ⟨k1, k2, k3⟩ := S.stay hu na
  exact ⟨a, e1, k3 n, o.mono S.k1 fun z hz => S.k2 a z hz na⟩
/-- behind a call upon data -/
theorem call_end {ds : List Dat} {vs : List V} {C : Calls} {f : Nat} {Q : VK} (R : Rep ca F m σ H) (h : IsDs ca F ds vs) (k : tK ca W (callF C f ds) F m σ H Q) :
    ∃ r mo, C f (ds.map .dat) = some (r, mo) ∧ (mo = none → GEnd ca F H (ds.map .dat) vs r mo Q (WE W σ)) := by
  obtain ⟨r, m', e, k⟩ := k
  unfold callF at e
  split at e
  · rename_i r0 mo h0
    cases e
    refine ⟨r, mo, h0, fun hm => ?_⟩
    subst hm
    have nb : ∀ {b : Addr}, ¬ MutB none vs b := fun {b} z => by cases z.1
    cases r with
    | error x =>
      intro F' H' C' d S hs _ hx
      have S' : Since F H (Own m σ) F' H' (Own m σ) := ⟨S.k1, fun b o e _ => S.k2 b o e own_none, fun b o e => (S.k3 b o e).imp id (Or.imp id fun z => (own_none z).elim), fun b z => .inl z⟩
      exact k F' H' C' d S' (R.stay S hs fun b _ => own_none) hx
    | ok rv =>
      intro F' H' v S hs _ hv
      have R' : Rep ca F' m σ H' := R.stay S hs fun b _ => own_none
      refine k F' H' v ⟨S.k1, fun b o e _ => S.k2 b o e own_none, fun b o e => (S.k3 b o e).imp id (Or.imp id fun z => (own_none z).elim), fun b z => ?_⟩ R' ?_
      · rcases z with z | z
        · exact .inl z
        · rcases S.k4 b (.inr z) with y | y
          · exact (own_none y).elim
          · exact .inr y
      · cases rv with
        | dat d => exact hv
        | bor i => exact False.elim hv
        | own d =>
          obtain ⟨a, e1, n, o, _⟩ := hv
          refine ⟨a, e1, n, o, fun z => ?_⟩
          obtain ⟨⟨u, hu⟩, hn⟩ := R.ownH z
          rcases S.k4 a (.inr (by rw [e1]; exact rfl)) with y | y
          · exact own_none y
          · rw [hu] at y; cases y
  · cases e
/-- what may be handed over to be changed: a slot's own object, or a new one -/
def MutR (ca : Nat → Addr) (F H : Hp) (m : Frm) (σ : St) (r : RV) (v : V) (d : Dat) : Prop := match r with
  | .own d' => d' = d ∧ ∃ a, v = .ref a ∧ F a = none ∧ OwnAt ca F H a d ∧ ¬ Own m σ a
  | .bor i => m[i]? = some (some (.own d)) ∧ σ[i]? = some (some v)
  | .dat _ => False
theorem MutR.at {r : RV} {v : V} {d : Dat} (R : Rep ca F m σ H) (h : MutR ca F H m σ r v d) : ∃ a, v = .ref a ∧ F a = none ∧ OwnAt ca F H a d := by
  cases r with
  | dat c => exact False.elim h
  | own c =>
    obtain ⟨_, a, e, n, o, _⟩ := h
    exact ⟨a, e, n, o⟩
  | bor i =>
    obtain ⟨h1, h2⟩ := h
    obtain ⟨a, e, n, o⟩ := R.own i d h1
    rw [h2] at e; cases e
    exact ⟨a, rfl, n, o⟩
theorem rep_mut {d : Dat} {a : Addr} {ds : List Dat} {vs : List V} (hs : Same F H) (n : F a = none) (o : OwnAt ca F H a d) (h : IsDs ca F ds vs) : Rep ca F (frm (.own d :: ds.map .dat)) (sts (.ref a :: vs)) H := by
  have R := rep_args (H := H) hs h
  refine ⟨hs, by simp [frm, sts, h.len], fun i c e => ?_, fun i c e => ?_, fun i j c c2 b h1 h2 _ _ => ?_⟩
  · cases i with
    | zero => simp [frm] at e
    | succ i => exact R.dat i c (by simpa [frm] using e)
  · cases i with
    | zero =>
      have e' : d = c := by simpa [frm] using e
      subst e'
      exact ⟨a, rfl, n, o⟩
    | succ i => obtain ⟨b, h1, h2⟩ := R.own i c (by simpa [frm] using e); exact ⟨b, by simpa [sts] using h1, h2⟩
  · have z : ∀ {i : Nat} {c : Dat}, (frm (.own d :: ds.map .dat))[i]? = some (some (Slo.own c)) → i = 0 := fun {i c} e => by
      cases i with
      | zero => rfl
      | succ i =>
        exfalso
        have e' : (frm (ds.map .dat))[i]? = some (some (Slo.own c)) := by simpa [frm] using e
        simp only [frm, List.map_map, List.getElem?_map] at e'
        cases q : ds[i]? with
        | none => rw [q] at e'; cases e'
        | some c => rw [q] at e'; cases e'
    rw [z h1, z h2]
theorem own_mut {d : Dat} {a b : Addr} {ds : List Dat} {vs : List V} : Own (frm (.own d :: ds.map .dat)) (sts (.ref a :: vs)) b ↔ b = a := by
  constructor
  · rintro ⟨i, c, h1, h2⟩
    cases i with
    | zero =>
      have h2' : (some (some (V.ref a)) : Option (Option V)) = some (some (.ref b)) := h2
      cases h2'; rfl
    | succ i =>
      exfalso
      have e' : (frm (ds.map .dat))[i]? = some (some (Slo.own c)) := by simpa [frm] using h1
      simp only [frm, List.map_map, List.getElem?_map] at e'
      cases q : ds[i]? with
      | none => rw [q] at e'; cases e'
      | some c => rw [q] at e'; cases e'
  · rintro rfl
    exact ⟨0, d, rfl, rfl⟩
/-- as tK, where besides the objects at Z may change: new ones that nobody holds yet -/
def tKZ (ca : Nat → Addr) (Y : Addr → Prop) (W : WX) (f : M RV) (F : Hp) (m : Frm) (σ : St) (H : Hp) (Q : V → Hp → Prop) : Prop :=
  ∃ r m', f m = some (r, m') ∧ match r with
  | .ok a => ∀ F' H' v, Since F H (fun b => Own m σ b ∨ Y b) F' H' (fun b => Own m' σ b ∨ RB a v b) → Rep ca F' m' σ H' → IsR ca F' H' m' σ a v → Q v H'
  | .error x => ∀ F' H' C d, Since F H (fun b => Own m σ b ∨ Y b) F' H' (Own m' σ) → Rep ca F' m' σ H' → IsX ca F' H' x C d → W C d σ H'
theorem Since.both {F0 H0 F1 H1 : Hp} {A B Y : Addr → Prop} (S : Since F0 H0 A F1 H1 B) : Since F0 H0 (fun b => A b ∨ Y b) F1 H1 (fun b => B b ∨ Y b) :=
  ⟨S.k1, fun b o e q => S.k2 b o e fun z => q (.inl z), fun b o e => (S.k3 b o e).imp id (Or.imp id .inl), fun b z => z.elim (fun y => (S.k4 b y).imp .inl id) fun y => .inl (.inr y)⟩
/-- first f, whose new object nobody holds yet -/
theorem tK_bndO {f : M RV} {g : RV → M RV} {Q : V → Hp → Prop} (R : Rep ca F m σ H) (h : tK ca W (bnd f g) F m σ H Q) :
    tE ca W f σ H fun v H1 => ∃ r F1 m1, Since F H (Own m σ) F1 H1 (fun b => Own m1 σ b ∨ RB r v b) ∧ Rep ca F1 m1 σ H1 ∧ IsR ca F1 H1 m1 σ r v ∧ tKZ ca (RB r v) W (g r) F1 m1 σ H1 Q := by
  obtain ⟨r, m', e, k⟩ := h
  refine ⟨F, m, R, ?_⟩
  rcases bnd_ok e with ⟨x, m1, e1, e2⟩ | ⟨a, m1, e1, e2⟩
  · cases e2
    exact ⟨_, _, e1, k⟩
  · refine ⟨_, _, e1, fun F1 H1 v S R1 q => ⟨a, F1, m1, S, R1, q, r, m', e2, ?_⟩⟩
    cases r with
    | ok b => exact fun F2 H2 u S2 R3 q2 => k F2 H2 u (S.trans S2) R3 q2
    | error x => exact fun F2 H2 C d S2 R3 q2 => k F2 H2 C d (S.trans S2) R3 q2
theorem tKZ_bndL {Y : Addr → Prop} {f : M (List RV)} {g : List RV → M RV} {Q : V → Hp → Prop} (R : Rep ca F m σ H) (h : tKZ ca Y W (bnd f g) F m σ H Q) :
    tA ca W f σ H fun vs H1 => ∃ rs F1 m1, Since F H (Own m σ) F1 H1 (Own m1 σ) ∧ Rep ca F1 m1 σ H1 ∧ IsPs ca F1 σ rs vs ∧ tKZ ca Y W (g rs) F1 m1 σ H1 Q := by
  obtain ⟨r, m', e, k⟩ := h
  refine ⟨F, m, R, ?_⟩
  rcases bnd_ok e with ⟨x, m1, e1, e2⟩ | ⟨a, m1, e1, e2⟩
  · cases e2
    refine ⟨_, _, e1, fun F2 H2 C d S => k F2 H2 C d (S.wide fun b z => .inl z)⟩
  · refine ⟨_, _, e1, fun F1 H1 v S R1 q => ?_⟩
    have S1 := S.less (D := Own m1 σ) fun b z => .inl z
    refine ⟨a, F1, m1, S1, R1, q, r, m', e2, ?_⟩
    cases r with
    | ok b => exact fun F2 H2 u S2 R3 q2 => k F2 H2 u (S1.both.trans S2) R3 q2
    | error x => exact fun F2 H2 C d S2 R3 q2 => k F2 H2 C d (S1.both.trans S2) R3 q2
theorem tKZ_bnd {Y : Addr → Prop} {f : M RV} {g : RV → M RV} {Q : V → Hp → Prop} (R : Rep ca F m σ H) (h : tKZ ca Y W (bnd f g) F m σ H Q) :
    tE ca W f σ H fun v H1 => ∃ r F1 m1, Since F H (Own m σ) F1 H1 (fun b => Own m1 σ b ∨ RB r v b) ∧ Rep ca F1 m1 σ H1 ∧ IsR ca F1 H1 m1 σ r v ∧ tKZ ca (fun b => RB r v b ∨ Y b) W (g r) F1 m1 σ H1 Q := by
  obtain ⟨r, m', e, k⟩ := h
  refine ⟨F, m, R, ?_⟩
  rcases bnd_ok e with ⟨x, m1, e1, e2⟩ | ⟨a, m1, e1, e2⟩
  · cases e2
    exact ⟨_, _, e1, fun F2 H2 C d S => k F2 H2 C d (S.wide fun b z => .inl z)⟩
  · refine ⟨_, _, e1, fun F1 H1 v S R1 q => ⟨a, F1, m1, S, R1, q, r, m', e2, ?_⟩⟩
    have S1 : Since F H (fun b => Own m σ b ∨ Y b) F1 H1 (fun b => Own m1 σ b ∨ (RB a v b ∨ Y b)) := (S.both (Y := Y)).less fun b z => or_assoc.mpr z
    cases r with
    | ok b => exact fun F2 H2 u S2 R3 q2 => k F2 H2 u (S1.trans S2) R3 q2
    | error x => exact fun F2 H2 C d S2 R3 q2 => k F2 H2 C d (S1.trans S2) R3 q2
/-- several values as data -/
theorem frzs_at : ∀ {rs : List RV} {vs : List V} {F : Hp} {m m' : Frm} {o : Except Exn (List Dat)}, Rep ca F m σ H → IsPs ca F σ rs vs → frzs rs m = some (o, m') →
    ∃ ds G, o = .ok ds ∧ Since F H (Own m σ) G H (Own m' σ) ∧ Rep ca G m' σ H ∧ IsDs ca G ds vs
  | [], vs, F, m, m', o, R, p, e => by
    cases e
    have p' : vs = [] := p
    subst p'
    exact ⟨[], F, rfl, Since.refl, R, rfl⟩
  | r :: rs, vs, F, m, m', o, R, p, e => by
    obtain ⟨x, ys, ev, p1, p2⟩ := p
    subst ev
    rcases bnd_ok e with ⟨y, m1, e1, e2⟩ | ⟨d, m1, e1, e2⟩
    · obtain ⟨d, G, ed, _⟩ := frz_at R p1 e1
      cases ed
    · obtain ⟨d', G, ed, S1, R1, q1⟩ := frz_at R p1 e1
      cases ed
      rcases bnd_ok e2 with ⟨y, m2, e3, e4⟩ | ⟨ds, m2, e3, e4⟩
      · obtain ⟨d2, G2, ed2, _⟩ := frzs_at R1 (IsPs.mono S1.k1 p2) e3
        cases ed2
      · obtain ⟨d2, G2, ed2, S2, R2, q2⟩ := frzs_at R1 (IsPs.mono S1.k1 p2) e3
        cases ed2
        cases e4
        exact ⟨d :: ds, G2, rfl, S1.trans S2, R2, x, ys, rfl, IsD.mono S2.k1 _ _ q1, q2⟩
theorem tK_frzs {rs : List RV} {vs : List V} {g : List Dat → M RV} {Q : V → Hp → Prop} (R : Rep ca F m σ H) (p : IsPs ca F σ rs vs) (h : tK ca W (bnd (frzs rs) g) F m σ H Q) :
    ∃ ds G m1, Since F H (Own m σ) G H (Own m1 σ) ∧ Rep ca G m1 σ H ∧ IsDs ca G ds vs ∧ tK ca W (g ds) G m1 σ H Q := by
  obtain ⟨r, m', e, k⟩ := h
  rcases bnd_ok e with ⟨x, m1, e1, e2⟩ | ⟨a, m1, e1, e2⟩
  · obtain ⟨d, G, ed, _⟩ := frzs_at R p e1
    cases ed
  · obtain ⟨ds, G, ed, S, R1, q⟩ := frzs_at R p e1
    cases ed
    refine ⟨a, G, m1, S, R1, q, r, m', e2, ?_⟩
    cases r with
    | ok b => exact fun F2 H2 u S2 R3 q2 => k F2 H2 u (S.trans S2) R3 q2
    | error x => exact fun F2 H2 C d S2 R3 q2 => k F2 H2 C d (S.trans S2) R3 q2
theorem tK_frz {r : RV} {v : V} {g : Dat → M RV} {Q : V → Hp → Prop} (R : Rep ca F m σ H) (p : IsP ca F σ r v) (h : tK ca W (bnd (frz r) g) F m σ H Q) :
    ∃ d G m1, Since F H (Own m σ) G H (Own m1 σ) ∧ Rep ca G m1 σ H ∧ IsD ca G d v ∧ tK ca W (g d) G m1 σ H Q := by
  obtain ⟨r', m', e, k⟩ := h
  rcases bnd_ok e with ⟨x, m1, e1, e2⟩ | ⟨a, m1, e1, e2⟩
  · obtain ⟨d, G, ed, _⟩ := frz_at R p e1
    cases ed
  · obtain ⟨ds, G, ed, S, R1, q⟩ := frz_at R p e1
    cases ed
    refine ⟨a, G, m1, S, R1, q, r', m', e2, ?_⟩
    cases r' with
    | ok b => exact fun F2 H2 u S2 R3 q2 => k F2 H2 u (S.trans S2) R3 q2
    | error x => exact fun F2 H2 C d S2 R3 q2 => k F2 H2 C d (S.trans S2) R3 q2
theorem tKZ_frzs {Y : Addr → Prop} {rs : List RV} {vs : List V} {g : List Dat → M RV} {Q : V → Hp → Prop} (R : Rep ca F m σ H) (p : IsPs ca F σ rs vs) (h : tKZ ca Y W (bnd (frzs rs) g) F m σ H Q) :
    ∃ ds G m1, Since F H (Own m σ) G H (Own m1 σ) ∧ Rep ca G m1 σ H ∧ IsDs ca G ds vs ∧ tKZ ca Y W (g ds) G m1 σ H Q := by
  obtain ⟨r, m', e, k⟩ := h
  rcases bnd_ok e with ⟨x, m1, e1, e2⟩ | ⟨a, m1, e1, e2⟩
  · obtain ⟨d, G, ed, _⟩ := frzs_at R p e1
    cases ed
  · obtain ⟨ds, G, ed, S, R1, q⟩ := frzs_at R p e1
    cases ed
    refine ⟨a, G, m1, S, R1, q, r, m', e2, ?_⟩
    cases r with
    | ok b => exact fun F2 H2 u S2 R3 q2 => k F2 H2 u (S.both.trans S2) R3 q2
    | error x => exact fun F2 H2 C d S2 R3 q2 => k F2 H2 C d (S.both.trans S2) R3 q2
/-- an own slot gets another content; its object's place is the same -/
theorem Rep.put {G J : Hp} {A B : Addr → Prop} {i : Nat} {d d' : Dat} {a : Addr} (R : Rep ca F m σ H) (S : Since F H A G J B) (hs : Same G J) (hi : m[i]? = some (some (.own d))) (ha : σ[i]? = some (some (.ref a)))
    (hA : ∀ b, Own m σ b → b ≠ a → ¬ A b) (n : G a = none) (o : OwnAt ca G J a d') : Rep ca G (m.set i (some (.own d'))) σ J ∧ ∀ b, Own (m.set i (some (.own d'))) σ b → Own m σ b := by
  have hl : i < m.length := (List.getElem?_eq_some_iff.mp hi).1
  have back : ∀ {j : Nat} {c : Dat}, (m.set i (some (Slo.own d')))[j]? = some (some (Slo.own c)) → ∃ c', m[j]? = some (some (Slo.own c')) := fun {j c} e => by
    by_cases hj : i = j
    · subst hj; exact ⟨d, hi⟩
    · rw [List.getElem?_set_ne hj] at e; exact ⟨c, e⟩
  refine ⟨⟨hs, by rw [List.length_set]; exact R.len, fun j c e => ?_, fun j c e => ?_, fun j k c c2 b h1 h2 h3 h4 => ?_⟩, fun b ⟨j, c, h1, h2⟩ => ?_⟩
  · by_cases hj : i = j
    · subst hj
      rw [List.getElem?_set_self hl] at e; cases e
    · rw [List.getElem?_set_ne hj] at e
      obtain ⟨v, e1, q⟩ := R.dat j c e
      exact ⟨v, e1, IsD.mono S.k1 c v q⟩
  · by_cases hj : i = j
    · subst hj
      rw [List.getElem?_set_self hl] at e; cases e
      exact ⟨a, ha, n, o⟩
    · rw [List.getElem?_set_ne hj] at e
      obtain ⟨b, e1, nb, ob⟩ := R.own j c e
      have hb : b ≠ a := fun z => by subst z; exact hj (R.inj i j _ _ _ hi e ha e1)
      have na := hA b ⟨j, c, e, e1⟩ hb
      obtain ⟨u, hu⟩ := ob.there
      obtain ⟨k1, k2, k3⟩ := S.stay hu na
      exact ⟨b, e1, k3 nb, ob.mono S.k1 fun z hz => S.k2 b z hz na⟩
  · obtain ⟨c3, q1⟩ := back h1
    obtain ⟨c4, q2⟩ := back h2
    exact R.inj j k c3 c4 b q1 q2 h3 h4
  · obtain ⟨c', q⟩ := back h1
    exact ⟨j, c', q, h2⟩
/-- behind a call whose first argument may change -/
theorem callM_end {r0 : RV} {v0 : V} {ds : List Dat} {vs : List V} {C : Calls} {f : Nat} {Q : VK} (R : Rep ca F m σ H) (h : IsDs ca F ds vs) (h0 : ∀ d, r0 = .own d → ∃ a, v0 = .ref a ∧ F a = none ∧ OwnAt ca F H a d ∧ ¬ Own m σ a) (h1 : ∀ i, r0 = .bor i → σ[i]? = some (some v0))
    (k : tKZ ca (RB r0 v0) W (callM C f r0 ds) F m σ H Q) :
    ∃ d a r mo, v0 = .ref a ∧ F a = none ∧ OwnAt ca F H a d ∧ C f (.own d :: ds.map .dat) = some (r, mo) ∧ GEnd ca F H (.own d :: ds.map .dat) (v0 :: vs) r mo Q (WE W σ) := by
  obtain ⟨r, m', e, k⟩ := k
  unfold callM at e
  cases r0 with
  | dat c => cases e
  | own d =>
    simp only at e
    obtain ⟨a, ea, n, o, na⟩ := h0 d rfl
    split at e
    · rename_i r1 mo hc
      cases e
      subst ea
      have frame : ∀ {F' H' : Hp} {B : Addr → Prop}, Since F H (Own (frm (.own d :: ds.map .dat)) (sts (.ref a :: vs))) F' H' B → Same F' H' → Rep ca F' m σ H' ∧ Since F H (fun b => Own m σ b ∨ RB (.own d) (.ref a) b) F' H' (fun b => B b) := fun {F' H' B} S hs => by
        refine ⟨R.stay S hs fun b hb z => na (by rw [own_mut] at z; rw [← z]; exact hb), S.wide fun b z => .inr ?_⟩
        rw [own_mut] at z; subst z; rfl
      refine ⟨d, a, _, _, rfl, n, o, hc, ?_⟩
      cases r with
      | error x =>
        intro F' H' C' d' S hs _ hx
        obtain ⟨R', S'⟩ := frame S hs
        exact k F' H' C' d' ⟨S'.k1, S'.k2, S'.k3, fun b z => .inl (.inl z)⟩ R' hx
      | ok rv =>
        intro F' H' v S hs _ hv
        obtain ⟨R', S'⟩ := frame S hs
        refine k F' H' v ⟨S'.k1, S'.k2, S'.k3, fun b z => ?_⟩ R' ?_
        · rcases z with z | z
          · exact .inl (.inl z)
          · exact S'.k4 b (.inr z)
        · cases rv with
          | dat c => exact hv
          | bor i => exact False.elim hv
          | own c =>
            obtain ⟨b, e1, n1, o1, nb⟩ := hv
            refine ⟨b, e1, n1, o1, fun z => ?_⟩
            obtain ⟨⟨u, hu⟩, _⟩ := R.ownH z
            rcases S.k4 b (.inr (by rw [e1]; exact rfl)) with y | y
            · rw [own_mut] at y
              subst y
              exact na z
            · rw [hu] at y; cases y
    · cases e
  | bor i =>
    simp only at e
    have hv0 := h1 i rfl
    split at e
    · rename_i d hi
      split at e
      · rename_i r1 d' hc
        cases e
        obtain ⟨a, ha, n, o⟩ := R.own i d hi
        rw [hv0] at ha; cases ha
        have own_a : Own m σ a := ⟨i, d, hi, hv0⟩
        have noY : ∀ b, ¬ RB (.bor i) (.ref a) b := fun b z => z
        have frame : ∀ {F' H' : Hp} {B : Addr → Prop}, Since F H (Own (frm (.own d :: ds.map .dat)) (sts (.ref a :: vs))) F' H' B → Same F' H' → MutAt ca F' H' (some d') (.ref a :: vs) →
            (Rep ca F' (m.set i (some (.own d'))) σ H' ∧ ∀ b, Own (m.set i (some (.own d'))) σ b → Own m σ b) ∧ Since F H (fun b => Own m σ b ∨ RB (.bor i) (.ref a) b) F' H' B := fun {F' H' B} S hs hm => by
          obtain ⟨a', ea', n', o'⟩ := hm d' rfl
          have ea'' : (some (V.ref a) : Option V) = some (.ref a') := ea'
          cases ea''
          refine ⟨R.put S hs hi hv0 (fun b hb hne z => hne (own_mut.mp z)) n' o', S.wide fun b z => .inl ?_⟩
          rw [own_mut] at z; subst z; exact own_a
        refine ⟨d, a, _, _, rfl, n, o, hc, ?_⟩
        cases r with
        | error x =>
          intro F' H' C' c S hs hm hx
          obtain ⟨⟨R', ow⟩, S'⟩ := frame S hs hm
          exact k F' H' C' c ⟨S'.k1, S'.k2, S'.k3, fun b z => .inl (.inl (ow b z))⟩ R' hx
        | ok rv =>
          intro F' H' v S hs hm hv
          obtain ⟨⟨R', ow⟩, S'⟩ := frame S hs hm
          refine k F' H' v ⟨S'.k1, S'.k2, S'.k3, fun b z => ?_⟩ R' ?_
          · rcases z with z | z
            · exact .inl (.inl (ow b z))
            · exact S'.k4 b (.inr z)
          · cases rv with
            | dat c => exact hv
            | bor j => exact False.elim hv
            | own c =>
              obtain ⟨b, e1, n1, o1, nb⟩ := hv
              refine ⟨b, e1, n1, o1, fun z => ?_⟩
              obtain ⟨⟨u, hu⟩, _⟩ := R.ownH (ow b z)
              rcases S.k4 b (.inr (by rw [e1]; exact rfl)) with y | y
              · rw [own_mut] at y
                subst y
                exact nb ⟨rfl, rfl⟩
              · rw [hu] at y; cases y
      · cases e
    · cases e
end
end SB
/-! SbSound: the machine does what the small language says: expressions. -/
namespace SB
open PySem L2
/-! ### side conditions that hang on a tree's head -/
theorem star_no {e : Expr} {es : List Expr} {env : PySem.Env} (h : starB e = false) : starEach (e :: es) env = (false, eval e env) :: starEach es env := by
  cases e <;> first | rfl | cases h
theorem base_ok {o : Expr} {f : PySem.Str} {env : PySem.Env} {wh : Sem Value} (h : attrOk o = true) : attributeBase o f env wh = wh := by
  unfold attributeBase
  split
  · rename_i id p1 p2
    have e : (id != ("super" : PySem.Str)) = true := by
      have h' : (!(id == ("super" : PySem.Str))) = true := h
      exact h'
    simp only [e, Bool.true_or, if_true]
  · rfl
theorem slc_no {b : Expr} (h : slcB b = false) : PlainIx b := by
  intro o i
  cases b <;> first | rfl | cases h
theorem set_no {it : Expr} {env : PySem.Env} (h : setB it = false) (x : Value) : foldedSetIterable it env x = pure x := by
  cases it <;> first | rfl | cases h
/-- a tree whose truth is its value's -/
def plainT : Expr → Bool
  | .UnaryOp .Not _ _ => false
  | .BoolOp .. => false
  | .IfExp .. => false
  | .Compare .. => false
  | _ => true
theorem true_ok {e : Expr} {env : PySem.Env} (h : plainT e = true) (wh : Sem Value) : isTrue e env wh = (do let v ← wh; standAt e.pos; holding [v] (truthy v)) := by
  cases e <;> first
    | rfl
    | cases h
    | (rename_i op x p; cases op <;> first | rfl | cases h)
theorem ixOf_get : ∀ {N : List PySem.Str} {x : PySem.Str} {i : Nat}, ixOf N x = some i → N[i]? = some x
  | [], x, i, h => by cases h
  | y :: r, x, i, h => by
    unfold ixOf at h
    split at h
    · rename_i e
      cases h; rw [e]; rfl
    · cases q : ixOf r x with
      | none => rw [q] at h; cases h
      | some j =>
        rw [q] at h
        cases h
        rw [List.getElem?_cons_succ]
        exact ixOf_get q
theorem vis_of {sc : Scope} {x : PySem.Str} (h : visB sc x = true) : Vis sc x := by
  unfold visB at h
  split at h
  · rename_i q; exact .inl q
  · rename_i q; exact .inr (.inl q)
  · rename_i q; exact .inr (.inr q)
  · cases h
section
variable {ca : Nat → Addr} {X : Cx}
def DEn (ca : Nat → Addr) (nn : Bool) (X : Cx) (e : Expr) (f : M RV) : Prop := ∀ W, Tks nn X W → PE X e (tE ca W f)
def DTn (ca : Nat → Addr) (nn : Bool) (X : Cx) (e : Expr) (f : M Bool) : Prop := ∀ W, Tks nn X W → PT X e (tT ca W f)
def DAn (ca : Nat → Addr) (nn : Bool) (X : Cx) (e : List Expr) (f : M (List RV)) : Prop := ∀ W, Tks nn X W → PA X e (tA ca W f)
variable {nn : Bool} {F H : Hp} {m : Frm} {σ : St} {W : WX}
theorem tE_bad {f : M RV} {Q : VK} (hf : ∀ m, f m = none) (h : tE ca W f σ H Q) : False := by
  obtain ⟨F, m, _, r, m', e, _⟩ := h
  rw [hf] at e; cases e
theorem DEn.bad {e : Expr} {f : M RV} (hf : ∀ m, f m = none) : DEn ca nn X e f := fun W _ => ⟨fun _ _ _ _ _ _ h => (tE_bad hf h).elim⟩
theorem DTn.bad {e : Expr} {f : M Bool} (hf : ∀ m, f m = none) : DTn ca nn X e f := fun W _ => ⟨fun _ _ _ _ _ _ h => by
  obtain ⟨F, m, _, r, m', e, _⟩ := h
  rw [hf] at e; cases e⟩
theorem DAn.bad {e : List Expr} {f : M (List RV)} (hf : ∀ m, f m = none) : DAn ca nn X e f := fun W _ => ⟨fun _ _ _ _ _ _ _ h => by
  obtain ⟨F, m, _, r, m', e, _⟩ := h
  rw [hf] at e; cases e⟩
theorem asB_bad {f : M RV} (hf : ∀ m, f m = none) : ∀ m, asB f m = none := fun m => by
  unfold asB bnd; rw [hf]
theorem asBl_ok {r : RV} {b : Bool} (h : asBl r = some b) : r = .dat (.bl b) := by
  unfold asBl at h
  split at h
  · cases h; rfl
  · cases h
/-- a test's reading by its value's -/
theorem tT_tE {f : M RV} {Q : Bool → Hp → Prop} (h : tT ca W (asB f) σ H Q) : tE ca W f σ H fun x H1 => ∃ k, x = .bl k ∧ Q k H1 := by
  obtain ⟨F, m, R, h⟩ := h
  obtain ⟨F1, m1, R1, h1⟩ := tB_bnd R h
  refine ⟨F1, m1, R1, ?_⟩
  obtain ⟨r, m', e, k⟩ := h1
  refine ⟨r, m', e, ?_⟩
  cases r with
  | error x => exact k
  | ok a =>
    intro F' H' v S R' q
    obtain ⟨r2, F2, m2, S2, R2, q2, r3, m3, e3, k3⟩ := k F' H' v S R' q
    unfold lft at e3
    split at e3
    · cases e3
    · rename_i b hb
      cases e3
      have er := asBl_ok hb
      subst er
      have ev : v = .bl b := q2
      refine ⟨b, ev, k3 F2 H' b (Since.less Since.refl fun b z => Or.elim z id False.elim) R2 rfl⟩
theorem tE_mono {f : M RV} {Q Q' : VK} (h : tE ca W f σ H Q) (k : ∀ v H', Q v H' → Q' v H') : tE ca W f σ H Q' := by
  obtain ⟨F, m, R, r, m', e, z⟩ := h
  refine ⟨F, m, R, r, m', e, ?_⟩
  cases r with
  | ok a => exact fun F' H' v S R' q => k _ _ (z F' H' v S R' q)
  | error x => exact z
theorem tT_mono {f : M Bool} {Q Q' : Bool → Hp → Prop} (h : tT ca W f σ H Q) (k : ∀ v H', Q v H' → Q' v H') : tT ca W f σ H Q' := by
  obtain ⟨F, m, R, r, m', e, z⟩ := h
  refine ⟨F, m, R, r, m', e, ?_⟩
  cases r with
  | ok a => exact fun F' H' v S R' q => k _ _ (z F' H' v S R' q)
  | error x => exact z
theorem tA_mono {f : M (List RV)} {Q Q' : List V → Hp → Prop} (h : tA ca W f σ H Q) (k : ∀ v H', Q v H' → Q' v H') : tA ca W f σ H Q' := by
  obtain ⟨F, m, R, r, m', e, z⟩ := h
  refine ⟨F, m, R, r, m', e, ?_⟩
  cases r with
  | ok a => exact fun F' H' v S R' q => k _ _ (z F' H' v S R' q)
  | error x => exact z
theorem tB_bndB {f : M Bool} {g : Bool → M Bool} {Q : Bool → Hp → Prop} (R : Rep ca F m σ H) (h : tB ca W (bnd f g) F m σ H Q) :
    tT ca W f σ H fun v H1 => ∃ F1 m1, Since F H (Own m σ) F1 H1 (Own m1 σ) ∧ Rep ca F1 m1 σ H1 ∧ tB ca W (g v) F1 m1 σ H1 Q := by
  obtain ⟨r, m', e, k⟩ := h
  refine ⟨F, m, R, ?_⟩
  rcases bnd_ok e with ⟨x, m1, e1, e2⟩ | ⟨a, m1, e1, e2⟩
  · cases e2
    exact ⟨_, _, e1, k⟩
  · refine ⟨_, _, e1, fun F1 H1 v S R1 q => ?_⟩
    have q' : a = v := q
    subst q'
    have S1 := S.less (D := Own m1 σ) fun b z => .inl z
    refine ⟨F1, m1, S1, R1, r, m', e2, ?_⟩
    cases r with
    | ok b => exact fun F2 H2 u S2 R3 q2 => k F2 H2 u (S1.trans (S2.less fun b z => z)) R3 q2
    | error x => exact fun F2 H2 C d S2 R3 q2 => k F2 H2 C d (S1.trans S2) R3 q2
theorem tB_ret {b : Bool} {Q : Bool → Hp → Prop} (R : Rep ca F m σ H) (h : tB ca W (ret b) F m σ H Q) : Q b H := by
  obtain ⟨r, m', e, k⟩ := h
  cases e
  exact k F H b (Since.less Since.refl fun b z => Or.elim z id False.elim) R rfl
/-! ### constants, names -/
variable {T : Tab} {C : Calls}
theorem de_ret {e : Expr} {d : Dat} {v : V} (hv : ∀ F, IsD ca F d v) (h : PE X e (tC v)) : DEn ca nn X e (ret (.dat d)) := fun W _ => PE.imp h fun σ H Q ⟨F, m, R, k⟩ => (tK_ret k).flat R (hv F)
theorem de_var {i : Nat} {x : PySem.Str} {pos : Pos} (hN : X.N[i]? = some x) (hv : Vis X.env.scope x) (hx : okN x = true) : DEn ca nn X (.Name x pos) (ev T C (.var i)) := fun W _ => by
  unfold okN at hx
  rw [Bool.and_eq_true, Bool.not_eq_true', Bool.not_eq_true'] at hx
  obtain ⟨h1, h2⟩ := hx
  refine PE.imp (pe_var hN hv h1 h2) fun σ H Q ⟨F, m, R, r, m', e, k⟩ => ?_
  unfold ev at e
  split at e
  · rename_i d q
    cases e
    obtain ⟨v, e1, hd⟩ := R.dat i d q
    exact ⟨v, e1, k F H v (Since.less Since.refl fun b z => Or.elim z id False.elim) R hd⟩
  · rename_i d q
    cases e
    obtain ⟨a, e1, _, _⟩ := R.own i d q
    exact ⟨_, e1, k F H _ (Since.less Since.refl fun b z => Or.elim z id False.elim) R e1⟩
  · cases e
/-! ### operators -/
variable {a b c e : Expr} {x y z : M RV} {pos : Pos}
theorem de_bin {op : Operator} (ha : DEn ca nn X a x) (hb : DEn ca nn X b y) : DEn ca nn X (.BinOp a op b pos) (bnd x fun r => bnd y fun s => bnd (look (prj r)) fun dx => bnd (look (prj s)) fun dy => lft (binV op dx dy)) := fun W t =>
  PE.imp (pe_op (op_bin op) (ha W t) (hb W t)) fun σ H Q ⟨F, m, R, h⟩ => tE_mono (tK_bnd R h) fun v H1 ⟨r, F1, m1, S1, R1, p1, k1⟩ => tE_mono (tK_bnd R1 k1) fun u H2 ⟨s, F2, m2, S2, R2, p2, k2⟩ => by
    obtain ⟨dx, _, q1, k3⟩ := tK_look R2 (IsP.mono S2.k1 p1) k2
    obtain ⟨dy, _, q2, k4⟩ := tK_look R2 p2 k3
    obtain ⟨r', er, f⟩ := tK_lft k4
    exact ⟨F2, m2, σ, dx, dy, r', R2, q1, q2, er, f⟩
theorem de_una {op : UnaryOp} (ha : DEn ca nn X a x) : DEn ca nn X (.UnaryOp op a pos) (bnd x fun r => bnd (look (prj r)) fun dx => lft (unaV op dx)) := fun W t =>
  PE.imp (pe_un (un_any op) (ha W t)) fun σ H Q ⟨F, m, R, h⟩ => tE_mono (tK_bnd R h) fun v H1 ⟨r, F1, m1, S1, R1, p1, k1⟩ => by
    obtain ⟨dx, _, q1, k3⟩ := tK_look R1 p1 k1
    obtain ⟨r', er, f⟩ := tK_lft k3
    exact ⟨F1, m1, σ, dx, r', R1, q1, er, f⟩
theorem de_idx (hu : X.A.units + 64 < cLine) (ha : DEn ca nn X a x) (hb : DEn ca nn X b y) (hs : PlainIx b) : DEn ca nn X (.Subscript a b pos) (bnd x fun r => bnd y fun s => bnd (look (prj r)) fun dx => bnd (look (prj s)) fun dy => lft ((idxV dx dy).map .dat)) := fun W t =>
  PE.imp (pe_ix (ix_any hu) (ha W t) (hb W t) hs) fun σ H Q ⟨F, m, R, h⟩ => tE_mono (tK_bnd R h) fun v H1 ⟨r, F1, m1, S1, R1, p1, k1⟩ => tE_mono (tK_bnd R1 k1) fun u H2 ⟨s, F2, m2, S2, R2, p2, k2⟩ => by
    obtain ⟨dx, _, q1, k3⟩ := tK_look R2 (IsP.mono S2.k1 p1) k2
    obtain ⟨dy, _, q2, k4⟩ := tK_look R2 p2 k3
    obtain ⟨r', er, f⟩ := tK_lft k4
    exact ⟨F2, m2, σ, dx, dy, r', R2, q1, q2, er, f⟩
def cmpM (op : CmpOp) (x y : M RV) : M RV := bnd x fun r => bnd y fun s => bnd (look (prj r)) fun dx => bnd (look (prj s)) fun dy => lft (blR (cmpV op dx dy))
theorem de_cmp (hu : X.A.units + 64 < cLine) {op : CmpOp} (ha : DEn ca nn X a x) (hb : DEn ca nn X b y) (hm : behindInMarks op b = false) : DEn ca nn X (.Compare a [op] [b] pos) (cmpM op x y) := fun W t =>
  PE.imp (pe_cmpR (op_cmp hu op) (ha W t) (hb W t) hm) fun σ H Q ⟨F, m, R, h⟩ => tE_mono (tK_bnd R h) fun v H1 ⟨r, F1, m1, S1, R1, p1, k1⟩ => tE_mono (tK_bnd R1 k1) fun u H2 ⟨s, F2, m2, S2, R2, p2, k2⟩ => by
    obtain ⟨dx, _, q1, k3⟩ := tK_look R2 (IsP.mono S2.k1 p1) k2
    obtain ⟨dy, _, q2, k4⟩ := tK_look R2 p2 k3
    obtain ⟨r', er, f⟩ := tK_lft k4
    exact ⟨F2, m2, σ, dx, dy, r', R2, q1, q2, er, f⟩
theorem dt_cmp (hu : X.A.units + 64 < cLine) {op : CmpOp} (ha : DEn ca nn X a x) (hb : DEn ca nn X b y) (hm : behindInMarks op b = false) : DTn ca nn X (.Compare a [op] [b] pos) (asB (cmpM op x y)) := fun W t =>
  PT.imp (pt_cmpR (op_cmp hu op) (ha W t) (hb W t) hm) fun σ H Q h0 => by
    obtain ⟨F, m, R, h⟩ := tT_tE h0
    exact tE_mono (tK_bnd R h) fun v H1 ⟨r, F1, m1, S1, R1, p1, k1⟩ => tE_mono (tK_bnd R1 k1) fun u H2 ⟨s, F2, m2, S2, R2, p2, k2⟩ => by
      obtain ⟨dx, _, q1, k3⟩ := tK_look R2 (IsP.mono S2.k1 p1) k2
      obtain ⟨dy, _, q2, k4⟩ := tK_look R2 p2 k3
      obtain ⟨r', er, f⟩ := tK_lft k4
      exact ⟨F2, m2, σ, dx, dy, r', R2, q1, q2, er, f⟩
def chnM (o1 o2 : CmpOp) (x y z : M RV) : M RV := bnd x fun r => bnd y fun s => bnd (look (prj r)) fun dx => bnd (look (prj s)) fun dy => bnd (lft (cmpV o1 dx dy)) fun k =>
  if k then bnd z fun t => bnd (look (prj s)) fun dy => bnd (look (prj t)) fun dz => lft (blR (cmpV o2 dy dz)) else ret (.dat (.bl false))
theorem chn_any {o1 o2 : CmpOp} {Q : VK} (h : tE ca W (chnM o1 o2 x y z) σ H Q) :
    tChain (V2 ca fun x y => blR (cmpV o1 x y)) (V2 ca fun x y => blR (cmpV o2 x y)) (tE ca W x) (tE ca W y) (tE ca W z) σ H Q := by
  obtain ⟨F, m, R, h⟩ := h
  exact tE_mono (tK_bnd R h) fun v H1 ⟨r, F1, m1, S1, R1, p1, k1⟩ => tE_mono (tK_bnd R1 k1) fun u H2 ⟨s, F2, m2, S2, R2, p2, k2⟩ => by
    obtain ⟨dx, _, q1, k3⟩ := tK_look R2 (IsP.mono S2.k1 p1) k2
    obtain ⟨dy, _, q2, k4⟩ := tK_look R2 p2 k3
    obtain ⟨k, er, k5⟩ := tK_lftB k4
    refine ⟨F2, m2, σ, dx, dy, .dat (.bl k), R2, q1, q2, by show blR (cmpV o1 dx dy) = _; rw [er]; rfl, fun F3 H3 w S3 R3 q3 => ⟨k, q3, ?_⟩⟩
    have S3' := S3.less (D := Own m2 σ) fun b z => .inl z
    cases k with
    | false =>
      have f := tK_ret k5
      exact f F3 H3 _ S3 R3 rfl
    | true =>
      have k6 : tK ca W (bnd z fun t => bnd (look (prj s)) fun dy => bnd (look (prj t)) fun dz => lft (blR (cmpV o2 dy dz))) F3 m2 σ H3 Q := by
        obtain ⟨r', m', e, g⟩ := k5
        refine ⟨r', m', e, ?_⟩
        cases r' with
        | ok a => exact fun F4 H4 w' S4 R4 q4 => g F4 H4 w' (S3'.trans S4) R4 q4
        | error x => exact fun F4 H4 C d S4 R4 q4 => g F4 H4 C d (S3'.trans S4) R4 q4
      show tE ca W z σ H3 _
      exact tE_mono (tK_bnd R3 k6) fun u2 H4 ⟨t, F4, m4, S4, R4, p4, k7⟩ => by
        obtain ⟨dy', _, q5, k8⟩ := tK_look R4 (IsP.mono (S3.k1.trans S4.k1) p2) k7
        obtain ⟨dz, _, q6, k9⟩ := tK_look R4 p4 k8
        obtain ⟨r', er', f⟩ := tK_lft k9
        exact ⟨F4, m4, σ, dy', dz, r', R4, q5, q6, er', f⟩
theorem de_chn (hu : X.A.units + 64 < cLine) {o1 o2 : CmpOp} (ha : DEn ca nn X a x) (hb : DEn ca nn X b y) (hc : DEn ca nn X c z) (hm : lastMarks [o1, o2] [b, c] = false) : DEn ca nn X (.Compare a [o1, o2] [b, c] pos) (chnM o1 o2 x y z) := fun W t =>
  PE.imp (pe_chain (op_cmp hu o1) (op_cmp hu o2) (ha W t) (hb W t) (hc W t) hm) fun σ H Q h => chn_any h
theorem dt_chn (hu : X.A.units + 64 < cLine) {o1 o2 : CmpOp} (ha : DEn ca nn X a x) (hb : DEn ca nn X b y) (hc : DEn ca nn X c z) (hm : lastMarks [o1, o2] [b, c] = false) : DTn ca nn X (.Compare a [o1, o2] [b, c] pos) (asB (chnM o1 o2 x y z)) := fun W t =>
  PT.imp (pt_chain (op_cmp hu o1) (op_cmp hu o2) (ha W t) (hb W t) (hc W t) hm) fun σ H Q h => chn_any (tT_tE h)
/-- a test by its value -/
theorem dt_of (h : DEn ca nn X e x) (hp : plainT e = true) : DTn ca nn X e (asB x) := fun W t =>
  PT.imp (pt_val (h W t) fun wh => true_ok hp wh) fun σ H Q k => tT_tE k
/-! ### and, or, not, if -/
theorem asB_and : asB (bnd x fun r => bnd (lft (asBl r)) fun k => if k then y else ret (.dat (.bl false))) = bnd (asB x) fun k => if k then asB y else ret false := by
  funext m
  simp only [asB, bnd]
  cases x m with
  | none => rfl
  | some q =>
    obtain ⟨r, m1⟩ := q
    cases r with
    | error _ => rfl
    | ok v =>
      simp only [lft]
      cases asBl v with
      | none => rfl
      | some k => cases k <;> rfl
theorem asB_or : asB (bnd x fun r => bnd (lft (asBl r)) fun k => if k then ret (.dat (.bl true)) else y) = bnd (asB x) fun k => if k then ret true else asB y := by
  funext m
  simp only [asB, bnd]
  cases x m with
  | none => rfl
  | some q =>
    obtain ⟨r, m1⟩ := q
    cases r with
    | error _ => rfl
    | ok v =>
      simp only [lft]
      cases asBl v with
      | none => rfl
      | some k => cases k <;> rfl
theorem asB_not : asB (bnd x fun r => bnd (lft (asBl r)) fun k => ret (.dat (.bl (!k)))) = bnd (asB x) fun k => ret (!k) := by
  funext m
  simp only [asB, bnd]
  cases x m with
  | none => rfl
  | some q =>
    obtain ⟨r, m1⟩ := q
    cases r with
    | error _ => rfl
    | ok v =>
      simp only [lft]
      cases asBl v with
      | none => rfl
      | some k => cases k <;> rfl
theorem asB_ife : asB (bnd x fun r => bnd (lft (asBl r)) fun k => if k then y else z) = bnd (asB x) fun k => if k then asB y else asB z := by
  funext m
  simp only [asB, bnd]
  cases x m with
  | none => rfl
  | some q =>
    obtain ⟨r, m1⟩ := q
    cases r with
    | error _ => rfl
    | ok v =>
      simp only [lft]
      cases asBl v with
      | none => rfl
      | some k => cases k <;> rfl
theorem ev_ife : (bnd x fun r => bnd (lft (asBl r)) fun k => if k then y else z) = bnd (asB x) fun k => if k then y else z := by
  funext m
  simp only [asB, bnd]
  cases x m with
  | none => rfl
  | some q =>
    obtain ⟨r, m1⟩ := q
    cases r with
    | error _ => rfl
    | ok v =>
      simp only [lft]
/-- a value that is a truth, at hand -/
theorem tK_asBl {g : Bool → M RV} {r : RV} {v : V} {Q : VK} (p : IsP ca F σ (prj r) v) (h : tK ca W (bnd (lft (asBl r)) g) F m σ H Q) : ∃ k, v = .bl k ∧ tK ca W (g k) F m σ H Q := by
  obtain ⟨k, e, h⟩ := tK_lftB h
  have er := asBl_ok e
  subst er
  exact ⟨k, p, h⟩
theorem flat_bl {k : Bool} {Q : VK} (R : Rep ca F m σ H) (h : tK ca W (ret (.dat (.bl k))) F m σ H Q) : Q (.bl k) H := (tK_ret h).flat R rfl
theorem de_and {rest : List Expr} (ha : DEn ca nn X a x) (hb : DEn ca nn X (.BoolOp .And (b :: rest) pos) y) : DEn ca nn X (.BoolOp .And (a :: b :: rest) pos) (bnd x fun r => bnd (lft (asBl r)) fun k => if k then y else ret (.dat (.bl false))) := fun W t =>
  PE.imp (pe_and (ha W t) (hb W t)) fun σ H Q ⟨F, m, R, h⟩ => tE_mono (tK_bnd R h) fun v H1 ⟨r, F1, m1, S1, R1, p1, k1⟩ => by
    obtain ⟨k, e, k2⟩ := tK_asBl p1 k1
    refine ⟨k, e, ?_⟩
    cases k with
    | false => exact flat_bl R1 k2
    | true => exact ⟨F1, m1, R1, k2⟩
theorem de_or {rest : List Expr} (ha : DEn ca nn X a x) (hb : DEn ca nn X (.BoolOp .Or (b :: rest) pos) y) : DEn ca nn X (.BoolOp .Or (a :: b :: rest) pos) (bnd x fun r => bnd (lft (asBl r)) fun k => if k then ret (.dat (.bl true)) else y) := fun W t =>
  PE.imp (pe_or (ha W t) (hb W t)) fun σ H Q ⟨F, m, R, h⟩ => tE_mono (tK_bnd R h) fun v H1 ⟨r, F1, m1, S1, R1, p1, k1⟩ => by
    obtain ⟨k, e, k2⟩ := tK_asBl p1 k1
    refine ⟨k, e, ?_⟩
    cases k with
    | true => exact flat_bl R1 k2
    | false => exact ⟨F1, m1, R1, k2⟩
theorem de_one {op : BoolOp} (ha : DEn ca nn X a x) : DEn ca nn X (.BoolOp op [a] pos) x := fun W t => pe_one (ha W t)
/-- a test of and, or -/
def DWn (ca : Nat → Addr) (nn : Bool) (X : Cx) (e : Expr) (f : M Bool) : Prop := ∀ W, Tks nn X W → PW X e (tT ca W f)
theorem DWn.dt {f : M Bool} (h : DWn ca nn X e f) : DTn ca nn X e f := fun W t => (h W t).pt
theorem PW.imp {X : Cx} {e : Expr} {t t' : TT} (h : PW X e t) (k : ∀ σ H Q, t' σ H Q → t σ H Q) : PW X e t' := ⟨fun wh P s σ H Q I q => h.run wh P s σ H Q I (k σ H Q q)⟩
theorem dw_one {op : BoolOp} {f : M Bool} (ha : DTn ca nn X a f) : DWn ca nn X (.BoolOp op [a] pos) f := fun W t => by
  cases op with
  | And => exact pw_and1 (ha W t)
  | Or => exact pw_or1 (ha W t)
theorem dw_and {rest : List Expr} (ha : DTn ca nn X a (asB x)) (hb : DWn ca nn X (.BoolOp .And (b :: rest) pos) (asB y)) : DWn ca nn X (.BoolOp .And (a :: b :: rest) pos) (asB (bnd x fun r => bnd (lft (asBl r)) fun k => if k then y else ret (.dat (.bl false)))) := fun W t =>
  PW.imp (pw_and (ha W t) (hb W t)) fun σ H Q h => by
    rw [asB_and] at h
    obtain ⟨F, m, R, h⟩ := h
    exact tT_mono (tB_bndB R h) fun k H1 ⟨F1, m1, S1, R1, k1⟩ => by
      cases k with
      | false => exact tB_ret R1 k1
      | true => exact ⟨F1, m1, R1, k1⟩
theorem dw_or {rest : List Expr} (ha : DTn ca nn X a (asB x)) (hb : DWn ca nn X (.BoolOp .Or (b :: rest) pos) (asB y)) : DWn ca nn X (.BoolOp .Or (a :: b :: rest) pos) (asB (bnd x fun r => bnd (lft (asBl r)) fun k => if k then ret (.dat (.bl true)) else y)) := fun W t =>
  PW.imp (pw_or (ha W t) (hb W t)) fun σ H Q h => by
    rw [asB_or] at h
    obtain ⟨F, m, R, h⟩ := h
    exact tT_mono (tB_bndB R h) fun k H1 ⟨F1, m1, S1, R1, k1⟩ => by
      cases k with
      | true => exact tB_ret R1 k1
      | false => exact ⟨F1, m1, R1, k1⟩
theorem de_not (ha : DEn ca nn X a x) : DEn ca nn X (.UnaryOp .Not a pos) (bnd x fun r => bnd (lft (asBl r)) fun k => ret (.dat (.bl (!k)))) := fun W t =>
  PE.imp (pe_not (ha W t)) fun σ H Q ⟨F, m, R, h⟩ => tE_mono (tK_bnd R h) fun v H1 ⟨r, F1, m1, S1, R1, p1, k1⟩ => by
    obtain ⟨k, e, k2⟩ := tK_asBl p1 k1
    exact ⟨k, e, flat_bl R1 k2⟩
theorem dt_not (ha : DTn ca nn X a (asB x)) : DTn ca nn X (.UnaryOp .Not a pos) (asB (bnd x fun r => bnd (lft (asBl r)) fun k => ret (.dat (.bl (!k))))) := fun W t =>
  PT.imp (pt_not (ha W t)) fun σ H Q h => by
    rw [asB_not] at h
    obtain ⟨F, m, R, h⟩ := h
    exact tT_mono (tB_bndB R h) fun k H1 ⟨F1, m1, S1, R1, k1⟩ => tB_ret R1 k1
theorem de_ife (hc : DTn ca nn X c (asB x)) (ha : DEn ca nn X a y) (hb : DEn ca nn X b z) : DEn ca nn X (.IfExp c a b pos) (bnd x fun r => bnd (lft (asBl r)) fun k => if k then y else z) := fun W t =>
  PE.imp (pe_ifExp (hc W t) (ha W t) (hb W t)) fun σ H Q h => by
    rw [ev_ife] at h
    obtain ⟨F, m, R, h⟩ := h
    exact tT_mono (tK_bndB R h) fun k H1 ⟨F1, m1, S1, R1, k1⟩ => by
      cases k with
      | true => exact ⟨F1, m1, R1, k1⟩
      | false => exact ⟨F1, m1, R1, k1⟩
theorem pt_ife {A B D : TT} (hc : PT X c A) (ha : PT X a B) (hb : PT X b D) : PT X (.IfExp c a b pos) (fun σ H Q => A σ H fun k H1 => if k = true then B σ H1 Q else D σ H1 Q) := by
  refine ⟨fun pins s σ H Q I h => ?_⟩
  refine PyProof.Rows.isTrue_IfExp (thn (hc.run pins s σ H _ I h) fun d s1 ⟨H1, I1, q1⟩ => ?_)
  cases d with
  | true => exact ha.run pins s1 σ H1 Q I1 q1
  | false => exact hb.run pins s1 σ H1 Q I1 q1
theorem dt_ife (hc : DTn ca nn X c (asB x)) (ha : DTn ca nn X a (asB y)) (hb : DTn ca nn X b (asB z)) : DTn ca nn X (.IfExp c a b pos) (asB (bnd x fun r => bnd (lft (asBl r)) fun k => if k then y else z)) := fun W t =>
  PT.imp (pt_ife (hc W t) (ha W t) (hb W t)) fun σ H Q h => by
    rw [asB_ife] at h
    obtain ⟨F, m, R, h⟩ := h
    exact tT_mono (tB_bndB R h) fun k H1 ⟨F1, m1, S1, R1, k1⟩ => by
      cases k with
      | true => exact ⟨F1, m1, R1, k1⟩
      | false => exact ⟨F1, m1, R1, k1⟩
/-! ### arguments, displays -/
theorem da_nil : DAn ca nn X [] (ret []) := fun W _ => PA.imp pa_nil fun σ H Q ⟨F, m, R, r, m', e, k⟩ => by
  cases e
  exact k F H [] (Since.less Since.refl fun b z => Or.elim z id False.elim) R rfl
theorem da_cons {es : List Expr} {xs : M (List RV)} (ha : DEn ca nn X e x) (hr : DAn ca nn X es xs) (hs : starB e = false) : DAn ca nn X (e :: es) (bnd x fun r => bnd xs fun rs => ret (prj r :: rs)) := fun W t =>
  PA.imp (pa_cons (ha W t) (hr W t) (star_no hs)) fun σ H Q ⟨F, m, R, h⟩ => tE_mono (tL_bnd R h) fun v H1 ⟨r, F1, m1, S1, R1, p1, k1⟩ => tA_mono (tL_bndL R1 k1) fun vs H2 ⟨rs, F2, m2, S2, R2, p2, k2⟩ => by
    obtain ⟨r', m', er, k⟩ := k2
    cases er
    exact k F2 H2 (v :: vs) (Since.less Since.refl fun b z => Or.elim z id False.elim) R2 ⟨v, vs, rfl, IsP.mono S2.k1 p1, p2⟩
theorem isps_dat : ∀ {l : List Dat} {vs : List V}, IsDs ca F l vs → IsPs ca F σ (l.map .dat) vs
  | [], vs, h => h
  | d :: r, vs, ⟨v, ys, e, q, t⟩ => ⟨v, ys, e, q, isps_dat t⟩
theorem isps_app : ∀ {rs ss : List RV} {vs ws : List V}, IsPs ca F σ rs vs → IsPs ca F σ ss ws → IsPs ca F σ (rs ++ ss) (vs ++ ws)
  | [], ss, vs, ws, h, k => by
    have h' : vs = [] := h
    subst h'
    exact k
  | d :: r, ss, vs, ws, ⟨v, ys, e, q, t⟩, k => by
    subst e
    exact ⟨v, ys ++ ws, rfl, q, isps_app t k⟩
theorem tStar_of {l : List Dat} {d : Dat} {v : V} {K : PySem.W.Frag} (R : Rep ca F m σ H) (e : d = .lst l ∨ d = .tup l) (q : AtD ca F H d v) : ∃ p xs, v = V.ref p ∧ (SqT K H p xs ∨ SqL K H p xs) ∧ IsDs ca F l xs := by
  obtain ⟨a, xs, e1, e2, e3⟩ := at_seq (K := K) R.sub e q
  exact ⟨a, xs, e1, e2.symm, e3⟩
theorem da_star {es : List Expr} {xs : M (List RV)} {p : Pos} (ha : DEn ca nn X e x) (hr : DAn ca nn X es xs) : DAn ca nn X (.Starred e p :: es) (bnd x fun r => bnd (look (prj r)) fun d => match d with
    | .lst l => bnd xs fun rs => ret (l.map .dat ++ rs)
    | .tup l => bnd xs fun rs => ret (l.map .dat ++ rs)
    | _ => fun _ => none) := fun W t =>
  PA.imp (StX.pa_star (ha W t) (hr W t)) fun σ H Q ⟨F, m, R, h⟩ => tE_mono (tL_bnd R h) fun v H1 ⟨r, F1, m1, S1, R1, p1, k1⟩ => by
    have k1' : ∃ d, peek m1 (prj r) = some d ∧ AtD ca F1 H1 d v ∧ tL ca W ((match d with
        | .lst l => bnd xs fun rs => ret (l.map .dat ++ rs)
        | .tup l => bnd xs fun rs => ret (l.map .dat ++ rs)
        | _ => fun _ => none) : M (List RV)) F1 m1 σ H1 Q := by
      obtain ⟨r', m', e, k⟩ := k1
      cases hd : peek m1 (prj r) with
      | none => simp only [bnd, look, hd] at e; cases e
      | some d =>
        simp only [bnd, look, hd] at e
        exact ⟨d, rfl, peek_at R1 p1 hd, r', m', e, k⟩
    obtain ⟨d, _, q, k⟩ := k1'
    have fin : ∀ l, (d = .lst l ∨ d = .tup l) → tL ca W (bnd xs fun rs => ret (l.map .dat ++ rs)) F1 m1 σ H1 Q → ∃ p xs, v = V.ref p ∧ (SqT X.K H1 p xs ∨ SqL X.K H1 p xs) ∧ tA ca W _ σ H1 fun ys H2 => Q (xs ++ ys) H2 := fun l el k => by
      obtain ⟨p, ys, e1, e2, e3⟩ := tStar_of (K := X.K) R1 el q
      refine ⟨p, ys, e1, e2, tA_mono (tL_bndL R1 k) fun vs H2 ⟨rs, F2, m2, S2, R2, p2, k2⟩ => ?_⟩
      obtain ⟨r', m', er, k⟩ := k2
      cases er
      exact k F2 H2 _ (Since.less Since.refl fun b z => Or.elim z id False.elim) R2 (isps_app (isps_dat (IsDs.mono S2.k1 _ _ e3)) p2)
    have bad : ∀ {P : Prop}, tL ca W (fun _ => none) F1 m1 σ H1 Q → P := fun ⟨_, _, e, _⟩ => by cases e
    cases d with
    | lst l => exact fin l (.inl rfl) k
    | tup l => exact fin l (.inr rfl) k
    | _ => exact bad k
/-- data, and no more than fits -/
theorem tup_len {ds : List Dat} {f : M RV} {Q : VK} (h : tK ca W (if ds.length ≤ sizeLine then f else fun _ => none) F m σ H Q) : ds.length ≤ sizeLine ∧ tK ca W f F m σ H Q := by
  split at h
  · exact ⟨by assumption, h⟩
  · exact (tK_none h).elim
theorem de_tup {es : List Expr} {xs : M (List RV)} {k : Nat} (ha : DAn ca nn X es xs) : DEn ca nn X (.Tuple es k pos) (bnd xs fun rs => bnd (frzs rs) fun ds => if ds.length ≤ sizeLine then ret (.dat (.tup ds)) else fun _ => none) := fun W t =>
  PE.imp (pe_tup (ha W t)) fun σ H Q ⟨F, m, R, h⟩ => tA_mono (tK_bndL R h) fun vs H1 ⟨rs, F1, m1, S1, R1, p1, k1⟩ => by
    obtain ⟨ds, G, m2, S2, R2, q2, k2⟩ := tK_frzs R1 p1 k1
    obtain ⟨hl, k3⟩ := tup_len k2
    exact ⟨by rw [q2.len]; exact hl, fun p hp => (tK_ret k3).newT R2 q2 hp⟩
theorem de_lst {es : List Expr} {xs : M (List RV)} (ha : DAn ca nn X es xs) : DEn ca nn X (.List es pos) (bnd xs fun rs => bnd (frzs rs) fun ds => if ds.length ≤ sizeLine then ret (.own (.lst ds)) else fun _ => none) := fun W t =>
  PE.imp (pe_lst (ha W t)) fun σ H Q ⟨F, m, R, h⟩ => tA_mono (tK_bndL R h) fun vs H1 ⟨rs, F1, m1, S1, R1, p1, k1⟩ => by
    obtain ⟨ds, G, m2, S2, R2, q2, k2⟩ := tK_frzs R1 p1 k1
    obtain ⟨hl, k3⟩ := tup_len k2
    exact ⟨by rw [q2.len]; exact hl, fun p hp => (tK_ret k3).newL R2 q2 hp⟩
theorem de_dic : DEn ca nn X (.Dict [] [] pos) (ret (.own (.dic []))) := fun W t =>
  PE.imp pe_dnewK fun σ H Q ⟨F, m, R, h⟩ p hp => (tK_ret h).newD R hp
end
end SB
/-! SbGlo: what the module's names mean; calls of the program's own defs. -/
namespace SB
open PySem L2
/-- how arguments may be written: by position, or by one of these patterns -/
def ArgsTo (kws : List (Nat × List PySem.Str × List Nat)) (args : Args) (us : List Value) : Prop :=
  args = ⟨us, []⟩ ∨ ∃ n ks ix u1 ws, (n, ks, ix) ∈ kws ∧ u1.length = n ∧ ws.length = ks.length ∧ args = ⟨u1, ks.zip ws⟩ ∧ permL ix (u1 ++ ws) = some us
/-- a def's promise -/
def GP (ca : Nat → Addr) (P : Program) (w : World) (K : PySem.W.Frag) (mg : PySem.Str → Option Value) (base : Heap) (nn : Bool) (kws : List (Nat × List PySem.Str × List Nat)) (k : Nat) (fa : Addr) (g : List Slo → Option (Except Exn RV × Option Dat)) : Prop :=
  ∀ (A : Around) (outer : List PySem.Env) (s : Shared) (H : Hp) (args : Args) (us : List Value) (vs : List V) (F : Hp) (avs : List Slo) (r : Except Exn RV) (mo : Option Dat) (Q : VK) (E : XK),
    A.guards = some [] → Room k A → Env0 P w K mg base A outer s H → ArgsTo kws args us → Vals vs us → Rep ca F (frm avs) (sts vs) H → g avs = some (r, mo) → GEnd ca F H avs vs r mo Q E →
    codeAny (model P w) A (.call (.ref fa) args) (CR (CXn nn P w) outer P w H s Q E) s
structure CallsOk (T : Tab) (C : Calls) : Prop where
  imm : ∀ f fd avs r mo, T.fns[f]? = some fd → fd.mt = false → C f avs = some (r, mo) → mo = none
def bltNames : List PySem.Str := ["len", "abs", "int", "str", "repr", "tuple", "list", "max", "min", "divmod", "all", "any", "bool", "enumerate", "zip", "range", "isinstance"]
def isiNames : List String := ["int", "str", "tuple", "list", "bool"]
def tyNames : List String := ["NoneType", "bool", "int", "str", "tuple", "list", "dict"]
/-- a name of the module -/
def NamOk (ca fa : Nat → Addr) (T : Tab) (K : PySem.W.Frag) (mg : PySem.Str → Option Value) (x : PySem.Str) : GK → Prop
  | .con d => ∃ u v, mg x = some u ∧ RelV v u ∧ ∀ F, IsD ca F d v
  | .fn f => mg x = some (.ref (fa f)) ∧ PySem.W.keepIn K (.ref (fa f)) = true ∧ ∃ fd, T.fns[f]? = some fd ∧ fd.mt = false
  | .fnm f => mg x = some (.ref (fa f)) ∧ PySem.W.keepIn K (.ref (fa f)) = true ∧ ∃ fd, T.fns[f]? = some fd ∧ fd.mt = true
  | .cls c => mg x = some (.ref (ca c)) ∧ PySem.W.keepIn K (.ref (ca c)) = true
  | .exc c => mg x = some (.ref (ca c))
/-- a class of the program -/
structure InsOk (ca fa : Nat → Addr) (T : Tab) (K : PySem.W.Frag) (c : Nat) (cd : Cd) : Prop where
  cl : Cls K (ca c)
  kp : PySem.W.keepIn K (.ref (ca c)) = true
  flds : ∀ f ∈ cd.flds, NoAttr K (ca c) f
  init : ∀ g, cd.init = some g → Mk K (ca c) (fa g) ∧ ∃ fd, T.fns[g]? = some fd ∧ fd.mt = true
  props : ∀ f g, (f, g) ∈ cd.props → (∃ p, PropOf K (ca c) f p (fa g)) ∧ ∃ fd, T.fns[g]? = some fd ∧ fd.mt = false
  mets : ∀ f g, (f, g) ∈ cd.mets → Meth K (ca c) f (fa g) ∧ PySem.W.fnIn K (fa g) = true ∧ ∃ fd, T.fns[g]? = some fd ∧ fd.mt = false
  noSeq : PySem.W.noSeq K (ca c) = true
  isb : cd.isb = true → (PySem.W.findIn K (.ref (ca c)) "__class__" = some (some (.builtin "object.__class__")) ∧ PySem.W.specialIn K (.builtin "object.__class__") "__get__" = some (some (.builtin "getset_descriptor.__get__")) ∧
    PySem.W.takesIn K (.builtin "object.__class__") = some true ∧ PySem.W.mroIn K (ca c) (.type "object") = some true) ∧ (∀ n ∈ isiNames, PySem.W.kitOne K (.ref (ca c)) (.type n) = some false) ∧
    ∀ k b, (k, b) ∈ cd.iss → PySem.W.kitOne K (.ref (ca c)) (.ref (ca k)) = some b
/-- what stands in the module, for ever -/
structure Sta (ca fa : Nat → Addr) (G : List (PySem.Str × GK)) (cm : List (Nat × PySem.Str × Nat)) (T : Tab) (K : PySem.W.Frag) (mg : PySem.Str → Option Value) : Prop where
  nam : ∀ x k, (x, k) ∈ G → NamOk ca fa T K mg x k
  blt : ∀ x ∈ bltNames, (G.lookup x).isNone = true → mg x = none
  ins : ∀ c cd, T.cls[c]? = some cd → cd.exc = false → InsOk ca fa T K c cd
  isn : ∀ c cd, T.cls[c]? = some cd → cd.isn = true → ∀ n ∈ tyNames, PySem.W.kitOne K (.type n) (.ref (ca c)) = some false
  cmo : ∀ c m g, (c, m, g) ∈ cm → ∃ mc p, ClX.CRead K (ca c) mc ∧ ClX.CMet K (ca c) mc m p (fa g) ∧ ∃ fd, T.fns[g]? = some fd ∧ fd.mt = false
theorem mem_lookup {α β : Type} [BEq α] [LawfulBEq α] : ∀ {l : List (α × β)} {x : α} {k : β}, l.lookup x = some k → (x, k) ∈ l
  | [], x, k, h => by cases h
  | (y, j) :: r, x, k, h => by
    rw [List.lookup_cons] at h
    cases q : x == y with
    | true =>
      rw [q] at h
      have e1 : x = y := eq_of_beq q
      have e2 : j = k := Option.some.inj h
      subst e1 e2
      exact List.mem_cons_self
    | false =>
      rw [q] at h
      exact List.mem_cons_of_mem _ (mem_lookup h)
/-- a body's context, as far as expressions go -/
structure Ctx (ca fa : Nat → Addr) (Z : Nam) (T : Tab) (C : Calls) (nn : Bool) (lv : Nat) (X : Cx) : Prop where
  sta : Sta ca fa Z.G Z.cm T X.K X.mg
  ok : CallsOk T C
  gp : ∀ (f : Nat) (fd : Fd), T.fns[f]? = some fd → GP ca X.prog X.w X.K X.mg X.base fd.nn fd.kws lv (fa f) (C f)
  hnn : ∀ (f : Nat) (fd : Fd), T.fns[f]? = some fd → fd.nn = true ∨ nn = false
  N : X.N = Z.N
  nd : X.N.Nodup
  calm : X.calm = true
  gd : X.A.guards = some []
  room : Room (lv + 3) X.A
section
variable {ca fa : Nat → Addr} {Z : Nam} {T : Tab} {C : Calls} {nn : Bool} {lv : Nat} {X : Cx} {F H : Hp} {m : Frm} {σ : St} {W : WX} {s : Shared} {pins : List (Addr × Obj)}
theorem Ctx.hu (c : Ctx ca fa Z T C nn lv X) : X.A.units + 64 < cLine := c.room.units
/-- a callee runs, from wherever it is called -/
theorem run_GA {A : Around} {mm : Bool} {kws : List (Nat × List PySem.Str × List Nat)} {k : Nat} {f : Addr} {g : List Slo → Option (Except Exn RV × Option Dat)} {Q : VK} {us u1 : List Value} {kw : List (PySem.Str × Value)} {vs : List V} {avs : List Slo} {r : Except Exn RV} {mo : Option Dat} {E : XK} (G : GP ca X.prog X.w X.K X.mg X.base mm kws k f g) (hr : Room k A) (hg : A.guards = some [])
    (e0 : Env0 X.prog X.w X.K X.mg X.base A X.stack s H) (hx : PassesAt (CXn mm X.prog X.w) X σ E) (I : Inv X pins σ H s) (to : ArgsTo kws ⟨u1, kw⟩ us) (rv : Vals vs us) (R : Rep ca F (frm avs) (sts vs) H) (e : g avs = some (r, mo)) (k : GEnd ca F H avs vs r mo Q E) :
    wpAny (model X.prog X.w) A (call (.ref f) u1 kw) (EP X pins σ Q) X.xe s := by
  refine wpAny_call (codeAny_mono (G A X.stack s H ⟨u1, kw⟩ us vs F avs r mo Q E hg hr e0 to rv R e k) fun r s' hq => ?_)
  cases r with
  | error e => exact hx pins H s e s' I hq
  | ok fl =>
    cases fl with
    | ret u => exact I.after hq
    | next => exact False.elim hq
    | brk => exact False.elim hq
    | cont => exact False.elim hq
theorem codeGA {A : Around} {mm : Bool} {kws : List (Nat × List PySem.Str × List Nat)} {k : Nat} {f : Addr} {g : List Slo → Option (Except Exn RV × Option Dat)} {Q : VK} {us u1 : List Value} {kw : List (PySem.Str × Value)} {vs : List V} {avs : List Slo} {r : Except Exn RV} {mo : Option Dat} {E : XK} (G : GP ca X.prog X.w X.K X.mg X.base mm kws k f g) (hr : Room k A) (hg : A.guards = some [])
    (e0 : Env0 X.prog X.w X.K X.mg X.base A X.stack s H) (hx : PassesAt (CXn mm X.prog X.w) X σ E) (I : Inv X pins σ H s) (to : ArgsTo kws ⟨u1, kw⟩ us) (rv : Vals vs us) (R : Rep ca F (frm avs) (sts vs) H) (e : g avs = some (r, mo)) (k : GEnd ca F H avs vs r mo Q E) :
    codeAny (model X.prog X.w) A (.call (.ref f) ⟨u1, kw⟩) (fun r s' => match r with | .ok (.ret v) => EP X pins σ Q v s' | .ok _ => False | .error e => X.xe e s') s := by
  refine codeAny_mono (G A X.stack s H ⟨u1, kw⟩ us vs F avs r mo Q E hg hr e0 to rv R e k) fun r s' hq => ?_
  cases r with
  | error e => exact hx pins H s e s' I hq
  | ok fl =>
    cases fl with
    | ret u => exact I.after hq
    | next => exact False.elim hq
    | brk => exact False.elim hq
    | cont => exact False.elim hq
theorem run_G {mm : Bool} {kws : List (Nat × List PySem.Str × List Nat)} {k : Nat} {f : Addr} {g : List Slo → Option (Except Exn RV × Option Dat)} {Q : VK} {us : List Value} {vs : List V} {avs : List Slo} {r : Except Exn RV} {mo : Option Dat} {E : XK} (G : GP ca X.prog X.w X.K X.mg X.base mm kws k f g) (hr : Room k X.A) (hg : X.A.guards = some [])
    (hx : PassesAt (CXn mm X.prog X.w) X σ E) (I : Inv X pins σ H s) (rv : Vals vs us) (R : Rep ca F (frm avs) (sts vs) H) (e : g avs = some (r, mo)) (k : GEnd ca F H avs vs r mo Q E) :
    wpAny (model X.prog X.w) X.A (call (.ref f) us) (EP X pins σ Q) X.xe s := run_GA G hr hg I.env0 hx I (.inl rfl) rv R e k
/-- what never comes, passes everywhere -/
theorem passes_never {mm : Bool} : PassesAt (CXn mm X.prog X.w) X σ (fun _ _ _ => False) := fun pins H s e s' I h => by
  cases mm with
  | true =>
    obtain ⟨a, B, H', cls, d, _, _, _, _, _, _, _, z⟩ := (show L2N.CX X.prog X.w X.stack H s _ e s' from h)
    exact z.elim
  | false =>
    obtain ⟨a, B, H', cls, d, _, _, _, _, _, _, _, z⟩ := (show L2.CX X.prog X.w X.stack H s _ e s' from h)
    exact z.elim
theorem plain_args {pos : Pos} {env : PySem.Env} : ∀ {es : List Expr}, noStar es = true → (backTo pos (starEach es env)).any (·.1) = false
  | [], _ => rfl
  | e :: r, h => by
    unfold noStar at h
    rw [List.all_cons, Bool.and_eq_true, Bool.not_eq_true'] at h
    rw [star_no h.1]
    show (false || (backTo pos (starEach r env)).any (·.1)) = false
    rw [Bool.false_or]
    exact plain_args h.2
theorem noStar_cons {e : Expr} {r : List Expr} (h : noStar (e :: r) = true) : starB e = false ∧ noStar r = true := by
  unfold noStar at h ⊢
  rw [List.all_cons, Bool.and_eq_true, Bool.not_eq_true'] at h
  exact h
theorem glo_of {x : PySem.Str} (h : glB X.env.scope x = true) : Gl X x ∧ (x == ("__debug__" : PySem.Str)) = false := by
  unfold glB at h
  rw [Bool.and_eq_true, decide_eq_true_eq, Bool.not_eq_true'] at h
  exact h
/-- behind f: the core of tK_bndO, the frame in sight -/
theorem tK_core {f : M RV} {g : RV → M RV} {Q : VK} (h : tK ca W (bnd f g) F m σ H Q) :
    tK ca W f F m σ H fun v H1 => ∃ r F1 m1, Since F H (Own m σ) F1 H1 (fun b => Own m1 σ b ∨ RB r v b) ∧ Rep ca F1 m1 σ H1 ∧ IsR ca F1 H1 m1 σ r v ∧ tKZ ca (RB r v) W (g r) F1 m1 σ H1 Q := by
  obtain ⟨r, m', e, k⟩ := h
  rcases bnd_ok e with ⟨x, m1, e1, e2⟩ | ⟨a, m1, e1, e2⟩
  · cases e2
    exact ⟨_, _, e1, k⟩
  · refine ⟨_, _, e1, fun F1 H1 v S R1 q => ⟨a, F1, m1, S, R1, q, r, m', e2, ?_⟩⟩
    cases r with
    | ok b => exact fun F2 H2 u S2 R3 q2 => k F2 H2 u (S.trans S2) R3 q2
    | error x => exact fun F2 H2 C d S2 R3 q2 => k F2 H2 C d (S.trans S2) R3 q2
/-- a def of the module, its arguments at hand -/
theorem call_at (c : Ctx ca fa Z T C nn lv X) (t : Tks nn X W) {f : Nat} {fd : Fd} {ds : List Dat} {us : List Value} {vs : List V} {Q : VK} {A : Around} (hA : Room lv A) (hg : A.guards = some []) (e0 : Env0 X.prog X.w X.K X.mg X.base A X.stack s H)
    (hf : T.fns[f]? = some fd) (hm : fd.mt = false) (I : Inv X pins σ H s) (R : Rep ca F m σ H) (q : IsDs ca F ds vs) (rv : Vals vs us) (k : tK ca W (callF C f ds) F m σ H Q) : wpAny (model X.prog X.w) A (call (.ref (fa f)) us) (EP X pins σ Q) X.xe s := by
  obtain ⟨r, mo, e, g⟩ := call_end R q k
  have hmo := c.ok.imm f fd _ r mo hf hm e
  exact run_GA (c.gp f fd hf) hA hg e0 (passes_n t (c.hnn f fd hf) σ) I (.inl rfl) rv (rep_args R.sub q) e (g hmo)
/-- .. by keywords, too -/
theorem call_atk (c : Ctx ca fa Z T C nn lv X) (t : Tks nn X W) {f : Nat} {fd : Fd} {ds : List Dat} {us u1 : List Value} {kw : List (PySem.Str × Value)} {vs : List V} {Q : VK} {A : Around} (hA : Room lv A) (hg : A.guards = some []) (e0 : Env0 X.prog X.w X.K X.mg X.base A X.stack s H)
    (hf : T.fns[f]? = some fd) (hm : fd.mt = false) (I : Inv X pins σ H s) (to : ArgsTo fd.kws ⟨u1, kw⟩ us) (R : Rep ca F m σ H) (q : IsDs ca F ds vs) (rv : Vals vs us) (k : tK ca W (callF C f ds) F m σ H Q) : wpAny (model X.prog X.w) A (call (.ref (fa f)) u1 kw) (EP X pins σ Q) X.xe s := by
  obtain ⟨r, mo, e, g⟩ := call_end R q k
  have hmo := c.ok.imm f fd _ r mo hf hm e
  exact run_GA (c.gp f fd hf) hA hg e0 (passes_n t (c.hnn f fd hf) σ) I to rv (rep_args R.sub q) e (g hmo)
variable {x : PySem.Str} {p pos : Pos} {es : List Expr} {xs : M (List RV)}
/-- f(..), a def of the module upon data -/
theorem de_cal (c : Ctx ca fa Z T C nn lv X) {f : Nat} (hG : Z.G.lookup x = some (.fn f)) (hg : glB X.env.scope x = true) (ha : DAn ca nn X es xs) (h0 : es = [] → xs = ret []) (hs : noStar es = true) :
    DEn ca nn X (.Call (.Name x p) es [] pos) (bnd xs fun rs => bnd (frzs rs) fun ds => callF C f ds) := fun W t => ⟨fun pins s σ H Q I h => by
  obtain ⟨h1, h2, fd, hf, hm⟩ := c.sta.nam x _ (mem_lookup hG)
  obtain ⟨g1, g2⟩ := glo_of hg
  refine wpAny_Call_Name_kw (ld_glob I g1 h1 ?_ g2)
  obtain ⟨F, m, R, h⟩ := h
  have hr : Room lv X.A := c.room.mono (by omega)
  cases es with
  | nil =>
    refine PySem.W.callWith_K0 I.kIn h2 ?_
    rw [h0 rfl] at h
    exact call_at (ds := []) (vs := []) c t hr c.gd I.env0 hf hm I R rfl .nil h
  | cons e r =>
    obtain ⟨s1, s2⟩ := noStar_cons hs
    refine PySem.W.callWith_K (h₀ := X.base) I.ok.mod.kin h2 (thn ((ha W t).run pos pins s σ H _ I (tK_bndL R h)) fun us s1 ⟨vs, H1, I1, rv, rs, F1, m1, S, R1, q, k⟩ => ⟨I1.kIn, ?_⟩) (star_no s1) (plain_args s2)
    obtain ⟨ds, G, m2, S2, R2, q2, k2⟩ := tK_frzs R1 q k
    exact call_at c t hr c.gd I1.env0 hf hm I1 R2 q2 rv k2⟩
end
end SB
set_option maxRecDepth 100000
set_option maxHeartbeats 2000000
/-! SbSpec: str, bool, len of an instance whose class has the method. -/
namespace SB
open PySem PySem.W PySem.Calls PyProof.Rows Builtin Builtin.Str
section
variable {prog : Program} {w : World} {A : Around} {E : Value → Shared → Prop} {s : Shared} {K : Frag} {x C f : Addr} {ox : Obj} {od : Option Obj}
theorem strOf_own {B : Around} {Q : Value → Shared → Prop} (hu : B.units < cLine) (X : K.In s.heap) (I : InstAt s.heap x ox C od) (at_ : findIn K (.ref C) "__str__" = some (some (.ref f))) (fn : isFn K (.ref f) = true)
    (run : wpAny (model prog w) B (call (.ref f) [.ref x]) (StrBack Q) E s) : wpAny (model prog w) B (PySem.Builtin.Str.strOf (.ref x)) (fun r s1 => (∃ y u, r = .str y u) ∧ Q r s1) E s := by
  have ne : isExactStr (.ref x) = false := rfl
  unfold PySem.Builtin.Str.strOf
  rw [ne]
  refine wpAny_bind (m := cRoomFor _ _) (wpAny_cRoomFor hu ?_)
  have sp := special_fn (name := Str.ofString "__str__") (args := []) (Q := fun r s1 => ∃ v, r = some v ∧ StrBack Q v s1) X I at_ (beq_iff_eq.mp fn) (wpAny_mono run (fun v _ z => ⟨v, rfl, z⟩) fun _ _ z => z)
  refine wpAny_bind (wpAny_mono sp (fun r s1 hr => ?_) fun _ _ z => z)
  obtain ⟨v, er, hv⟩ := hr
  subst er
  cases v <;> first | exact hv.elim | exact wpAny_pure ⟨⟨_, _, rfl⟩, hv⟩
theorem str_own {Q : Value → Shared → Prop} (hu : A.in1.in1.units < cLine) (X : K.In s.heap) (I : InstAt s.heap x ox C od) (at_ : findIn K (.ref C) "__str__" = some (some (.ref f))) (fn : isFn K (.ref f) = true)
    (run : wpAny (model prog w) A.in1.in1 (call (.ref f) [.ref x]) (StrBack Q) E s) : wpAny (model prog w) A (call (.type "str") [.ref x]) Q E s := by
  refine callType_codes (Q₁ := fun r s1 => (∃ y u, r = .str y u) ∧ Q r s1) (Bi := Builtin.«object.__init__») PySem.F.called_str (PySem.F.typeCall_str_1 (.ref x)) PySem.F.entry_object_init ?_ ?_
  · refine codeAny_of_tree ?_
    have cc := PySem.F.newCall_str_1 (Value.ref x)
    have pl : plainId "str.__new__" = true := by decide +kernel
    refine wpAny_bind (wpAny_of_eq cc (wpAny_pure ⟨plainId_quiet pl _, codeAny_builtin PySem.F.entry_str_new ?_⟩))
    rw [Around.under_plainId pl _, str_new_tree]
    refine wpAny_bind (wpAny_pure (wpAny_bind (wpAny_of_eq isSubtype_str_str ?_)))
    exact wpAny_bind (wpAny_mono (strOf_own hu X I at_ fn run) (fun r s1 hr => wpAny_pure hr) fun _ _ z => z)
  · rintro obj s1 ⟨⟨y, u, rfl⟩, hq⟩
    have ty : s1.TypeIs (.str y u) "str" := typeIs_str _ _ _
    exact ⟨ty, PySem.F.args_object_init_2 _ _, object_init_meets PySem.F.called_str.init.lookup PySem.F.called_str.made (by decide) prog w A.in1 _ s1 ⟨ty, rfl, hq⟩⟩
theorem bool_own {Q : Value → Shared → Prop} (X : K.In s.heap) (I : InstAt s.heap x ox C od) (at_ : findIn K (.ref C) "__bool__" = some (some (.ref f))) (fn : isFn K (.ref f) = true)
    (run : wpAny (model prog w) A.in1.in1 (call (.ref f) [.ref x]) (PySem.W.BoolBack fun b s1 => Q (.bool b) s1) E s) : wpAny (model prog w) A (call (.type "bool") [.ref x]) Q E s := by
  refine callType_codes (Q₁ := fun r s1 => (∃ y, r = .bool y) ∧ Q r s1) (Bi := Builtin.«object.__init__») F.called_bool (F.typeCall_bool_1 (.ref x)) PySem.F.entry_object_init ?_ ?_
  · refine codeAny_of_tree ?_
    have cc := F.newCall_bool_1 (Value.ref x)
    have pl : plainId "bool.__new__" = true := by decide +kernel
    refine wpAny_bind (wpAny_of_eq cc (wpAny_pure ⟨plainId_quiet pl _, codeAny_builtin F.entry_bool_new ?_⟩))
    rw [Around.under_plainId pl _]
    unfold Builtin.«bool.__new__»
    refine wpAny_bind (wpAny_pure ?_)
    refine wpAny_bind (wpAny_of_eq F.conv_sub_bool ?_)
    refine wpAny_bind (m := someArgs "bool" 0 1 _) (wpAny_pure ?_)
    have sp := special_fn (name := Str.ofString "__bool__") (args := []) (Q := fun r s1 => ∃ v, r = some v ∧ PySem.W.BoolBack (fun b s1 => Q (.bool b) s1) v s1) X I at_ (beq_iff_eq.mp fn) (wpAny_mono run (fun v _ z => ⟨v, rfl, z⟩) fun _ _ z => z)
    refine wpAny_bind ?_
    unfold truthy
    refine wpAny_bind (wpAny_mono sp (fun r s1 hr => ?_) fun _ _ z => z)
    obtain ⟨v, er, hv⟩ := hr
    subst er
    cases v <;> first | exact hv.elim | exact wpAny_pure (wpAny_pure ⟨⟨_, rfl⟩, hv⟩)
  · rintro obj s1 ⟨⟨y, rfl⟩, hq⟩
    have ty : s1.TypeIs (.bool y) "bool" := rfl
    exact ⟨ty, PySem.F.args_object_init_2 _ _, object_init_meets F.called_bool.init.lookup F.called_bool.made (by decide) prog w A.in1 _ s1 ⟨ty, rfl, hq⟩⟩
end
end SB
set_option maxRecDepth 100000
/-! SbGlo2: calls that change their first argument; making; reads; methods. -/
namespace SB
open PySem L2
section
variable {ca fa : Nat → Addr} {Z : Nam} {T : Tab} {C : Calls} {nn : Bool} {lv : Nat} {X : Cx} {F H : Hp} {m : Frm} {σ : St} {W : WX} {s : Shared} {pins : List (Addr × Obj)} {x : PySem.Str} {p pos apos : Pos} {e : Expr} {es : List Expr} {x0 : M RV} {xs : M (List RV)}
/-- f(e, ..), a def of the module that changes e -/
theorem de_calm (c : Ctx ca fa Z T C nn lv X) {f : Nat} (hG : Z.G.lookup x = some (.fnm f)) (hg : glB X.env.scope x = true) (he : DEn ca nn X e x0) (ha : DAn ca nn X es xs) (hs : noStar (e :: es) = true) :
    DEn ca nn X (.Call (.Name x p) (e :: es) [] pos) (bnd x0 fun r0 => bnd xs fun rs => bnd (frzs rs) fun ds => callM C f r0 ds) := fun W t => ⟨fun pins s σ H Q I h => by
  obtain ⟨h1, h2, fd, hf, hm⟩ := c.sta.nam x _ (mem_lookup hG)
  obtain ⟨g1, g2⟩ := glo_of hg
  refine wpAny_Call_Name_kw (ld_glob I g1 h1 ?_ g2)
  obtain ⟨F, m, R, h⟩ := h
  have hr : Room lv X.A := c.room.mono (by omega)
  obtain ⟨s1, s2⟩ := noStar_cons hs
  have pa := pa_cons (he W t) (ha W t) (star_no (env := X.env) (es := es) s1)
  let Q' : List V → Hp → Prop := fun ws H2 => ∃ v vs, ws = v :: vs ∧ ∃ (r : RV) (rs : List RV) (F1 : Hp) (m1 : Frm), Rep ca F1 m1 σ H2 ∧ IsPs ca F1 σ rs vs ∧ (∀ d, r = .own d → ∃ a, v = .ref a ∧ F1 a = none ∧ OwnAt ca F1 H2 a d ∧ ¬ Own m1 σ a) ∧ (∀ i, r = .bor i → σ[i]? = some (some v)) ∧ tKZ ca (RB r v) W (bnd (frzs rs) fun ds => callM C f r ds) F1 m1 σ H2 Q
  have hh : tCons (tE ca W x0) (tA ca W xs) σ H Q' := tE_mono (tK_bndO R h) fun v H1 ⟨r, F1, m1, S1, R1, q1, k1⟩ => tA_mono (tKZ_bndL R1 k1) fun vs H2 ⟨rs, F2, m2, S2, R2, p2, k2⟩ => by
    refine ⟨v, vs, rfl, r, rs, F2, m2, R2, p2, fun d ed => ?_, fun i ei => ?_, k2⟩
    · subst ed
      obtain ⟨a, ea, n, o, na⟩ := q1
      obtain ⟨u, hu⟩ := o.there
      obtain ⟨z1, z2, z3⟩ := S2.stay hu na
      exact ⟨a, ea, z3 n, o.mono S2.k1 fun z hz => S2.k2 a z hz na, z2⟩
    · subst ei
      exact q1
  refine PySem.W.callWith_K (h₀ := X.base) I.ok.mod.kin h2 (thn (pa.run pos pins s σ H Q' I hh) fun us s1 ⟨ws, H2, I2, rv, v, vs, ew, r, rs, F1, m1, R1, p1, o1, b1, k1⟩ => ⟨I2.kIn, ?_⟩) (star_no s1) (plain_args s2)
  subst ew
  obtain ⟨ds, G, m2, S2, R2, q2, k2⟩ := tKZ_frzs R1 p1 k1
  obtain ⟨d, a, r', mo, ea, n, o, ec, g⟩ := callM_end R2 q2 (fun d ed => by
    obtain ⟨a, ea, n, o, na⟩ := o1 d ed
    obtain ⟨u, hu⟩ := o.there
    obtain ⟨z1, z2, z3⟩ := S2.stay hu na
    exact ⟨a, ea, z3 n, o.mono S2.k1 fun z hz => hz, z2⟩) b1 k2
  subst ea
  exact run_G (c.gp f fd hf) hr c.gd (passes_n t (c.hnn f fd hf) σ) I2 rv (rep_mut R2.sub n o q2) ec g⟩
theorem make_guards {A : Around} {Cc : Addr} {us : List Value} {kw : List (PySem.Str × Value)} (h : A.guards = some []) : (A.under (.builtin "type.__call__" ⟨.ref Cc :: us, kw⟩)).guards = some [] := by
  first | exact h | (simp [Around.under, Code.guards, Code.isGuard, guardIds, pushGuards, h])
/-- an instance is made -/
theorem make_atk (c : Ctx ca fa Z T C nn lv X) (t : Tks nn X W) {k : Nat} {ds : List Dat} {us u1 : List Value} {kw : List (PySem.Str × Value)} {vs : List V} {Q : VK} (I : Inv X pins σ H s) (R : Rep ca F m σ H) (q : IsDs ca F ds vs) (rv : Vals vs us)
    (to : ∀ g fd cd, T.cls[k]? = some cd → cd.init = some g → T.fns[g]? = some fd → ∀ v, ArgsTo fd.kws ⟨v :: u1, kw⟩ (v :: us)) (h : tK ca W (makeM T C k ds) F m σ H Q) :
    wpAny (model X.prog X.w) X.A (call (.ref (ca k)) u1 kw) (EP X pins σ Q) X.xe s := by
  obtain ⟨r0, m0, e, g⟩ := h
  unfold makeM at e
  cases hc : T.cls[k]? with
  | none => rw [hc] at e; cases e
  | some cd =>
    rw [hc] at e
    cases hx : cd.exc with
    | true => simp only [hx, if_true] at e; cases e
    | false =>
      cases hi : cd.init with
      | none => simp only [hx, hi, Bool.false_eq_true, if_false] at e; cases e
      | some gi =>
        simp only [hx, hi, Bool.false_eq_true, if_false] at e
        obtain ⟨M, fd, hf, hm⟩ := (c.sta.ins k cd hc hx).init gi hi
        have hr : Room (lv + 1) X.A := c.room.mono (by omega)
        have n1 := I.hok.fresh (Nat.le_refl s.heap.objs.size)
        have n2 := I.hok.fresh (Nat.le_succ s.heap.objs.size)
        have ne : s.heap.objs.size + 1 ≠ s.heap.objs.size := Nat.succ_ne_self _
        have I2 := Inv.made (C := ca k) I
        have r2 : Vals (V.ref (s.heap.objs.size + 1) :: vs) (Value.ref (s.heap.objs.size + 1) :: us) := .cons rfl rv
        have n3 : upd H s.heap.objs.size (.own (s.heap.objs.size + 1)) (s.heap.objs.size + 1) = none := by rw [upd_ne ne]; exact n2
        have R1 : Rep ca F m σ (upd (upd H s.heap.objs.size (.own (s.heap.objs.size + 1))) (s.heap.objs.size + 1) (.ins (ca k) s.heap.objs.size [])) := (R.new n1).new n3
        have nF : F (s.heap.objs.size + 1) = none := by
          cases q : F (s.heap.objs.size + 1) with
          | none => rfl
          | some o => have := R.sub _ o q; rw [n2] at this; cases this
        have nO : ¬ Own m σ (s.heap.objs.size + 1) := fun z => by
          obtain ⟨⟨o, eo⟩, _⟩ := R.ownH z
          rw [n2] at eo; cases eo
        have RA := rep_mut (ca := ca) (d := .obj k []) (a := s.heap.objs.size + 1) R1.sub nF ⟨s.heap.objs.size, [], upd_same, rfl⟩ q
        have S0 : Since F H (Own m σ) F (upd (upd H s.heap.objs.size (.own (s.heap.objs.size + 1))) (s.heap.objs.size + 1) (.ins (ca k) s.heap.objs.size [])) (fun b => Own m σ b ∨ s.heap.objs.size + 1 = b) := by
          refine Since.less ((Since.new n1).trans (Since.new n3)) fun b z => z.elim (fun z => .inl (.inl z)) .inr
        -- behind __init__
        have both : ∀ {F' H' : Hp} {B : Addr → Prop}, Since F (upd (upd H s.heap.objs.size (.own (s.heap.objs.size + 1))) (s.heap.objs.size + 1) (.ins (ca k) s.heap.objs.size [])) (Own (frm (.own (.obj k []) :: ds.map .dat)) (sts (.ref (s.heap.objs.size + 1) :: vs))) F' H' B → Same F' H' →
            Rep ca F' m σ H' ∧ Since F H (Own m σ) F' H' B := fun {F' H' B} S hs =>
          ⟨R1.stay S hs fun b hb z => nO (by rw [own_mut] at z; rw [← z]; exact hb), S0.trans (S.wide fun b z => .inr (own_mut.mp z).symm)⟩
        have run : ∀ {r : Except Exn RV} {mo : Option Dat}, C gi (.own (.obj k []) :: ds.map .dat) = some (r, mo) → GEnd ca F (upd (upd H s.heap.objs.size (.own (s.heap.objs.size + 1))) (s.heap.objs.size + 1) (.ins (ca k) s.heap.objs.size [])) (.own (.obj k []) :: ds.map .dat) (.ref (s.heap.objs.size + 1) :: vs) r mo (fun v H2 => v = .non ∧ Q (.ref (s.heap.objs.size + 1)) H2) (WE W σ) →
            wpAny (model X.prog X.w) X.A (call (.ref (ca k)) u1 kw) (EP X pins σ Q) X.xe s := fun {r mo} ec ge => by
          refine wpAny_call (make_map (f := fa gi) I.kIn M.makes M.init (beq_iff_eq.mp M.fn) (codeAny_mono (c.gp gi fd hf _ X.stack _ _ ⟨Value.ref (s.heap.objs.size + 1) :: u1, kw⟩ (Value.ref (s.heap.objs.size + 1) :: us) _ F _ r mo _ (WE W σ) (make_guards c.gd) (hr.make (ca k) u1 kw)
            (I2.env0.make (ca k) u1 kw) (to gi fd cd hc hi hf _) r2 RA ec ge) fun r s' hq' => ?_))
          cases r with
          | error e => exact passes_n t (c.hnn gi fd hf) σ pins _ _ e s' I2 hq'
          | ok fl =>
            cases fl with
            | ret u =>
              obtain ⟨v, H', I3, rv, ev, q3⟩ := I2.after hq'
              subst ev
              exact ⟨rv, ⟨V.ref (s.heap.objs.size + 1), H', I3, rfl, q3⟩⟩
            | next => exact False.elim hq'
            | brk => exact False.elim hq'
            | cont => exact False.elim hq'
        split at e
        · rename_i c' fs ec
          split at e
          · rename_i hcc
            cases e
            subst hcc
            refine run ec fun F' H' v S hs hm hv => ⟨hv, ?_⟩
            obtain ⟨a, ea, na, oa⟩ := hm _ rfl
            have ea' : (some (V.ref (s.heap.objs.size + 1)) : Option V) = some (.ref a) := ea
            cases ea'
            obtain ⟨R', S'⟩ := both S hs
            have S2 := S'.frz hs (.inl ⟨rfl, rfl⟩)
            exact g _ H' _ ⟨S2.k1, S2.k2, S2.k3, fun b z => .inl (z.elim id False.elim)⟩ (R'.frz nO) (oa.frz hs)
          · cases e
        · rename_i x c' fs ec
          cases e
          refine run ec fun F' H' Cc d S hs hm hx => ?_
          obtain ⟨R', S'⟩ := both S hs
          exact g F' H' Cc d ⟨S'.k1, S'.k2, S'.k3, fun b z => .inl z⟩ R' hx
        · cases e
theorem make_at (c : Ctx ca fa Z T C nn lv X) (t : Tks nn X W) {k : Nat} {ds : List Dat} {us : List Value} {vs : List V} {Q : VK} (I : Inv X pins σ H s) (R : Rep ca F m σ H) (q : IsDs ca F ds vs) (rv : Vals vs us) (h : tK ca W (makeM T C k ds) F m σ H Q) :
    wpAny (model X.prog X.w) X.A (call (.ref (ca k)) us) (EP X pins σ Q) X.xe s := make_atk c t I R q rv (fun _ _ _ _ _ _ _ => .inl rfl) h
theorem de_mak (c : Ctx ca fa Z T C nn lv X) {k : Nat} (hG : Z.G.lookup x = some (.cls k)) (hg : glB X.env.scope x = true) (ha : DAn ca nn X es xs) (h0 : es = [] → xs = ret []) (hs : noStar es = true) :
    DEn ca nn X (.Call (.Name x p) es [] pos) (bnd xs fun rs => bnd (frzs rs) fun ds => makeM T C k ds) := fun W t => ⟨fun pins s σ H Q I h => by
  obtain ⟨h1, kp'⟩ := c.sta.nam x _ (mem_lookup hG)
  obtain ⟨g1, g2⟩ := glo_of hg
  refine wpAny_Call_Name_kw (ld_glob I g1 h1 ?_ g2)
  obtain ⟨F, m, R, h⟩ := h
  cases es with
  | nil =>
    rw [h0 rfl] at h
    exact PySem.W.callWith_K0 I.kIn kp' (make_at (ds := []) (vs := []) c t I R rfl .nil h)
  | cons e r =>
    obtain ⟨s1, s2⟩ := noStar_cons hs
    refine PySem.W.callWith_K (h₀ := X.base) I.ok.mod.kin kp' (thn ((ha W t).run pos pins s σ H _ I (tK_bndL R h)) fun us s1 ⟨vs, H1, I1, rv, rs, F1, m1, S, R1, q, k⟩ => ⟨I1.kIn, ?_⟩) (star_no s1) (plain_args s2)
    obtain ⟨ds, G, m2, S2, R2, q2, k2⟩ := tK_frzs R1 q k
    exact make_at c t I1 R2 q2 rv k2⟩
end
end SB
set_option maxRecDepth 100000
/-! SbGlo3: reads, isinstance, methods of texts and lists, append, pop, f-strings. -/
namespace SB
open PySem L2
section
variable {ca fa : Nat → Addr} {Z : Nam} {T : Tab} {C : Calls} {nn : Bool} {lv : Nat} {X : Cx} {F H : Hp} {m : Frm} {σ : St} {W : WX} {s : Shared} {pins : List (Addr × Obj)} {x f : PySem.Str} {p pos apos : Pos} {e o : Expr} {es : List Expr} {x0 y0 : M RV} {xs : M (List RV)}
theorem cx_never {mm : Bool} {P : Program} {w : World} {outer : List PySem.Env} {u : Value} {s s' : Shared} (h : CXn mm P w outer H s (fun _ _ _ => False) u s') : False := by
  cases mm with
  | true =>
    obtain ⟨a, B, H', cls, d, _, _, _, _, _, _, _, z⟩ := (show L2N.CX P w outer H s _ u s' from h)
    exact z
  | false =>
    obtain ⟨a, B, H', cls, d, _, _, _, _, _, _, _, z⟩ := (show L2.CX P w outer H s _ u s' from h)
    exact z
theorem callP_ok {g : Nat} {ds : List Dat} {Q : VK} (h : tK ca W (callP C g ds) F m σ H Q) : tK ca (fun _ _ _ _ => False) (callF C g ds) F m σ H Q := by
  obtain ⟨r, m', e, k⟩ := h
  unfold callP at e
  split at e
  · rename_i r0 mo q
    cases e
    refine ⟨.ok r0, m, ?_, k⟩
    show (match C g (ds.map .dat) with
      | some (r, _) => some (r, m)
      | none => none) = _
    rw [q]
  · cases e
/-- e.f, a property -/
theorem prop_at (c : Ctx ca fa Z T C nn lv X) {k g : Nat} {fd : Fd} {a dx pa : Addr} {fs : List (PySem.Str × V)} {ds : List Dat} {Q : VK} {E' : Value → Shared → Prop} (I : Inv X pins σ H s) (ea : H a = some (.ins (ca k) dx fs)) (cl : Cls X.K (ca k)) (hp : PropOf X.K (ca k) f pa (fa g))
    (hf : T.fns[g]? = some fd) (hm : fd.mt = false) (R : Rep ca F m σ H) (q : IsDs ca F ds [.ref a]) (h : tK ca W (callP C g ds) F m σ H Q) : wpAny (model X.prog X.w) X.A (getAttr (.ref a) f true) (EP X pins σ Q) E' s := by
  obtain ⟨mA, O, _, _, _, _⟩ := ins_get I.hok ea
  obtain ⟨od, J, _⟩ := O.look
  obtain ⟨rest, hrec⟩ := hp.rec_
  have I1 := I.tok (s.toks + 1)
  have hc : (PySem.W.clsIn X.K (ca k)).isSome = true := by
    obtain ⟨cd, hc, _⟩ := PySem.W.any_some cl.hd
    rw [hc]
    rfl
  have hr : Room (lv + 1) X.A := c.room.mono (by omega)
  obtain ⟨r, mo, ec, ge⟩ := call_end R q (callP_ok h)
  have ge := ge (c.ok.imm g fd _ r mo hf hm ec)
  refine PySem.W.get_bind I.kIn J (PySem.W.plainGet_of (cl.get f)).1 (PySem.W.findObj_data hc hp.at_ hp.get hp.tak) (PySem.W.plainGet_of (cl.get f)).2 (wpAny_call (PySem.W.prop_get (s := { s with toks := s.toks + 1 }) I.kIn hrec ?_))
  refine codeAny_mono (c.gp g fd hf X.A.in1 X.stack { s with toks := s.toks + 1 } H ⟨[.ref a], []⟩ [.ref a] [.ref a] F _ r mo Q _ c.gd hr.in1 I1.env0.in1 (.inl rfl) (.cons rfl .nil) (rep_args R.sub q) ec ge) fun r s' hq => ?_
  cases r with
  | error er => exact (cx_never hq).elim
  | ok fl =>
    cases fl with
    | ret u =>
      obtain ⟨v, H', I3, rv, q3⟩ := I1.after hq
      show wpAny _ _ (handedOut u) _ _ _
      rw [PySem.W.handedOut_of (handed_of rv)]
      exact wpAny_pure ⟨v, H', I3, rv, q3⟩
    | next => exact False.elim hq
    | brk => exact False.elim hq
    | cont => exact False.elim hq
theorem fs_get {f : PySem.Str} {d : Dat} : ∀ {fs : List (PySem.Str × Dat)} {fvs : List (PySem.Str × V)}, IsFs ca F fs fvs → fs.lookup f = some d → ∃ v, fvs.lookup f = some v ∧ IsD ca F d v
  | [], fvs, h, e => by cases e
  | (g, u) :: r, fvs, ⟨x, ys, e1, q, t⟩, e => by
    subst e1
    rw [List.lookup_cons] at e ⊢
    cases hg : f == g with
    | true =>
      rw [hg] at e
      simp only at e ⊢
      cases e
      exact ⟨x, rfl, q⟩
    | false =>
      rw [hg] at e
      simp only at e ⊢
      exact fs_get t e
theorem de_att (c : Ctx ca fa Z T C nn lv X) (he : DEn ca nn X e x0) (ha : attrOk e = true) : DEn ca nn X (.Attribute e f pos) (bnd x0 fun x => bnd (look (prj x)) fun d => attV T C (prj x) d f) := fun W t => ⟨fun pins s σ H Q I ⟨F, m, R, h⟩ => by
  refine attr_of (base_ok ha) (thn ((he W t).run pins s σ H _ I (tK_bnd R h)) fun u s1 ⟨v, H1, I1, rx, r, F1, m1, S1, R1, p1, k1⟩ => ?_)
  obtain ⟨d, _, q, k⟩ := tK_look R1 p1 k1
  cases d with
  | obj k0 fs =>
    obtain ⟨a, dx, fvs, ev, ea, hfs⟩ := q
    subst ev
    obtain rfl : u = Value.ref a := rx
    simp only [attV] at k
    cases hc : T.cls[k0]? with
    | none => rw [hc] at k; exact (tK_none k).elim
    | some cd =>
      rw [hc] at k
      simp only at k
      cases hx : cd.exc with
      | true => simp only [hx, if_true] at k; exact (tK_none k).elim
      | false =>
        have io := c.sta.ins k0 cd hc hx
        simp only [hx, Bool.false_eq_true, if_false] at k
        cases hfl : cd.flds.contains f with
        | true =>
          simp only [hfl, if_true] at k
          obtain ⟨r', er, fin⟩ := tK_lft k
          cases hl : fs.lookup f with
          | none => rw [hl] at er; cases er
          | some d' =>
            rw [hl] at er
            cases er
            obtain ⟨v', e1, q1⟩ := fs_get hfs hl
            exact getattr_ok I1 ea io.cl (io.flds f (by simpa using hfl)) e1 fun u' s2 I2 ru => ⟨v', H1, I2, ru, fin.flat R1 q1⟩
        | false =>
          simp only [hfl, Bool.false_eq_true, if_false] at k
          cases hp : cd.props.lookup f with
          | none => rw [hp] at k; exact (tK_none k).elim
          | some g =>
            rw [hp] at k
            simp only at k
            obtain ⟨⟨pa, hpr⟩, fd, hf, hm⟩ := io.props f g (mem_lookup hp)
            obtain ⟨d', G, m2, S2, R2, q2, k2⟩ := tK_frz R1 p1 k
            exact prop_at c I1 ea io.cl hpr hf hm R2 (.one q2) k2
  | _ => exact (tK_none k).elim⟩
/-! ### isinstance -/
theorem kit_tab : ∀ n ∈ isiNames, ∀ t ∈ tyNames, kitB t n = some (decide (t = n) || (decide (t = "bool") && decide (n = "int"))) := by decide +kernel
def TyD (K : PySem.W.Frag) (H : Hp) (v : V) : Dat → Prop
  | .non => TyX K H v (.type "NoneType")
  | .bl _ => TyX K H v (.type "bool")
  | .int _ => TyX K H v (.type "int")
  | .str _ => TyX K H v (.type "str")
  | .tup _ => TyX K H v (.type "tuple")
  | .lst _ => TyX K H v (.type "list")
  | .dic _ => TyX K H v (.type "dict")
  | _ => True
theorem tyx_of {d : Dat} {v : V} {K : PySem.W.Frag} (hs : Same F H) (q : AtD ca F H d v) : TyD K H v d := by
  cases d with
  | non => have e : v = V.non := q; subst e; exact .base .non
  | bl b => have e : v = V.bl b := q; subst e; exact .base (.bl b)
  | int i => have e : v = V.int i := q; subst e; exact .base (.int i)
  | str z => have e : v = V.str z := q; subst e; exact .base (.str z)
  | tup l =>
    obtain ⟨a, ys, e, h, _⟩ := q
    subst e
    exact .base (.tup (hs _ _ h))
  | lst l =>
    obtain ⟨a, ys, e, h, _⟩ := q
    subst e
    rcases h with h | ⟨o, h⟩
    · exact .base (.lst h)
    · exact .base (.frz h)
  | dic l =>
    obtain ⟨a, ys, e, h, _⟩ := q
    subst e
    exact .base (.dK h)
  | _ => exact trivial
/-- the class, as a value of the machine -/
def clV (ca : Nat → Addr) : Cl → V
  | .ty n => .ty n
  | .own k => .ref (ca k)
theorem kit_own {K : PySem.W.Frag} {n t : String} {b : Bool} (hn : n ∈ isiNames) (ht : t ∈ tyNames) (hb : (decide (t = n) || (decide (t = "bool") && decide (n = "int"))) = b) : PySem.W.kitOne K (.type t) (.type n) = some b := by
  subst hb
  exact kit_ty (kit_tab n hn t ht)
theorem isi_val {b : Bool} {cl : Cl} {d : Dat} {v : V} {Q : VK} (c : Ctx ca fa Z T C nn lv X) (R : Rep ca F m σ H) (q : AtD ca F H d v) (e : isiV T d cl = some b) (k : Q (.bl b) H) : rIsi X.K [v, clV ca cl] H Q := by
  have tt := tyx_of (K := X.K) R.sub q
  cases cl with
  | ty n =>
    simp only [isiV] at e
    split at e
    · rename_i hn
      have hn' : n ∈ isiNames := by
        simp only [isiNames, List.mem_cons, List.not_mem_nil, or_false]
        exact hn
      have fin : ∀ {t : String} {bb : Bool}, TyX X.K H v (.type t) → t ∈ tyNames → (decide (t = n) || (decide (t = "bool") && decide (n = "int"))) = b → rIsi X.K [v, clV ca (.ty n)] H Q := fun {t bb} h1 h2 h3 =>
        ⟨v, .ty n, .type t, .type n, b, rfl, .ty n, h1, kit_own hn' h2 h3, k⟩
      cases d with
      | non => cases e; exact fin (bb := true) tt (by decide) (by rcases hn with h | h | h | h | h <;> subst h <;> decide)
      | bl _ => cases e; exact fin (bb := true) tt (by decide) (by rcases hn with h | h | h | h | h <;> subst h <;> decide)
      | int _ => cases e; exact fin (bb := true) tt (by decide) (by rcases hn with h | h | h | h | h <;> subst h <;> decide)
      | str _ => cases e; exact fin (bb := true) tt (by decide) (by rcases hn with h | h | h | h | h <;> subst h <;> decide)
      | tup _ => cases e; exact fin (bb := true) tt (by decide) (by rcases hn with h | h | h | h | h <;> subst h <;> decide)
      | lst _ => cases e; exact fin (bb := true) tt (by decide) (by rcases hn with h | h | h | h | h <;> subst h <;> decide)
      | dic _ => cases e; exact fin (bb := true) tt (by decide) (by rcases hn with h | h | h | h | h <;> subst h <;> decide)
      | obj k0 fs =>
        obtain ⟨a, dx, fvs, ev, ea, _⟩ := q
        subst ev
        simp only at e
        cases hc : T.cls[k0]? with
        | none => rw [hc] at e; cases e
        | some cd =>
          rw [hc] at e
          simp only at e
          cases hx : cd.exc with
          | true => simp [hx] at e
          | false =>
            cases hi : cd.isb with
            | false => simp [hi] at e
            | true =>
              simp only [hx, hi, Bool.not_false, Bool.and_self, if_true] at e
              cases e
              have io := c.sta.ins k0 cd hc hx
              obtain ⟨⟨h1, h2, h3, h4⟩, h5, _⟩ := io.isb hi
              exact ⟨_, .ty n, .ref (ca k0), .type n, false, rfl, .ty n, .base (.ins ea io.cl h1 h2 h3 h4), h5 n hn', k⟩
      | _ => cases e
    · cases e
  | own k1 =>
    have rest : ∀ {t : String}, (match T.cls[k1]? with | some cd => if cd.isn then some false else none | none => none) = some b → TyX X.K H v (.type t) → t ∈ tyNames → rIsi X.K [v, clV ca (.own k1)] H Q := fun {t} e h1 h2 => by
      cases hc : T.cls[k1]? with
      | none => rw [hc] at e; cases e
      | some cd =>
        rw [hc] at e
        simp only at e
        cases hi : cd.isn with
        | false => simp [hi] at e
        | true =>
          simp only [hi, if_true] at e
          cases e
          exact ⟨v, .ref (ca k1), .type t, .ref (ca k1), false, rfl, .own _, h1, c.sta.isn k1 cd hc hi t h2, k⟩
    cases d with
    | non => exact rest e tt (by decide)
    | bl _ => exact rest e tt (by decide)
    | int _ => exact rest e tt (by decide)
    | str _ => exact rest e tt (by decide)
    | tup _ => exact rest e tt (by decide)
    | lst _ => exact rest e tt (by decide)
    | dic _ => exact rest e tt (by decide)
    | obj k0 fs =>
      obtain ⟨a, dx, fvs, ev, ea, _⟩ := q
      subst ev
      simp only [isiV] at e
      cases hc : T.cls[k0]? with
      | none => rw [hc] at e; cases e
      | some cd =>
        rw [hc] at e
        simp only at e
        cases hx : cd.exc with
        | true => simp [hx] at e
        | false =>
          cases hi : cd.isb with
          | false => simp [hi] at e
          | true =>
            simp only [hx, hi, Bool.not_false, Bool.and_self, if_true] at e
            have io := c.sta.ins k0 cd hc hx
            obtain ⟨⟨h1, h2, h3, h4⟩, _, h5⟩ := io.isb hi
            exact ⟨_, .ref (ca k1), .ref (ca k0), .ref (ca k1), b, rfl, .own _, .base (.ins ea io.cl h1 h2 h3 h4), h5 k1 b (mem_lookup e), k⟩
    | _ => cases e
theorem blt_mg (c : Ctx ca fa Z T C nn lv X) {y : PySem.Str} (hy : y ∈ bltNames) (h : Z.G.lookup y = none) : X.mg y = none := c.sta.blt y hy (by rw [h]; rfl)
/-- the name of a class -/
theorem pe_cls (c : Ctx ca fa Z T C nn lv X) {te : Expr} {cl : Cl} (h : clOf Z X.env.scope te = some cl) : PE X te (tC (clV ca cl)) ∧ starB te = false := by
  unfold clOf at h
  split at h
  · rename_i y q
    refine ⟨?_, rfl⟩
    split at h
    · rename_i hg
      obtain ⟨g1, g2⟩ := glo_of hg
      split at h
      · rename_i k hk
        cases h
        exact pe_glob g1 (c.sta.nam y _ (mem_lookup hk)).1 rfl g2
      · rename_i hk
        split at h
        · rename_i ey; subst ey; cases h; exact pe_bltn g1 (blt_mg c (by decide) hk) (by decide +kernel) rfl
        split at h
        · rename_i ey; subst ey; cases h; exact pe_bltn g1 (blt_mg c (by decide) hk) (by decide +kernel) rfl
        split at h
        · rename_i ey; subst ey; cases h; exact pe_bltn g1 (blt_mg c (by decide) hk) (by decide +kernel) rfl
        split at h
        · rename_i ey; subst ey; cases h; exact pe_bltn g1 (blt_mg c (by decide) hk) (by decide +kernel) rfl
        split at h
        · rename_i ey; subst ey; cases h; exact pe_bltn g1 (blt_mg c (by decide) hk) (by decide +kernel) rfl
        · cases h
      · cases h
    · cases h
  · cases h
theorem de_isi (c : Ctx ca fa Z T C nn lv X) {te : Expr} {cl : Cl} (hk : Z.G.lookup ("isinstance" : PySem.Str) = none) (hg : glB X.env.scope "isinstance" = true) (he : DEn ca nn X e x0) (hs : starB e = false) (h : clOf Z X.env.scope te = some cl) :
    DEn ca nn X (.Call (.Name "isinstance" p) [e, te] [] pos) (bnd x0 fun x => bnd (look (prj x)) fun d => lft ((isiV T d cl).map fun b => .dat (.bl b))) := fun W t => by
  obtain ⟨g1, g2⟩ := glo_of hg
  obtain ⟨h1, h2⟩ := pe_cls c h
  refine PE.imp (pe_callB call_isi g1 (blt_mg c (by decide) hk) (by decide +kernel) (pa_cons (he W t) (pa_cons h1 pa_nil (star_no h2)) (star_no hs)) (he := star_no hs) (hpl := plain_args (es := [te]) (by unfold noStar; simp [h2]))) fun σ H Q ⟨F, m, R, h⟩ => ?_
  refine tE_mono (tK_bnd R h) fun v H1 ⟨r, F1, m1, S1, R1, p1, k1⟩ => ?_
  obtain ⟨d, _, q, k⟩ := tK_look R1 p1 k1
  obtain ⟨r', er, fin⟩ := tK_lft k
  cases eb : isiV T d cl with
  | none => rw [eb] at er; cases er
  | some b =>
    rw [eb] at er
    cases er
    exact isi_val c R1 q eb (fin.flat R1 rfl)
end
end SB
set_option maxRecDepth 100000
/-! SbGlo4: methods of texts and lists, append, pop, f-strings, slices. -/
namespace SB
open PySem L2
section
variable {ca fa : Nat → Addr} {Z : Nam} {T : Tab} {C : Calls} {nn : Bool} {lv : Nat} {X : Cx} {F H : Hp} {m : Frm} {σ : St} {W : WX} {s : Shared} {pins : List (Addr × Obj)} {x f : PySem.Str} {p pos apos : Pos} {e o : Expr} {es : List Expr} {x0 y0 z0 : M RV} {xs : M (List RV)}
/-- what a slot's own object becomes -/
theorem own_write {J : Hp} {i : Nat} {d d' : Dat} {a : Addr} (R : Rep ca F m σ H) (hi : m[i]? = some (some (.own d))) (ha : σ[i]? = some (some (.ref a))) (hJ : ∀ b, b ≠ a → J b = H b) (o : OwnAt ca F J a d') :
    Since F H (Own m σ) F J (Own (m.set i (some (.own d'))) σ) ∧ Rep ca F (m.set i (some (.own d'))) σ J := by
  obtain ⟨a', e1, ow, n, o1⟩ := R.owns hi
  rw [ha] at e1
  cases e1
  have S : Since F H (fun b => b = a) F J (fun b => b = a) := ⟨Same.refl F, fun b u e q => by rw [hJ b q]; exact e, fun b u e => .inl e, fun b z => .inl z⟩
  have hs : Same F J := fun b u e => by
    have hb : b ≠ a := fun z => by subst z; rw [n] at e; cases e
    rw [hJ b hb]
    exact R.sub b u e
  obtain ⟨R', back⟩ := R.put S hs hi ha (fun b _ q z => q z) n o
  exact ⟨⟨S.k1, fun b u e q => S.k2 b u e fun z => q (by rw [z]; exact ow), fun b u e => .inl e, fun b z => .inl (back b z)⟩, R'⟩
theorem looks_at : ∀ {rs : List RV} {vs : List V} {m' : Frm} {r : Except Exn (List Dat)}, Rep ca F m σ H → IsPs ca F σ rs vs → looks rs m = some (r, m') → ∃ ds, r = .ok ds ∧ m' = m ∧ AtDs ca F H ds vs
  | [], vs, m', r, R, p, e => by
    cases e
    have p' : vs = [] := p
    subst p'
    exact ⟨[], rfl, rfl, rfl⟩
  | a :: rs, vs, m', r, R, ⟨v, ys, ev, p1, p2⟩, e => by
    subst ev
    cases hd : peek m a with
    | none => simp only [looks, bnd, look, hd] at e; cases e
    | some d =>
      simp only [looks, bnd, look, hd] at e
      cases hl : looks rs m with
      | none => rw [hl] at e; cases e
      | some q =>
        obtain ⟨r1, m1⟩ := q
        obtain ⟨ds, e1, e2, e3⟩ := looks_at R p2 hl
        subst e1 e2
        rw [hl] at e
        cases e
        exact ⟨d :: ds, rfl, rfl, v, ys, rfl, peek_at R p1 hd, e3⟩
theorem tK_looks {rs : List RV} {vs : List V} {g : List Dat → M RV} {Q : VK} (R : Rep ca F m σ H) (p : IsPs ca F σ rs vs) (h : tK ca W (bnd (looks rs) g) F m σ H Q) : ∃ ds, looks rs m = some (.ok ds, m) ∧ AtDs ca F H ds vs ∧ tK ca W (g ds) F m σ H Q := by
  obtain ⟨r, m', e, k⟩ := h
  rcases bnd_ok e with ⟨y, m1, e1, e2⟩ | ⟨ds, m1, e1, e2⟩
  · obtain ⟨d, ed, _⟩ := looks_at R p e1
    cases ed
  · obtain ⟨d, ed, em, q⟩ := looks_at R p e1
    cases ed
    subst em
    exact ⟨ds, e1, q, r, m', e2, k⟩
def mfT : Mf → String
  | .index => "list"
  | .count => "list"
  | _ => "str"
theorem metK_ty {f : Mf} {d : Dat} {v : V} {u : Unit} {K : PySem.W.Frag} (R : Rep ca F m σ H) (q : AtD ca F H d v) (e : metK f d = some u) : tyV K (mfT f) v H := by
  cases f <;> cases d <;> first
    | (cases e; done)
    | (have ev : v = V.str _ := q; subst ev; exact rfl)
    | skip
  obtain ⟨a, ys, ev, hs, _⟩ := at_seq (K := K) R.sub (.inl rfl) q
  subst ev
  obtain ⟨a', ys', ev', ha', _⟩ := q
  cases ev'
  exact .inl ⟨rfl, ys', .inl ha'⟩
theorem de_met {mf : Mf} {a : Expr} (hm : mfOf f = some mf) (ho : DEn ca nn X o x0) (he : DEn ca nn X a y0) (hb : attrOk o = true) (hs : starB a = false) (hl : (apos.endLine == pos.line) = true) :
    DEn ca nn X (.Call (.Attribute o f apos) [a] [] pos) (bnd x0 fun x => bnd (look (prj x)) fun d0 => bnd (lft (metK mf d0)) fun _ => bnd (bnd y0 fun r => bnd (ret []) fun rs => ret (prj r :: rs)) fun rs => bnd (look (prj x)) fun d => bnd (looks rs) fun ds => lft (metV mf d ds)) := fun W t => by
  have go : ∀ {id : String} (slot : Slot (mfT mf) f id) (pa : PlainAttrs (mfT mf)) (hty : typeOf (.builtin id) = pure (.type "method_descriptor")), MtR X id (VM ca (metV mf)) → PE X (.Call (.Attribute o f apos) [a] [] pos) (tE ca W (bnd x0 fun x => bnd (look (prj x)) fun d0 => bnd (lft (metK mf d0)) fun _ => bnd (bnd y0 fun r => bnd (ret []) fun rs => ret (prj r :: rs)) fun rs => bnd (look (prj x)) fun d => bnd (looks rs) fun ds => lft (metV mf d ds))) := fun {id} slot pa hty rule => by
    refine PE.imp (pe_bm pa slot hty rule (ho W t) (pa_cons (he W t) pa_nil (star_no hs)) (base_ok hb) (by rw [star_no hs]; rfl) hl (star_no hs) rfl) fun σ H Q ⟨F, m, R, h⟩ => ?_
    refine tE_mono (tK_bnd R h) fun v H1 ⟨r, F1, m1, S1, R1, p1, k1⟩ => ?_
    obtain ⟨d0, _, q, k2⟩ := tK_look R1 p1 k1
    obtain ⟨u0, eu, k3⟩ := tK_lftB k2
    refine ⟨metK_ty R1 q eu, ?_⟩
    have k4 : tK ca W (bnd y0 fun r1 => bnd (look (prj r)) fun d => bnd (looks [prj r1]) fun ds => lft (metV mf d ds)) F1 m1 σ H1 Q := by
      obtain ⟨r', m', e, k⟩ := k3
      refine ⟨r', m', ?_, k⟩
      rw [← e]
      simp only [bnd]
      cases y0 m1 with
      | none => rfl
      | some q =>
        obtain ⟨w, m2⟩ := q
        cases w <;> rfl
    show tE ca W y0 σ H1 _
    refine tE_mono (tK_bnd R1 k4) fun w H2 ⟨r1, F2, m2, S2, R2, p2, k5⟩ => ?_
    obtain ⟨d, _, q1, k6⟩ := tK_look R2 (IsP.mono S2.k1 p1) k5
    obtain ⟨ds, _, q2, k7⟩ := tK_looks (rs := [prj r1]) (vs := [w]) R2 ⟨w, [], rfl, p2, rfl⟩ k6
    obtain ⟨r', er, fin⟩ := tK_lft k7
    exact ⟨F2, m2, σ, d, ds, r', R2, q1, q2, er, fin⟩
  unfold mfOf at hm
  split at hm
  · rename_i ef; subst ef; cases hm; exact go (id := "str.split") F.slot_str_split F.plainAttrs_str F.type_str_split mt_splitA
  split at hm
  · rename_i ef; subst ef; cases hm; exact go (id := "str.join") F.slot_str_join F.plainAttrs_str F.type_str_join mt_joinA
  split at hm
  · rename_i ef; subst ef; cases hm; exact go (id := "str.partition") F.slot_str_partition F.plainAttrs_str F.type_str_partition mt_partitionA
  split at hm
  · rename_i ef; subst ef; cases hm; exact go (id := "str.endswith") F.slot_str_endswith F.plainAttrs_str F.type_str_endswith mt_endswithA
  split at hm
  · rename_i ef; subst ef; cases hm; exact go (id := "list.index") F.slot_list_index F.plainAttrs_list F.type_list_index mt_indexA
  · cases hm
theorem okN_2 {x : PySem.Str} (hx : okN x = true) : (x == ("__debug__" : PySem.Str)) = false ∧ (x == ("__classdict__" : PySem.Str)) = false := by
  unfold okN at hx
  rw [Bool.and_eq_true, Bool.not_eq_true', Bool.not_eq_true'] at hx
  exact hx
/-- the check ahead: the slot holds an own list -/
def ownL (i : Nat) : M Unit := lft' fun m => match m[i]? with | some (some (.own (.lst _))) => some () | _ => none
theorem ownL_at {i : Nat} {g : Unit → M RV} {Q : VK} (R : Rep ca F m σ H) (h : tK ca W (bnd (ownL i) g) F m σ H Q) : ∃ a xs, σ[i]? = some (some (.ref a)) ∧ H a = some (.lst xs) ∧ tK ca W (g ()) F m σ H Q := by
  obtain ⟨r, m', e, k⟩ := h
  unfold bnd ownL lft' at e
  split at e
  · cases e
  · cases e
    rename_i e1
    split at e1
    · cases e1
    · cases e1
  · rename_i u m1 e1
    split at e1
    · cases e1
    · rename_i z hz
      cases e1
      dsimp only at hz
      split at hz
      · rename_i l hl
        obtain ⟨a, ea, _, n, o⟩ := R.owns hl
        obtain ⟨xs, hx, _⟩ := o
        exact ⟨a, xs, ea, hx, r, m', e, k⟩
      · cases hz
theorem de_app {i : Nat} {a : Expr} (hN : X.N[i]? = some x) (hv : visB X.env.scope x = true) (hx : okN x = true) (he : DEn ca nn X a y0) (hs : starB a = false) (hl : (apos.endLine == pos.line) = true) :
    DEn ca nn X (.Call (.Attribute (.Name x p) "append" apos) [a] [] pos) (bnd (ownL i) fun _ => bnd y0 fun x => bnd (frz (prj x)) fun d => fun m => match m[i]? with
    | some (some (.own (.lst l))) => if l.length < sizeLine then some (.ok (.dat .non), m.set i (some (.own (.lst (l ++ [d]))))) else none
    | _ => none) := fun W t => by
  obtain ⟨x1, x2⟩ := okN_2 hx
  refine PE.imp (pe_bm (T := "list") F.plainAttrs_list F.slot_list_append F.type_list_append mt_append (pe_var hN (vis_of hv) x1 x2) (pa_cons (he W t) pa_nil (star_no hs)) rfl (by rw [star_no hs]; rfl) hl (star_no hs) rfl) fun σ H Q ⟨F, m, R, h⟩ => ?_
  obtain ⟨p, zs, ep, hp, k⟩ := ownL_at R h
  refine ⟨_, ep, .inl ⟨rfl, zs, .inl (.inl hp)⟩, ?_⟩
  show tE ca W y0 σ H _
  refine tE_mono (tK_bnd R k) fun w H2 ⟨r1, F2, m2, S2, R2, p2, k5⟩ => ?_
  obtain ⟨d, G, m3, S3, R3, q3, k6⟩ := tK_frz R2 p2 k5
  obtain ⟨r, m', e, g⟩ := k6
  simp only at e
  split at e
  · rename_i l hl
    split at e
    · rename_i hlen
      cases e
      obtain ⟨a', ea, _, n, ys, hy, qs⟩ := R3.owns hl
      rw [ep] at ea
      cases ea
      have hq : OwnAt ca G (upd H2 p (.lst (ys ++ [w]))) p (.lst (l ++ [d])) := ⟨ys ++ [w], upd_same, qs.app (.one q3)⟩
      obtain ⟨S4, R4⟩ := own_write R3 hl ep (fun b hb => upd_ne hb) hq
      exact ⟨p, ys, w, rfl, rfl, hy, by rw [qs.len]; exact hlen, g G _ _ (S4.less fun b z => z.elim id False.elim) R4 rfl⟩
    · cases e
  · cases e
theorem de_pop {i : Nat} {a : Expr} (hN : X.N[i]? = some x) (hv : visB X.env.scope x = true) (hx : okN x = true) (he : DEn ca nn X a y0) (hs : starB a = false) (hl : (apos.endLine == pos.line) = true) :
    DEn ca nn X (.Call (.Attribute (.Name x p) "pop" apos) [a] [] pos) (bnd (ownL i) fun _ => bnd y0 fun x => fun m => match x, m[i]? with
    | .dat (.int 0), some (some (.own (.lst (d :: r)))) => some (.ok (.dat d), m.set i (some (.own (.lst r))))
    | _, _ => none) := fun W t => by
  obtain ⟨x1, x2⟩ := okN_2 hx
  refine PE.imp (pe_bm (T := "list") F.plainAttrs_list F.slot_list_pop F.type_list_pop mt_popAt (pe_var hN (vis_of hv) x1 x2) (pa_cons (he W t) pa_nil (star_no hs)) rfl (by rw [star_no hs]; rfl) hl (star_no hs) rfl) fun σ H Q ⟨F, m, R, h⟩ => ?_
  obtain ⟨p, zs, ep, hp, k⟩ := ownL_at R h
  refine ⟨_, ep, .inl ⟨rfl, zs, .inl (.inl hp)⟩, ?_⟩
  show tE ca W y0 σ H _
  refine tE_mono (tK_bnd R k) fun w H2 ⟨r1, F2, m2, S2, R2, p2, k5⟩ => ?_
  obtain ⟨r, m', e, g⟩ := k5
  simp only at e
  split at e
  · rename_i d l hl
    cases e
    obtain ⟨a', ea, _, n, ys, hy, qs⟩ := R2.owns hl
    rw [ep] at ea
    cases ea
    obtain ⟨y, ys', ey, qy, qr⟩ := qs
    subst ey
    have hq : OwnAt ca F2 (upd H2 p (.lst ys')) p (.lst l) := ⟨ys', upd_same, qr⟩
    obtain ⟨S4, R4⟩ := own_write R2 hl ep (fun b hb => upd_ne hb) hq
    have ew : w = V.int 0 := p2
    subst ew
    refine ⟨p, y :: ys', 0, 0, y, rfl, rfl, hy, by decide, by decide, ?_, rfl, g F2 _ y (S4.less fun b z => z.elim id False.elim) R4 qy⟩
    simp [seqIndex?]
  · cases e
theorem de_fmt (he : DEn ca nn X e x0) : DEn ca nn X (.FormattedValue e (-1) none pos) (bnd x0 fun x => bnd (look (prj x)) fun d => lft (match strV d with
    | some s => if s.length ≤ sizeLine then some (.dat (.str s)) else none
    | none => none)) := fun W t => PE.imp (pe_fmt (he W t)) fun σ H Q ⟨F, m, R, h⟩ => tE_mono (tK_bnd R h) fun v H1 ⟨r, F1, m1, S1, R1, p1, k1⟩ => by
  obtain ⟨d, _, q, k2⟩ := tK_look R1 p1 k1
  obtain ⟨r', er, fin⟩ := tK_lft k2
  cases d with
  | int i =>
    simp only [strV] at er
    split at er
    · rename_i z hz
      split at hz
      · rename_i hlog
        cases hz
        split at er
        · cases er
          exact .inr ⟨i, q, hlog, fin.flat R1 rfl⟩
        · cases er
      · cases hz
    · cases er
  | str z =>
    simp only [strV] at er
    split at er
    · rename_i hz
      cases er
      exact .inl ⟨z, q, hz, fin.flat R1 rfl⟩
    · cases er
  | _ => cases er
theorem js_run : ∀ {es : List Expr} {g : Expr → M RV} {acc : PySem.Str} {σ : St} {H : Hp} {Q : VK}, Tks nn X W → (∀ e ∈ es, DEn ca nn X e (g e)) → tE ca W (jstL (es.map g) acc) σ H Q →
    ∃ ts, PJ X es ts ∧ tJs ts acc σ H fun out H1 => Q (.str out) H1
  | [], g, acc, σ, H, Q, t, hg, ⟨F, m, R, h⟩ => ⟨[], .nil, (tK_ret h).flat R rfl⟩
  | e :: r, g, acc, σ, H, Q, t, hg, ⟨F, m, R, h⟩ => by
    have key : ∀ (es : List Expr), (∀ e ∈ es, DEn ca nn X e (g e)) → PJ X es (es.map fun e => tE ca W (g e)) := fun es => by
      induction es with
      | nil => exact fun _ => .nil
      | cons e r ih => exact fun h => .cons (h e List.mem_cons_self W t) (ih fun e' he => h e' (List.mem_cons_of_mem _ he))
    refine ⟨_, key (e :: r) hg, ?_⟩
    have run : ∀ (es : List Expr) (acc : PySem.Str) (F : Hp) (m : Frm) (H : Hp), Rep ca F m σ H → tK ca W (jstL (es.map g) acc) F m σ H Q → tJs (es.map fun e => tE ca W (g e)) acc σ H fun out H1 => Q (.str out) H1 := fun es => by
      induction es with
      | nil => exact fun acc F m H R h => (tK_ret h).flat R rfl
      | cons e r ih =>
        intro acc F m H R h
        show tE ca W (g e) σ H _
        refine tE_mono (tK_bnd (g := fun v => match v with
          | .dat (.str y) => if (acc ++ y).length ≤ sizeLine then jstL (r.map g) (acc ++ y) else fun _ => none
          | _ => fun _ => none) R h) fun v H1 ⟨r1, F1, m1, S1, R1, p1, k1⟩ => ?_
        split at k1
        · rename_i y
          split at k1
          · rename_i hy
            exact ⟨y, p1, hy, ih (acc ++ y) F1 m1 H1 R1 k1⟩
          · exact (tK_none k1).elim
        · exact (tK_none k1).elim
    exact run (e :: r) acc F m H R h
theorem de_jst {e1 e2 : Expr} {r : List Expr} {g : Expr → M RV} (hg : ∀ e ∈ e1 :: e2 :: r, DEn ca nn X e (g e)) : DEn ca nn X (.JoinedStr (e1 :: e2 :: r) pos) (jstL ((e1 :: e2 :: r).map g) Str.empty) := fun W t => ⟨fun pins s σ H Q I h => by
  obtain ⟨ts, pj, k⟩ := js_run (σ := σ) t hg h
  exact (pe_joined pj).run pins s σ H Q I k⟩
end
end SB
set_option maxRecDepth 100000
/-! SbGlo5: built-in functions, subscripts, slices. -/
namespace SB
open PySem L2
section
variable {ca fa : Nat → Addr} {Z : Nam} {T : Tab} {C : Calls} {nn : Bool} {lv : Nat} {X : Cx} {F H : Hp} {m : Frm} {σ : St} {W : WX} {s : Shared} {pins : List (Addr × Obj)} {x f : PySem.Str} {p pos apos : Pos} {a b e o : Expr} {es : List Expr} {x0 y0 z0 : M RV} {xs : M (List RV)}
/-- a method of an instance, its arguments at hand -/
theorem spec_at (c : Ctx ca fa Z T C nn lv X) (t : Tks nn X W) {nm : PySem.Str} {k : Nat} {rs : List RV} {us : List Value} {vs : List V} {Q : VK} (I : Inv X pins σ H s) (R : Rep ca F m σ H) (q : IsPs ca F σ rs vs) (rv : Vals vs us) (h : tK ca W (specM T C nm k rs) F m σ H Q) :
    ∃ g, Meth X.K (ca k) nm (fa g) ∧ PySem.W.fnIn X.K (fa g) = true ∧ Cls X.K (ca k) ∧ PySem.W.noSeq X.K (ca k) = true ∧ ∀ A : Around, Room lv A → A.guards = some [] → Env0 X.prog X.w X.K X.mg X.base A X.stack s H → wpAny (model X.prog X.w) A (call (.ref (fa g)) us) (EP X pins σ Q) X.xe s := by
  unfold specM at h
  cases hc : T.cls[k]? with
  | none => rw [hc] at h; exact (tK_none h).elim
  | some cd =>
    rw [hc] at h
    simp only at h
    cases hx : cd.exc with
    | true => simp only [hx, if_true] at h; exact (tK_none h).elim
    | false =>
      have io := c.sta.ins k cd hc hx
      simp only [hx, Bool.false_eq_true, if_false] at h
      cases hp : cd.mets.lookup nm with
      | none => rw [hp] at h; exact (tK_none h).elim
      | some g =>
        rw [hp] at h
        simp only at h
        obtain ⟨h1, h2, fd, hf, hm⟩ := io.mets nm g (mem_lookup hp)
        obtain ⟨ds, G, m2, S2, R2, q2, k2⟩ := tK_frzs R q h
        exact ⟨g, h1, h2, io.cl, io.noSeq, fun A hA hg e0 => call_at c t hA hg e0 hf hm I R2 q2 rv k2⟩
theorem tKZ_lft {Y : Addr → Prop} {r : Option RV} {Q : VK} (h : tKZ ca Y W (lft r) F m σ H Q) : ∃ a, r = some a ∧ ∀ d v, a = .dat d → Rep ca F m σ H → IsD ca F d v → Q v H := by
  obtain ⟨r', m', e, k⟩ := h
  cases r with
  | none => cases e
  | some a =>
    cases e
    refine ⟨a, rfl, fun d v ea R q => ?_⟩
    subst ea
    exact k F H v ⟨Same.refl F, fun b o e _ => e, fun b o e => .inl e, fun b z => .inl (z.elim .inl False.elim)⟩ R q
theorem fr_of (I : Inv X pins σ H s) : ∃ n, PyProof.Rows.Fr X.base X.env.locals s.heap n := by
  obtain ⟨n, hn, _⟩ := I.loc
  exact ⟨n, hn, I.bk, Nat.le_trans I.ok.bsz I.ok.above⟩
def bfV : Bf → Value
  | .len => .builtin "len"
  | .abs => .builtin "abs"
  | .int => .type "int"
  | .str => .type "str"
  | .repr => .builtin "repr"
  | .tuple => .type "tuple"
  | .list => .type "list"
  | .max => .builtin "max"
  | .min => .builtin "min"
  | .divmod => .builtin "divmod"
  | .all => .builtin "all"
  | .any => .builtin "any"
  | .bool => .type "bool"
theorem bf_call (c : Ctx ca fa Z T C nn lv X) : ∀ bf, CallR X (bfV bf) (VL ca (bltV bf))
  | .len => call_lenA
  | .abs => call_absA
  | .int => call_intA
  | .str => call_strA
  | .repr => call_reprA c.hu c.gd
  | .tuple => call_tupleA
  | .list => call_listA
  | .max => call_maxA c.calm
  | .min => call_minA c.calm
  | .divmod => call_divmodA
  | .all => call_allA c.calm
  | .any => call_anyA c.calm
  | .bool => fun P s1 σ1 H xs us Q I rs ⟨F, m, σ, ds, r, R, as, e, k⟩ => by cases e
theorem blt_at (c : Ctx ca fa Z T C nn lv X) (t : Tks nn X W) {bf : Bf} {ds : List Dat} {rs : List RV} {us : List Value} {vs : List V} {Q : VK} (I : Inv X pins σ H s) (R : Rep ca F m σ H) (q : IsPs ca F σ rs vs) (as : AtDs ca F H ds vs) (rv : Vals vs us) (k : tK ca W (bltM T C bf rs ds) F m σ H Q) :
    wpAny (model X.prog X.w) X.A (call (bfV bf) us) (EP X pins σ Q) X.xe s := by
  have pure_ : bltM T C bf rs ds = lft (bltV bf ds) → wpAny (model X.prog X.w) X.A (call (bfV bf) us) (EP X pins σ Q) X.xe s := fun e => by
    rw [e] at k
    obtain ⟨r, er, fin⟩ := tK_lft k
    exact bf_call c bf pins s σ H vs us Q I rv ⟨F, m, σ, ds, r, R, as, er, fin⟩
  have one : ∀ {k0 : Nat} {fs : List (PySem.Str × Dat)}, AtDs ca F H [.obj k0 fs] vs → ∃ a, us = [.ref a] ∧ ∃ dx fvs, H a = some (.ins (ca k0) dx fvs) := fun {k0 fs} as => by
    obtain ⟨v, ev, hv⟩ := ats_1 as
    subst ev
    obtain ⟨a, dx, fvs, ea, hH, _⟩ := hv
    subst ea
    exact ⟨a, Vals.ref1 rv, dx, fvs, hH⟩
  have u2 : X.A.in1.in1.units < cLine := by
    have := c.room.un
    show X.A.units + 1 + 1 < _
    omega
  have r2 : Room lv X.A.in1.in1 := ((c.room.mono (by omega) : Room (lv + 2) X.A).in1).in1
  cases bf with
  | len =>
    rcases ds with _ | ⟨d, _ | ⟨d2, r⟩⟩
    · exact pure_ rfl
    · cases d with
      | obj k0 fs =>
        obtain ⟨a, eu, dx, fvs, ea⟩ := one as
        have k' : tK ca W (bnd (specM T C "__len__" k0 rs) fun r => lft (isLen r)) F m σ H Q := k
        obtain ⟨g, hM, _, cl, _, go⟩ := spec_at c t I R q rv (tK_core k')
        obtain ⟨mA, O, _⟩ := ins_get I.hok ea
        obtain ⟨od, J, _⟩ := O.look
        obtain ⟨n, fr⟩ := fr_of I
        rw [eu] at go ⊢
        refine PySem.W.len_K fr I.ok.mod.kin J hM.at_ hM.fn (thn (go X.A.in1 (c.room.mono (by omega) : Room (lv + 1) X.A).in1 c.gd I.env0.in1) fun u s1 hq => ?_)
        obtain ⟨v, H1, I1, r1, r, F1, m1, S1, R1, q1, k1⟩ := hq
        obtain ⟨w, ew, fin⟩ := tKZ_lft k1
        unfold isLen at ew
        split at ew
        · rename_i n'
          split at ew
          · rename_i hn
            cases ew
            have ev : v = V.int n' := q1
            subst ev
            obtain ⟨tk, eu⟩ := r1
            subst eu
            exact ⟨hn, V.int n', H1, I1.tok _, ⟨_, rfl⟩, fin _ _ rfl R1 rfl⟩
          · cases ew
        · cases ew
      | _ => exact pure_ rfl
    · exact pure_ (by cases d <;> rfl)
  | str =>
    rcases ds with _ | ⟨d, _ | ⟨d2, r⟩⟩
    · exact pure_ rfl
    · cases d with
      | obj k0 fs =>
        obtain ⟨a, eu, dx, fvs, ea⟩ := one as
        have k' : tK ca W (bnd (specM T C "__str__" k0 rs) fun r => lft (isTxt r)) F m σ H Q := k
        obtain ⟨g, hM, _, cl, _, go⟩ := spec_at c t I R q rv (tK_core k')
        obtain ⟨mA, O, _⟩ := ins_get I.hok ea
        obtain ⟨od, J, _⟩ := O.look
        rw [eu] at go ⊢
        refine str_own u2 I.kIn J hM.at_ hM.fn (thn (go X.A.in1.in1 r2 c.gd I.env0.in1.in1) fun u s1 hq => ?_)
        obtain ⟨v, H1, I1, r1, r, F1, m1, S1, R1, q1, k1⟩ := hq
        obtain ⟨w, ew, fin⟩ := tKZ_lft k1
        unfold isTxt at ew
        split at ew
        · rename_i n'
          cases ew
          have ev : v = V.str n' := q1
          subst ev
          obtain ⟨tk, eu⟩ := _root_.id r1
          subst eu
          exact ⟨V.str n', H1, I1, r1, fin _ _ rfl R1 rfl⟩
        · cases ew
      | _ => exact pure_ rfl
    · exact pure_ (by cases d <;> rfl)
  | bool =>
    rcases ds with _ | ⟨d, _ | ⟨d2, r⟩⟩
    · exact pure_ rfl
    · cases d with
      | obj k0 fs =>
        obtain ⟨a, eu, dx, fvs, ea⟩ := one as
        have k' : tK ca W (bnd (specM T C "__bool__" k0 rs) fun r => lft (isTru r)) F m σ H Q := k
        obtain ⟨g, hM, _, cl, _, go⟩ := spec_at c t I R q rv (tK_core k')
        obtain ⟨mA, O, _⟩ := ins_get I.hok ea
        obtain ⟨od, J, _⟩ := O.look
        rw [eu] at go ⊢
        refine bool_own I.kIn J hM.at_ hM.fn (thn (go X.A.in1.in1 r2 c.gd I.env0.in1.in1) fun u s1 hq => ?_)
        obtain ⟨v, H1, I1, r1, r, F1, m1, S1, R1, q1, k1⟩ := hq
        obtain ⟨w, ew, fin⟩ := tKZ_lft k1
        unfold isTru at ew
        split at ew
        · rename_i n'
          cases ew
          have ev : v = V.bl n' := q1
          subst ev
          cases r1
          exact ⟨V.bl n', H1, I1, rfl, fin _ _ rfl R1 rfl⟩
        · cases ew
      | _ => exact pure_ rfl
    · exact pure_ (by cases d <;> rfl)
  | _ => exact pure_ rfl
theorem bf_tab : ∀ q ∈ bfTab, q.1 ∈ bltNames ∧ bootBuiltins q.1 = some (bfV q.2) ∧ q.1 ≠ "__name__" ∧ (q.1 == ("__debug__" : PySem.Str)) = false := by
  unfold bfTab
  simp only [List.forall_mem_cons]
  refine ⟨⟨by decide, by decide +kernel, by decide, by decide⟩, ⟨by decide, by decide +kernel, by decide, by decide⟩, ⟨by decide, by decide +kernel, by decide, by decide⟩, ⟨by decide, by decide +kernel, by decide, by decide⟩, ⟨by decide, by decide +kernel, by decide, by decide⟩, ⟨by decide, by decide +kernel, by decide, by decide⟩, ⟨by decide, by decide +kernel, by decide, by decide⟩, ⟨by decide, by decide +kernel, by decide, by decide⟩, ⟨by decide, by decide +kernel, by decide, by decide⟩, ⟨by decide, by decide +kernel, by decide, by decide⟩, ⟨by decide, by decide +kernel, by decide, by decide⟩, ⟨by decide, by decide +kernel, by decide, by decide⟩, ⟨by decide, by decide +kernel, by decide, by decide⟩, fun q h => nomatch h⟩
theorem bf_name {bf : Bf} (h : bfOf x = some bf) : x ∈ bltNames ∧ bootBuiltins x = some (bfV bf) ∧ x ≠ "__name__" ∧ (x == ("__debug__" : PySem.Str)) = false := bf_tab (x, bf) (mem_lookup h)
theorem de_blt (c : Ctx ca fa Z T C nn lv X) {bf : Bf} (hk : Z.G.lookup x = none) (hbf : bfOf x = some bf) (hg : glB X.env.scope x = true) (ha : DAn ca nn X (e :: es) xs) (hs : noStar (e :: es) = true) :
    DEn ca nn X (.Call (.Name x p) (e :: es) [] pos) (bnd xs fun rs => bnd (looks rs) fun ds => bltM T C bf rs ds) := fun W t => ⟨fun pins s σ H Q I ⟨F, m, R, h⟩ => by
  obtain ⟨g1, g2⟩ := glo_of hg
  obtain ⟨b1, b2, b3, b4⟩ := bf_name hbf
  obtain ⟨s1, s2⟩ := noStar_cons hs
  refine wpAny_Call_Name_kw (ld_blt I g1 (blt_mg c b1 hk) b2 ?_ b3 b4)
  have run := (ha W t).run pos pins s σ H _ I (tK_bndL R h)
  have fin : ∀ (us : List Value) (s1 : Shared), AP X pins σ (fun vs H1 => ∃ rs F1 m1, Since F H (Own m σ) F1 H1 (Own m1 σ) ∧ Rep ca F1 m1 σ H1 ∧ IsPs ca F1 σ rs vs ∧ tK ca W (bnd (looks rs) fun ds => bltM T C bf rs ds) F1 m1 σ H1 Q) us s1 → wpAny (model X.prog X.w) X.A (call (bfV bf) us) (EP X pins σ Q) X.xe s1 := fun us s1 ⟨vs, H1, I1, rv, rs, F1, m1, S, R1, q, k⟩ => by
    obtain ⟨ds, _, as, k2⟩ := tK_looks R1 q k
    exact blt_at c t I1 R1 q as rv k2
  have two : (∃ id, bfV bf = .builtin id) ∨ ∃ id, bfV bf = .type id := by
    cases bf <;> first | exact .inl ⟨_, rfl⟩ | exact .inr ⟨_, rfl⟩
  rcases two with ⟨id, ei⟩ | ⟨id, ei⟩
  · rw [ei] at fin ⊢
    exact PyProof.Rows.callWith_builtin1 (thn run fin) (star_no s1) (plain_args s2)
  · rw [ei] at fin ⊢
    exact PyProof.Rows.callWith_type1 (thn run fin) (star_no s1) (plain_args s2)⟩
theorem sub_true (h : slcB b = false) (o i : Value) : subscripted b true o i = runValue (.builtin "lifetime.subscript" ⟨[o, i], []⟩) := by
  cases b <;> first | rfl | cases h
theorem de_ix (c : Ctx ca fa Z T C nn lv X) (ha : DEn ca nn X a x0) (hb : DEn ca nn X b y0) (hs : slcB b = false) : DEn ca nn X (.Subscript a b pos) (bnd x0 fun r => bnd y0 fun s => bnd (look (prj r)) fun dx => bnd (look (prj s)) fun dy => idxM T C (prj r) (prj s) dx dy) := fun W t => ⟨fun pins s σ H Q I ⟨F, m, R, h⟩ => by
  have hh : tE ca W x0 σ H fun v H1 => tE ca W y0 σ H1 fun u H2 => ∃ (r r2 : RV) (F2 : Hp) (m2 : Frm) (dx dy : Dat), Rep ca F2 m2 σ H2 ∧ IsP ca F2 σ (prj r) v ∧ IsP ca F2 σ (prj r2) u ∧ AtD ca F2 H2 dx v ∧ AtD ca F2 H2 dy u ∧ tK ca W (idxM T C (prj r) (prj r2) dx dy) F2 m2 σ H2 Q :=
    tE_mono (tK_bnd R h) fun v H1 ⟨r, F1, m1, S1, R1, p1, k1⟩ => tE_mono (tK_bnd R1 k1) fun u H2 ⟨s, F2, m2, S2, R2, p2, k2⟩ => by
      obtain ⟨dx, _, q1, k3⟩ := tK_look R2 (IsP.mono S2.k1 p1) k2
      obtain ⟨dy, _, q2, k4⟩ := tK_look R2 p2 k3
      exact ⟨r, s, F2, m2, dx, dy, R2, IsP.mono S2.k1 p1, p2, q1, q2, k4⟩
  refine PyProof.Rows.Subscript_ (binT (R := fun v u H2 => ∃ (r r2 : RV) (F2 : Hp) (m2 : Frm) (dx dy : Dat), Rep ca F2 m2 σ H2 ∧ IsP ca F2 σ (prj r) v ∧ IsP ca F2 σ (prj r2) u ∧ AtD ca F2 H2 dx v ∧ AtD ca F2 H2 dy u ∧ tK ca W (idxM T C (prj r) (prj r2) dx dy) F2 m2 σ H2 Q) (ha W t) (hb W t) I hh fun v u s2 x y H2 I2 rx ry ⟨r, r2, F2, m2, dx, dy, R2, p1, p2, q1, q2, k⟩ => ?_)
  have pure_ : idxM T C (prj r) (prj r2) dx dy = lft ((idxV dx dy).map .dat) → wpAny (model X.prog X.w) X.A (PyProof.Rows.subscriptTail a b v u) (EP X pins σ Q) X.xe s2 := fun e => by
    rw [e] at k
    obtain ⟨r', er, fin⟩ := tK_lft k
    exact ix_any c.hu a b pins s2 σ H2 x y v u Q I2 rx ry ⟨F2, m2, σ, dx, dy, r', R2, q1, q2, er, fin⟩ (slc_no hs _ _)
  cases dx with
  | obj k0 fs =>
    obtain ⟨ad, dd, fvs, ex, ea, _⟩ := q1
    subst ex
    obtain rfl : v = Value.ref ad := rx
    have k' : tK ca W (specM T C "__getitem__" k0 [prj r, prj r2]) F2 m2 σ H2 Q := k
    obtain ⟨g, hM, hF, cl, _, go⟩ := spec_at (rs := [prj r, prj r2]) (vs := [.ref ad, y]) (us := [.ref ad, u]) c t I2 R2 ⟨_, [y], rfl, p1, y, [], rfl, p2, rfl⟩ (.cons rfl (.cons ry .nil)) k'
    obtain ⟨mA, O, _⟩ := ins_get I2.hok ea
    obtain ⟨od, J, _⟩ := O.look
    obtain ⟨n, fr⟩ := fr_of I2
    exact PySem.W.sub_K fr I2.ok.mod.kin J hM.at_ hF hM.fn (go X.A.in1 (c.room.mono (by omega) : Room (lv + 1) X.A).in1 c.gd I2.env0.in1) (sub_true hs _ _)
  | _ => exact pure_ rfl⟩
/-- a bound of a slice -/
def POn (ca : Nat → Addr) (nn : Bool) (X : Cx) (e : Option Expr) (f : M (Option Int)) : Prop := ∀ W, Tks nn X W → PO X e (fun σ H Q => ∃ F m, Rep ca F m σ H ∧ tG ca (fun _ _ _ _ a b => a = b) no2 W f F m σ H Q)
theorem tG_bnd {β : Type} {rel : Hp → Hp → Frm → St → β → β → Prop} {f : M RV} {g : RV → M β} {Q : β → Hp → Prop} (R : Rep ca F m σ H) (h : tG ca rel no2 W (bnd f g) F m σ H Q) :
    tE ca W f σ H fun v H1 => ∃ r F1 m1, Since F H (Own m σ) F1 H1 (Own m1 σ) ∧ Rep ca F1 m1 σ H1 ∧ IsP ca F1 σ (prj r) v ∧ tG ca rel no2 W (g r) F1 m1 σ H1 Q := by
  obtain ⟨r, m', e, k⟩ := h
  refine ⟨F, m, R, ?_⟩
  rcases bnd_ok e with ⟨x, m1, e1, e2⟩ | ⟨a, m1, e1, e2⟩
  · cases e2
    exact ⟨_, _, e1, k⟩
  · refine ⟨_, _, e1, fun F1 H1 v S R1 q => ?_⟩
    obtain ⟨G, S1, R2, q1⟩ := res_prj S R1 q
    refine ⟨a, G, m1, S1, R2, q1, r, m', e2, ?_⟩
    cases r with
    | ok b => exact fun F2 H2 u S2 R3 q2 => k F2 H2 u (S1.trans (S2.less fun b z => z)) R3 q2
    | error x => exact fun F2 H2 C d S2 R3 q2 => k F2 H2 C d (S1.trans S2) R3 q2
theorem tG_ret {β : Type} {b : β} {Q : β → Hp → Prop} (R : Rep ca F m σ H) (h : tG ca (fun _ _ _ _ a b => a = b) no2 W (ret b) F m σ H Q) : Q b H := by
  obtain ⟨r, m', e, k⟩ := h
  cases e
  exact k F H b (Since.less Since.refl fun b z => Or.elim z id False.elim) R rfl
/-- behind something that gives a plain value -/
theorem tK_bndG {β : Type} {f : M β} {g : β → M RV} {Q : VK} (R : Rep ca F m σ H) (h : tK ca W (bnd f g) F m σ H Q) :
    tG ca (fun _ _ _ _ (a b : β) => a = b) no2 W f F m σ H fun v H1 => ∃ F1 m1, Since F H (Own m σ) F1 H1 (Own m1 σ) ∧ Rep ca F1 m1 σ H1 ∧ tK ca W (g v) F1 m1 σ H1 Q := by
  obtain ⟨r, m', e, k⟩ := h
  rcases bnd_ok e with ⟨x, m1, e1, e2⟩ | ⟨a, m1, e1, e2⟩
  · cases e2
    exact ⟨_, _, e1, k⟩
  · refine ⟨_, _, e1, fun F1 H1 v S R1 q => ?_⟩
    have q' : a = v := q
    subst q'
    have S1 := S.less (D := Own m1 σ) fun b z => .inl z
    refine ⟨F1, m1, S1, R1, r, m', e2, ?_⟩
    cases r with
    | ok b => exact fun F2 H2 u S2 R3 q2 => k F2 H2 u (S1.trans S2) R3 q2
    | error x => exact fun F2 H2 C d S2 R3 q2 => k F2 H2 C d (S1.trans S2) R3 q2
theorem tG_mono {α β : Type} {rel : Hp → Hp → Frm → St → α → β → Prop} {rb : α → β → Addr → Prop} {f : M α} {Q Q' : β → Hp → Prop} (h : tG ca rel rb W f F m σ H Q) (k : ∀ v H', Q v H' → Q' v H') : tG ca rel rb W f F m σ H Q' := by
  obtain ⟨r, m', e, z⟩ := h
  refine ⟨r, m', e, ?_⟩
  cases r with
  | ok a => exact fun F' H' v S R' q => k _ _ (z F' H' v S R' q)
  | error x => exact z
theorem PO.imp {X : Cx} {e : Option Expr} {t t' : TO} (h : PO X e t) (k : ∀ σ H Q, t' σ H Q → t σ H Q) : PO X e t' := ⟨fun P s σ H Q I q => h.run P s σ H Q I (k σ H Q q)⟩
theorem po_n : POn ca nn X none (partM .nil x0) := fun W t => PO.imp po_none fun σ H Q ⟨F, m, R, h⟩ => tG_ret R h
theorem po_s {y : Ex} (hy : ∀ v, partM y v = bnd v fun x => match x with | .dat (.int i) => ret (some i) | _ => fun _ => none) (he : DEn ca nn X e x0) : POn ca nn X (some e) (partM y x0) := fun W t => PO.imp (po_some (he W t)) fun σ H Q ⟨F, m, R, h⟩ => by
  rw [hy] at h
  show tE ca W x0 σ H _
  refine tE_mono (tG_bnd R h) fun v H1 ⟨r, F1, m1, S1, R1, p1, k1⟩ => ?_
  split at k1
  · rename_i i
    exact ⟨i, p1, tG_ret R1 k1⟩
  · obtain ⟨_, _, e, _⟩ := k1
    cases e
theorem de_sli {lo hi : Option Expr} {p2 : Pos} {yl yh : M (Option Int)} (ha : DEn ca nn X a x0) (hl : POn ca nn X lo yl) (hh : POn ca nn X hi yh) : DEn ca nn X (.Subscript a (.Slice lo hi none p2) pos) (bnd x0 fun x => bnd yl fun l => bnd yh fun h => bnd (look (prj x)) fun dx => lft (sliV dx (partD l) (partD h))) := fun W t =>
  PE.imp (pe_slice sl_any (ha W t) (hl W t) (hh W t)) fun σ H Q ⟨F, m, R, h⟩ => tE_mono (tK_bnd R h) fun v H1 ⟨r, F1, m1, S1, R1, p1, k1⟩ => by
    refine ⟨F1, m1, R1, tG_mono (tK_bndG R1 k1) fun l H2 ⟨F2, m2, S2, R2, k2⟩ => ⟨F2, m2, R2, tG_mono (tK_bndG R2 k2) fun h H3 ⟨F3, m3, S3, R3, k3⟩ => ?_⟩⟩
    obtain ⟨dx, _, q, k4⟩ := tK_look R3 (IsP.mono (S2.k1.trans S3.k1) p1) k3
    obtain ⟨r', er, fin⟩ := tK_lft k4
    refine ⟨F3, m3, σ, dx, partD l, partD h, r', R3, q, ?_, ?_, er, fin⟩
    · cases l <;> rfl
    · cases h <;> rfl
end
end SB
set_option maxRecDepth 100000
/-! SbKw: calls with keywords, methods of instances, classmethods. -/
namespace SB
open PySem L2
section
variable {ca fa : Nat → Addr} {Z : Nam} {T : Tab} {C : Calls} {nn : Bool} {lv : Nat} {X : Cx} {F H : Hp} {m : Frm} {σ : St} {W : WX} {s : Shared} {pins : List (Addr × Obj)} {x f : PySem.Str} {p pos apos : Pos} {e o : Expr} {es : List Expr} {kws : List Keyword} {x0 y0 z0 : M RV} {xs zs : M (List RV)}
theorem kw_names {pos : Pos} : ∀ {kws : List Keyword} {env : PySem.Env}, kwAll kws = true → (backToKw pos (keywordEach kws env)).all (·.1.isSome) = true ∧ (backToKw pos (keywordEach kws env)).any (·.1.isNone) = false ∧ (backToKw pos (keywordEach kws env)).filterMap (·.1) = kwNames kws
  | [], env, _ => ⟨rfl, rfl, rfl⟩
  | ⟨some n, e, q⟩ :: r, env, h => by
    obtain ⟨h1, h2, h3⟩ := kw_names (pos := pos) (env := env) (show kwAll r = true from h)
    refine ⟨?_, ?_, ?_⟩
    · show (true && _) = true
      rw [Bool.true_and]; exact h1
    · show (false || _) = false
      rw [Bool.false_or]; exact h2
    · show n :: _ = n :: _
      exact congrArg (List.cons n) h3
  | ⟨none, e, q⟩ :: r, env, h => by cases h
def DKn (ca : Nat → Addr) (nn : Bool) (X : Cx) (kws : List Keyword) (f : M (List RV)) : Prop := ∀ W, Tks nn X W → PK X kws (tA ca W f)
theorem dk_nil : DKn ca nn X [] (ret []) := fun W _ => ⟨fun pos pins s σ H Q I ⟨F, m, R, r, m', e, k⟩ => wpAny_evalAll_nil (by
  cases e
  exact ⟨[], H, I, .nil, k F H [] (Since.less Since.refl fun b z => Or.elim z id False.elim) R rfl⟩)⟩
theorem PK.imp {X : Cx} {e : List Keyword} {t t' : TA} (h : PK X e t) (k : ∀ σ H Q, t' σ H Q → t σ H Q) : PK X e t' := ⟨fun p P s σ H Q I q => h.run p P s σ H Q I (k σ H Q q)⟩
theorem dk_cons {nm : Option PySem.Str} {q : Pos} (ha : DEn ca nn X e x0) (hr : DKn ca nn X kws xs) : DKn ca nn X (⟨nm, e, q⟩ :: kws) (bnd x0 fun r => bnd xs fun rs => ret (prj r :: rs)) := fun W t =>
  PK.imp (pk_cons (ha W t) (hr W t)) fun σ H Q ⟨F, m, R, h⟩ => tE_mono (tL_bnd R h) fun v H1 ⟨r, F1, m1, S1, R1, p1, k1⟩ => tA_mono (tL_bndL R1 k1) fun vs H2 ⟨rs, F2, m2, S2, R2, p2, k2⟩ => by
    obtain ⟨r', m', er, k⟩ := k2
    cases er
    exact k F2 H2 (v :: vs) (Since.less Since.refl fun b z => Or.elim z id False.elim) R2 ⟨v, vs, rfl, IsP.mono S2.k1 p1, p2⟩
theorem dks_ok {t : Expr → Ex} (ih : ∀ e, DEn ca nn X e (ev T C (t e))) : ∀ kws : List Keyword, DKn ca nn X kws (evs T C (exArgs t (kwVals kws)))
  | [] => dk_nil
  | ⟨nm, e, q⟩ :: r => dk_cons (ih e) (dks_ok ih r)
theorem vals_get : ∀ {vs : List V} {us : List Value} {i : Nat} {x : V}, Vals vs us → vs[i]? = some x → ∃ u, us[i]? = some u ∧ RelV x u
  | [], _, i, x, _, h => by simp at h
  | v :: vs, _, 0, x, .cons rx _, h => by
    have e : v = x := by simpa using h
    subst e
    exact ⟨_, rfl, rx⟩
  | v :: vs, _, i + 1, x, .cons _ r, h => by
    obtain ⟨u, h1, h2⟩ := vals_get (i := i) r (by simpa using h)
    exact ⟨u, by simpa using h1, h2⟩
theorem isps_len : ∀ {rs : List RV} {vs : List V}, IsPs ca F σ rs vs → rs.length = vs.length
  | [], vs, h => by
    have h' : vs = [] := h
    rw [h']; rfl
  | r :: rs, vs, h => by
    obtain ⟨x, ys, e, _, q⟩ := h
    rw [e]
    exact congrArg Nat.succ (isps_len q)
theorem perm_val {F : Hp} : ∀ {ix : List Nat} {ds ds' : List Dat} {vs : List V} {us : List Value}, IsDs ca F ds vs → Vals vs us → permL ix ds = some ds' → ∃ vs' us', permL ix us = some us' ∧ IsDs ca F ds' vs' ∧ Vals vs' us'
  | [], ds, ds', vs, us, q, rv, e => by
    cases e
    exact ⟨[], [], rfl, rfl, .nil⟩
  | i :: r, ds, ds', vs, us, q, rv, e => by
    unfold permL at e
    split at e
    · rename_i a as e1 e2
      cases e
      obtain ⟨x, h1, h2⟩ := q.get e1
      obtain ⟨vs', us', h3, h4, h5⟩ := perm_val q rv e2
      obtain ⟨u, h6, h7⟩ := vals_get rv h1
      refine ⟨x :: vs', u :: us', ?_, ⟨x, vs', rfl, h2, h4⟩, .cons h7 h5⟩
      unfold permL
      rw [h6, h3]
    · cases e
theorem perm_suc {α : Type} {v : α} : ∀ {ix : List Nat} {l l' : List α}, permL ix l = some l' → permL (ix.map (· + 1)) (v :: l) = some l'
  | [], l, l', e => e
  | i :: r, l, l', e => by
    unfold permL at e
    split at e
    · rename_i a as e1 e2
      cases e
      show permL ((i + 1) :: r.map (· + 1)) (v :: l) = _
      unfold permL
      rw [perm_suc e2]
      simp [e1]
    · cases e
theorem kw_to {u1 ws us : List Value} {vs : List V} {k n g : Nat} {fd : Fd} {ks : List PySem.Str} {ix : List Nat} {ds ds' : List Dat} (hk1 : k = 0 ∨ k = 1) (hf : T.fns[g]? = some fd) (e : kwD T g k n ks ix ds = some ds')
    (q : IsDs ca F ds vs) (rv : Vals vs us) (hu : us = u1 ++ ws) (hn : u1.length = n) : ∃ vs' us', IsDs ca F ds' vs' ∧ Vals vs' us' ∧ ∀ first : List Value, first.length = k → ArgsTo fd.kws ⟨first ++ u1, ks.zip ws⟩ (first ++ us') := by
  unfold kwD at e
  split at e
  · rename_i hl
    have l1 : ds.length = us.length := by rw [← q.len, rv.length]
    have l2 : ws.length = ks.length := by
      have : us.length = u1.length + ws.length := by rw [hu, List.length_append]
      omega
    split at e
    · rename_i hc
      obtain ⟨hc, _⟩ := hc
      cases e
      subst hc
      have : ws = [] := List.eq_nil_of_length_eq_zero (by simpa using l2)
      subst this
      rw [List.append_nil] at hu
      subst hu
      exact ⟨vs, us, q, rv, fun first _ => .inl rfl⟩
    · rw [hf] at e
      simp only at e
      by_cases hm : (fd.kws.any fun q => decide (q = (k + n, ks, (if k = 1 then 0 :: ix.map (· + 1) else ix)))) = true
      · rw [if_pos hm] at e
        obtain ⟨vs', us', h1, h2, h3⟩ := perm_val q rv e
        refine ⟨vs', us', h2, h3, fun first hk => .inr ?_⟩
        obtain ⟨p0, hp, hq⟩ := List.any_eq_true.mp hm
        have hq' := of_decide_eq_true hq
        subst hq'
        refine ⟨_, _, _, first ++ u1, ws, hp, by rw [List.length_append, hk, hn], l2, rfl, ?_⟩
        rcases hk1 with h | h
        · subst h
          have : first = [] := List.eq_nil_of_length_eq_zero hk
          subst this
          simp only [List.nil_append, if_neg (show ¬ (0 = 1) by decide)]
          rw [← hu]; exact h1
        · subst h
          obtain ⟨v, rfl⟩ : ∃ v, first = [v] := by
            match first, hk with
            | [v], _ => exact ⟨v, rfl⟩
          rw [if_pos rfl]
          show permL (0 :: ix.map (· + 1)) (v :: (u1 ++ ws)) = _
          unfold permL
          rw [← hu, perm_suc h1]
          simp
      · rw [if_neg hm] at e
        cases e
  · cases e
/-- what is known behind a call's arguments -/
def ArgsAt (ca : Nat → Addr) (X : Cx) (pins : List (Addr × Obj)) (σ : St) (W : WX) (F H : Hp) (m : Frm) (g : Nat → List Dat → M RV) (Q : VK) (us ws : List Value) (s2 : Shared) : Prop :=
  ∃ H2 vs ds G m2, Inv X pins σ H2 s2 ∧ Vals vs (us ++ ws) ∧ Since F H (Own m σ) G H2 (Own m2 σ) ∧ Rep ca G m2 σ H2 ∧ IsDs ca G ds vs ∧ tK ca W (g us.length ds) G m2 σ H2 Q
theorem vals_split {vs zs : List V} {us ws : List Value} (a : Vals vs us) (b : Vals zs ws) : Vals (vs ++ zs) (us ++ ws) := a.append b
theorem args_kw {g : List RV → List RV → M RV} {gg : Nat → List Dat → M RV} (hg : ∀ rs zs, g rs zs = bnd (frzs (rs ++ zs)) fun ds => gg rs.length ds) (hz : DKn ca nn X kws zs) (t : Tks nn X W) {rs : List RV} {us : List Value} {vs : List V} {F0 H0 : Hp} {m0 : Frm} {Q : VK} (S0 : Since F0 H0 (Own m0 σ) F H (Own m σ))
    (I : Inv X pins σ H s) (rv : Vals vs us) (R : Rep ca F m σ H) (q : IsPs ca F σ rs vs) (h : tK ca W (bnd zs fun ws => g rs ws) F m σ H Q) :
    wpAny (model X.prog X.w) X.A (evalAll ((backToKw pos (keywordEach kws X.env)).map (·.2))) (fun ws s2 => ArgsAt ca X pins σ W F0 H0 m0 gg Q us ws s2) X.xe s := by
  refine thn ((hz W t).run pos pins s σ H _ I (tK_bndL R h)) fun ws s2 ⟨ys, H2, I2, rz, zz, F2, m2, S2, R2, q2, k2⟩ => ?_
  rw [hg] at k2
  have qq : IsPs ca F2 σ (rs ++ zz) (vs ++ ys) := isps_app (IsPs.mono S2.k1 q) q2
  obtain ⟨ds, G, m3, S3, R3, q3, k3⟩ := tK_frzs R2 qq k2
  have : rs.length = us.length := by rw [isps_len q, rv.length]
  rw [this] at k3
  exact ⟨H2, _, ds, G, m3, I2, vals_split rv rz, (S0.trans S2).trans S3, R3, q3, k3⟩
theorem cw_run {P0 : Heap → Prop} {fv : Value} {first : List Value} {QQ : Value → Shared → Prop} {gg : Nat → List Dat → M RV} {Q : VK} (hk : ∀ h, P0 h → ∃ k, (k = Keeper.frame ∨ k = Keeper.machine ∨ k = Keeper.boundFrame) ∧ PySem.W.Looks (model X.prog X.w) h (keeperOf fv) k)
    (hs : noStar es = true) (hkw : kwAll kws = true) (h0 : es = [] → xs = ret []) (ha : DAn ca nn X es xs) (hz : DKn ca nn X kws zs) (t : Tks nn X W) (I : Inv X pins σ H s) (R : Rep ca F m σ H)
    (h : tK ca W (bnd xs fun rs => bnd zs fun ws => bnd (frzs (rs ++ ws)) fun ds => gg rs.length ds) F m σ H Q)
    (done : ∀ us ws s2, ArgsAt ca X pins σ W F H m gg Q us ws s2 → P0 s2.heap ∧ wpAny (model X.prog X.w) X.A (call fv (first ++ us) ((kwNames kws).zip ws)) QQ X.xe s2) :
    wpAny (model X.prog X.w) X.A (callWith pos fv first (backTo pos (starEach es X.env)) (backToKw pos (keywordEach kws X.env))) QQ X.xe s := by
  obtain ⟨n1, n2, n3⟩ := kw_names (pos := pos) (env := X.env) hkw
  cases es with
  | nil =>
    rw [h0 rfl] at h
    refine PySem.W.callWith_of (by show (false || _) = false; rw [n2]; rfl) hk (PyProof.Rows.evalArgs_kw2_nil n1 ?_)
    have h' : tK ca W (bnd zs fun ws => bnd (frzs ([] ++ ws)) fun ds => gg ([] : List RV).length ds) F m σ H Q := h
    refine thn (args_kw (g := fun rs ws => bnd (frzs (rs ++ ws)) fun ds => gg rs.length ds) (fun _ _ => rfl) hz t (rs := []) (us := []) (vs := []) (Since.less Since.refl fun b z => z) I .nil R rfl h') fun ws s2 a => ?_
    rw [n3]
    exact done [] ws s2 a
  | cons e r =>
    obtain ⟨s1, s2⟩ := noStar_cons hs
    refine PySem.W.callWith_of ?_ hk (PyProof.Rows.evalArgs_kw2 n1 ?_ (star_no s1))
    · rw [n2, Bool.or_false, star_no s1]
      show (false || _) = false
      rw [Bool.false_or]
      exact plain_args s2
    · refine thn ((ha W t).run pos pins s σ H _ I (tK_bndL R h)) fun us s1 ⟨vs, H1, I1, rv, rs, F1, m1, S, R1, q, k⟩ => ?_
      refine thn (args_kw (g := fun rs ws => bnd (frzs (rs ++ ws)) fun ds => gg rs.length ds) (fun _ _ => rfl) hz t S I1 rv R1 q k) fun ws s2 a => ?_
      rw [n3]
      exact done us ws s2 a
/-- f(.., k = ..), a def of the module upon data -/
theorem de_kcal (c : Ctx ca fa Z T C nn lv X) {g : Nat} {ix : List Nat} (hG : Z.G.lookup x = some (.fn g)) (hg : glB X.env.scope x = true) (ha : DAn ca nn X es xs) (hz : DKn ca nn X kws zs) (h0 : es = [] → xs = ret []) (hs : noStar es = true) (hkw : kwAll kws = true) :
    DEn ca nn X (.Call (.Name x p) es kws pos) (bnd xs fun rs => bnd zs fun ws => bnd (frzs (rs ++ ws)) fun ds => bnd (lft (kwD T g 0 rs.length (kwNames kws) ix ds)) fun ds => callF C g ds) := fun W t => ⟨fun pins s σ H Q I h => by
  obtain ⟨h1, h2, fd, hf, hm⟩ := c.sta.nam x _ (mem_lookup hG)
  obtain ⟨g1, g2⟩ := glo_of hg
  refine wpAny_Call_Name_kw (ld_glob I g1 h1 ?_ g2)
  obtain ⟨F, m, R, h⟩ := h
  have hr : Room lv X.A := c.room.mono (by omega)
  refine cw_run (gg := fun n ds => bnd (lft (kwD T g 0 n (kwNames kws) ix ds)) fun ds => callF C g ds) (PySem.W.keeps_K h2) hs hkw h0 ha hz t I R h fun us ws s2 ⟨H2, vs, ds, G, m2, I2, rv, S2, R2, q2, k2⟩ => ⟨I2.kIn, ?_⟩
  obtain ⟨ds', e, k3⟩ := tK_lftB k2
  obtain ⟨vs', us', q3, r3, to⟩ := kw_to (.inl rfl) hf e q2 rv rfl rfl
  exact call_atk c t hr c.gd I2.env0 hf hm I2 (to [] rfl) R2 q3 r3 k3⟩
/-- C(.., k = ..) -/
theorem de_kmak (c : Ctx ca fa Z T C nn lv X) {k : Nat} {ix : List Nat} (hG : Z.G.lookup x = some (.cls k)) (hg : glB X.env.scope x = true) (ha : DAn ca nn X es xs) (hz : DKn ca nn X kws zs) (h0 : es = [] → xs = ret []) (hs : noStar es = true) (hkw : kwAll kws = true) :
    DEn ca nn X (.Call (.Name x p) es kws pos) (bnd xs fun rs => bnd zs fun ws => bnd (frzs (rs ++ ws)) fun ds => bnd (lft (kwC T k rs.length (kwNames kws) ix ds)) fun ds => makeM T C k ds) := fun W t => ⟨fun pins s σ H Q I h => by
  obtain ⟨h1, kp'⟩ := c.sta.nam x _ (mem_lookup hG)
  obtain ⟨g1, g2⟩ := glo_of hg
  refine wpAny_Call_Name_kw (ld_glob I g1 h1 ?_ g2)
  obtain ⟨F, m, R, h⟩ := h
  refine cw_run (gg := fun n ds => bnd (lft (kwC T k n (kwNames kws) ix ds)) fun ds => makeM T C k ds) (PySem.W.keeps_K kp') hs hkw h0 ha hz t I R h fun us ws s2 ⟨H2, vs, ds, G, m2, I2, rv, S2, R2, q2, k2⟩ => ⟨I2.kIn, ?_⟩
  obtain ⟨ds', e, k3⟩ := tK_lftB k2
  have key : ∀ g fd cd, T.cls[k]? = some cd → cd.init = some g → T.fns[g]? = some fd → kwD T g 1 us.length (kwNames kws) ix ds = some ds' := fun g fd cd hc hi hf => by
    unfold kwC at e
    rw [hc] at e
    simp only at e
    rw [hi] at e
    exact e
  have go : ∃ g fd cd, T.cls[k]? = some cd ∧ cd.init = some g ∧ T.fns[g]? = some fd := by
    obtain ⟨r, m', ee, _⟩ := k3
    unfold makeM at ee
    cases hc : T.cls[k]? with
    | none => rw [hc] at ee; cases ee
    | some cd =>
      rw [hc] at ee
      simp only at ee
      cases hx : cd.exc with
      | true => simp only [hx, if_true] at ee; cases ee
      | false =>
        cases hi : cd.init with
        | none => simp only [hx, hi, Bool.false_eq_true, if_false] at ee; cases ee
        | some g =>
          obtain ⟨_, fd, hf, _⟩ := (c.sta.ins k cd hc hx).init g hi
          exact ⟨g, fd, cd, rfl, hi, hf⟩
  obtain ⟨g, fd, cd, hc, hi, hf⟩ := go
  obtain ⟨vs', us', q3, r3, to⟩ := kw_to (.inr rfl) hf (key g fd cd hc hi hf) q2 rv rfl rfl
  refine make_atk c t I2 R2 q3 r3 (fun g' fd' cd' hc' hi' hf' v => ?_) k3
  rw [hc] at hc'; cases hc'
  rw [hi] at hi'; cases hi'
  rw [hf] at hf'; cases hf'
  exact to [v] rfl⟩
theorem meth_eq {env : PySem.Env} (hb : attrOk o = true) (hs : noStar es = true) (hkw : kwAll kws = true) (hl : (apos.endLine == pos.line) = true) (hn : es.length + kws.length < 29) :
    eval (.Call (.Attribute o f apos) es kws pos) env = (do
      let ov ← eval o env
      standAt apos.atName
      let (f, first) ← holding [ov] (getMethod ov f (plainOf o env))
      callWith pos f first (backTo pos (starEach es env)) (backToKw pos (keywordEach kws env))) := by
  refine mcall_of (base_ok hb) fun ov => mcall_line ?_ hl
  obtain ⟨n1, _, _⟩ := kw_names (pos := pos) (env := env) hkw
  unfold methodCallForm
  rw [Bool.and_eq_true, Bool.and_eq_true, decide_eq_true_eq]
  refine ⟨⟨?_, n1⟩, ?_⟩
  · have : ∀ {es : List Expr}, noStar es = true → (backTo pos (starEach es env)).all (!·.1) = true := fun {es} => by
      induction es with
      | nil => exact fun _ => rfl
      | cons e r ih =>
        intro h
        obtain ⟨s1, s2⟩ := noStar_cons h
        rw [star_no s1]
        show (true && _) = true
        rw [Bool.true_and]
        exact ih s2
    exact this hs
  · split <;> omega
/-- which def, of what object -/
theorem metI_at (c : Ctx ca fa Z T C nn lv X) {d : Dat} {v : V} {g : Nat} (e : metI T d f = some g) (q : AtD ca F H d v) : ∃ k a dx fvs fd, v = .ref a ∧ H a = some (.ins (ca k) dx fvs) ∧ fvs.lookup f = none ∧ Cls X.K (ca k) ∧ Meth X.K (ca k) f (fa g) ∧ T.fns[g]? = some fd ∧ fd.mt = false := by
  unfold metI at e
  cases d with
  | obj k fs =>
    simp only at e
    cases hc : T.cls[k]? with
    | none => rw [hc] at e; cases e
    | some cd =>
      rw [hc] at e
      simp only at e
      cases hx : cd.exc with
      | true => simp [hx] at e
      | false =>
        simp only [hx, Bool.false_eq_true, if_false] at e
        cases hm : cd.mets.lookup f with
        | none => rw [hm] at e; cases e
        | some g' =>
          rw [hm] at e
          simp only at e
          split at e
          · rename_i hn
            cases e
            obtain ⟨a, dx, fvs, ev, ea, hfs⟩ := q
            have io := c.sta.ins k cd hc hx
            obtain ⟨h1, h2, fd, hf, hmt⟩ := io.mets f g (mem_lookup hm)
            refine ⟨k, a, dx, fvs, fd, ev, ea, ?_, io.cl, h1, hf, hmt⟩
            have key : ∀ {fs : List (PySem.Str × Dat)} {fvs : List (PySem.Str × V)}, IsFs ca F fs fvs → fs.lookup f = none → fvs.lookup f = none := fun {fs} => by
              induction fs with
              | nil =>
                intro fvs h _
                have h' : fvs = [] := h
                rw [h']; rfl
              | cons y r ih =>
                intro fvs h hn
                obtain ⟨x, ys, e1, _, t⟩ := h
                subst e1
                obtain ⟨y1, y2⟩ := y
                rw [List.lookup_cons] at hn ⊢
                cases hg : f == y1 with
                | true => rw [hg] at hn; cases hn
                | false => rw [hg] at hn; exact ih t hn
            exact key hfs (Option.isNone_iff_eq_none.mp hn)
          · cases e
  | _ => cases e
/-- o.m(..), o an instance -/
theorem de_omet (c : Ctx ca fa Z T C nn lv X) {ix : List Nat} (ho : DEn ca nn X o x0) (ha : DAn ca nn X es xs) (hz : DKn ca nn X kws zs) (h0 : es = [] → xs = ret []) (hb : attrOk o = true) (hs : noStar es = true) (hkw : kwAll kws = true) (hl : (apos.endLine == pos.line) = true) (hn : es.length + kws.length < 29) :
    DEn ca nn X (.Call (.Attribute o f apos) es kws pos) (bnd x0 fun x => bnd (frz (prj x)) fun d => bnd (lft (metI T d f)) fun g => bnd xs fun rs => bnd zs fun ws => bnd (frzs (rs ++ ws)) fun ds => bnd (lft (kwD T g 1 rs.length (kwNames kws) ix ds)) fun ds => callF C g (d :: ds)) := fun W t => ⟨fun pins s σ H Q I ⟨F, m, R, h⟩ => by
  refine PySem.W.methodCall_KW (pl := plainOf o X.env) (thn ((ho W t).run pins s σ H _ I (tK_bnd R h)) fun u s1 ⟨v, H1, I1, rx, r, F1, m1, S1, R1, p1, k1⟩ => ?_) (meth_eq hb hs hkw hl hn)
  obtain ⟨d, G, m2, S2, R2, q2, k2⟩ := tK_frz R1 p1 k1
  obtain ⟨g, eg, k3⟩ := tK_lftB k2
  obtain ⟨k, a, dx, fvs, fd, ev, ea, hnf, cl, hM, hf, hm⟩ := metI_at c eg (IsD.at R2.sub q2)
  subst ev
  obtain rfl : u = Value.ref a := rx
  refine getmeth_ok I1 ea cl hM hnf ?_
  have hr : Room lv X.A := c.room.mono (by omega)
  refine cw_run (first := [.ref a]) (gg := fun n ds => bnd (lft (kwD T g 1 n (kwNames kws) ix ds)) fun ds => callF C g (d :: ds)) (PySem.W.keeps_K hM.kp) hs hkw h0 ha hz t I1 R2 k3 fun us ws s2 ⟨H3, vs, ds, G3, m3, I3, rv, S3, R3, q3, k4⟩ => ⟨I3.kIn, ?_⟩
  obtain ⟨ds', e, k5⟩ := tK_lftB k4
  obtain ⟨vs', us', q4, r4, to⟩ := kw_to (.inr rfl) hf e q3 rv rfl rfl
  exact call_atk (ds := d :: ds') (vs := .ref a :: vs') (us := .ref a :: us') c t hr c.gd I3.env0 hf hm I3 (to [.ref a] rfl) R3 ⟨.ref a, vs', rfl, IsD.mono S3.k1 _ _ q2, q4⟩ (.cons rfl r4) k5⟩
/-- C.m(..), m a classmethod -/
theorem de_cmet (c : Ctx ca fa Z T C nn lv X) {k g : Nat} {ix : List Nat} {q0 : Pos} (hG : Z.G.lookup x = some (.cls k)) (hc : (k, f, g) ∈ Z.cm) (hg : glB X.env.scope x = true) (ha : DAn ca nn X es xs) (hz : DKn ca nn X kws zs) (h0 : es = [] → xs = ret []) (hs : noStar es = true) (hkw : kwAll kws = true) (hl : (apos.endLine == pos.line) = true) (hn : es.length + kws.length < 29) :
    DEn ca nn X (.Call (.Attribute (.Name x q0) f apos) es kws pos) (bnd xs fun rs => bnd zs fun ws => bnd (frzs (rs ++ ws)) fun ds => bnd (lft (kwD T g 1 rs.length (kwNames kws) ix ds)) fun ds => callF C g (.cls k :: ds)) := fun W t => ⟨fun pins s σ H Q I ⟨F, m, R, h⟩ => by
  obtain ⟨h1, kp'⟩ := c.sta.nam x _ (mem_lookup hG)
  obtain ⟨g1, g2⟩ := glo_of hg
  obtain ⟨mc, p, cr, cm, fd, hf, hm⟩ := c.sta.cmo k f g hc
  refine PySem.W.methodCall_KW (pl := plainOf (.Name x q0) X.env) (thn ((pe_glob g1 h1 (v := .ref (ca k)) rfl g2).run pins s σ H (fun v H1 => v = .ref (ca k) ∧ H1 = H) I ⟨rfl, rfl⟩) fun u s1 ⟨v, H1, I1, rx, ev, eH⟩ => ?_) (meth_eq rfl hs hkw hl hn)
  subst ev eH
  obtain rfl : u = Value.ref (ca k) := rx
  refine ClX.getmethcm_ok I1 cr cm fun s2 I2 => ?_
  have hr : Room lv X.A := c.room.mono (by omega)
  refine cw_run (fv := .ref s1.heap.objs.size) (first := []) (P0 := PySem.W.MethP X.K s1.heap.objs.size (fa g) (.ref (ca k))) (gg := fun n ds => bnd (lft (kwD T g 1 n (kwNames kws) ix ds)) fun ds => callF C g (.cls k :: ds)) (fun h hp => PySem.W.keeps_M cm.fi h hp) hs hkw h0 ha hz t I2 R h fun us ws s3 ⟨H3, vs, ds, G3, m3, I3, rv, S3, R3, q3, k4⟩ => ⟨⟨ClX.pin_at I3, I3.kIn⟩, ?_⟩
  obtain ⟨ds', e, k5⟩ := tK_lftB k4
  obtain ⟨vs', us', q4, r4, to⟩ := kw_to (.inr rfl) hf e q3 rv rfl rfl
  obtain ⟨r, mo, ec, ge⟩ := call_end (ds := .cls k :: ds') (vs := .ref (ca k) :: vs') R3 ⟨_, vs', rfl, rfl, q4⟩ k5
  have hmo := c.ok.imm g fd _ r mo hf hm ec
  have z : wpAny (model X.prog X.w) X.A (call (.ref s1.heap.objs.size) ([] ++ us) ((kwNames kws).zip ws)) (EP X ((s1.heap.objs.size, PySem.W.methodObj (.ref (fa g)) (.ref (ca k))) :: pins) σ Q) X.xe s3 :=
    wpAny_call (PySem.W.method_call (ClX.pin_at I3) (codeGA (us := .ref (ca k) :: us') (u1 := .ref (ca k) :: us) (vs := .ref (ca k) :: vs') (c.gp g fd hf) hr c.gd I3.env0 (passes_n t (c.hnn g fd hf) σ) I3 (to [.ref (ca k)] rfl) (.cons rfl r4) (rep_args (ds := .cls k :: ds') (vs := .ref (ca k) :: vs') R3.sub ⟨_, vs', rfl, rfl, q4⟩) ec (ge hmo)))
  exact thn z fun _ _ y => ClX.unpinE y⟩
end
end SB
set_option maxRecDepth 100000
/-! SbPat: targets of names; frames that are wiped and set back. -/
namespace SB
open PySem L2
section
variable {ca : Nat → Addr} {X : Cx} {F G H J : Hp} {m m1 m2 : Frm} {σ τ : St} {s : Shared} {pins : List (Addr × Obj)}
/-! ### frames -/
theorem wipeF_len : ∀ (m : Frm) (vs : List Nat), (wipeF m vs).length = m.length
  | m, [] => rfl
  | m, v :: vs => by unfold wipeF; rw [List.length_set, wipeF_len m vs]
theorem wipeF_get : ∀ {vs : List Nat} {m : Frm} {j : Nat} {x : Slo}, (wipeF m vs)[j]? = some (some x) ↔ m[j]? = some (some x) ∧ j ∉ vs
  | [], m, j, x => by simp [wipeF]
  | v :: vs, m, j, x => by
    unfold wipeF
    by_cases hj : v = j
    · subst hj
      constructor
      · intro h
        by_cases hv : v < (wipeF m vs).length
        · rw [List.getElem?_set_self hv] at h; cases h
        · rw [List.getElem?_eq_none (by simpa using hv)] at h; cases h
      · intro h
        exact absurd List.mem_cons_self h.2
    · rw [List.getElem?_set_ne hj, wipeF_get]
      simp only [List.mem_cons, not_or]
      constructor
      · exact fun h => ⟨h.1, fun e => hj e.symm, h.2⟩
      · exact fun h => ⟨h.1, h.2.2⟩
theorem wipe_get : ∀ {vs : List Nat} {σ : St} {j : Nat}, j ∉ vs → (wipe σ vs)[j]? = σ[j]?
  | [], σ, j, h => rfl
  | v :: vs, σ, j, h => by
    simp only [List.mem_cons, not_or] at h
    unfold wipe
    rw [List.getElem?_set_ne (fun e => h.1 e.symm), wipe_get h.2]
theorem Rep.wipe (R : Rep ca F m σ H) (vs : List Nat) : Rep ca F (wipeF m vs) (wipe σ vs) H := by
  refine ⟨R.sub, by rw [wipeF_len, wipe_length, R.len], fun i d e => ?_, fun i d e => ?_, fun i j d e a h1 h2 h3 h4 => ?_⟩
  · obtain ⟨e1, n⟩ := wipeF_get.mp e
    rw [wipe_get n]
    exact R.dat i d e1
  · obtain ⟨e1, n⟩ := wipeF_get.mp e
    rw [wipe_get n]
    exact R.own i d e1
  · obtain ⟨e1, n1⟩ := wipeF_get.mp h1
    obtain ⟨e2, n2⟩ := wipeF_get.mp h2
    rw [wipe_get n1] at h3
    rw [wipe_get n2] at h4
    exact R.inj i j d e a e1 e2 h3 h4
theorem own_wipe {vs : List Nat} {b : Addr} (h : Own (wipeF m vs) (wipe σ vs) b) : Own m σ b := by
  obtain ⟨i, d, h1, h2⟩ := h
  obtain ⟨e1, n⟩ := wipeF_get.mp h1
  rw [wipe_get n] at h2
  exact ⟨i, d, e1, h2⟩
theorem backF_len : ∀ (m0 m : Frm) (vs : List Nat), (backF m0 m vs).length = m.length
  | m0, m, [] => rfl
  | m0, m, v :: vs => by unfold backF; rw [List.length_set, backF_len m0 m vs]
theorem backF_get : ∀ {vs : List Nat} {m0 m : Frm} {j : Nat}, j < m.length → j < m0.length → (backF m0 m vs)[j]? = if j ∈ vs then m0[j]? else m[j]?
  | [], m0, m, j, h, h0 => by simp [backF]
  | v :: vs, m0, m, j, h, h0 => by
    unfold backF
    by_cases hj : v = j
    · subst hj
      rw [List.getElem?_set_self (by rw [backF_len]; exact h), if_pos List.mem_cons_self]
      rw [List.getElem?_eq_getElem h0]
      rfl
    · rw [List.getElem?_set_ne hj, backF_get h h0]
      by_cases hv : j ∈ vs
      · rw [if_pos hv, if_pos (List.mem_cons_of_mem _ hv)]
      · rw [if_neg hv, if_neg (by simp only [List.mem_cons, not_or]; exact ⟨fun e => hj e.symm, hv⟩)]
/-- behind a block: its own names as they were ahead of it -/
theorem Rep.back {vs : List Nat} (R0 : Rep ca F m1 σ J) (no : ∀ i ∈ vs, isOwn m1[i]? = false) (hl : m2.length = m1.length) (R : Rep ca G (wipeF m2 vs) (L2.wipe σ vs) H) (k : Same F G) :
    Rep ca G (backF m1 m2 vs) σ H ∧ ∀ b, Own (backF m1 m2 vs) σ b → Own (wipeF m2 vs) (L2.wipe σ vs) b := by
  have lt : ∀ {j : Nat} {x : Slo}, (backF m1 m2 vs)[j]? = some (some x) → j < m2.length ∧ j < m1.length := fun {j x} e => by
    have := (List.getElem?_eq_some_iff.mp e).1
    rw [backF_len] at this
    exact ⟨this, by omega⟩
  have own_ : ∀ {j : Nat} {d : Dat}, (backF m1 m2 vs)[j]? = some (some (.own d)) → j ∉ vs ∧ (wipeF m2 vs)[j]? = some (some (.own d)) := fun {j d} e => by
    obtain ⟨l1, l2⟩ := lt e
    rw [backF_get l1 l2] at e
    by_cases hv : j ∈ vs
    · rw [if_pos hv] at e
      have := no j hv
      rw [e] at this; cases this
    · rw [if_neg hv] at e
      exact ⟨hv, wipeF_get.mpr ⟨e, hv⟩⟩
  refine ⟨⟨R.sub, by rw [backF_len, hl, R0.len], fun i d e => ?_, fun i d e => ?_, fun i j d e a h1 h2 h3 h4 => ?_⟩, fun b ⟨i, d, h1, h2⟩ => ?_⟩
  · obtain ⟨l1, l2⟩ := lt e
    rw [backF_get l1 l2] at e
    by_cases hv : i ∈ vs
    · rw [if_pos hv] at e
      obtain ⟨v, e1, q⟩ := R0.dat i d e
      exact ⟨v, e1, IsD.mono k d v q⟩
    · rw [if_neg hv] at e
      have := R.dat i d (wipeF_get.mpr ⟨e, hv⟩)
      rwa [wipe_get hv] at this
  · obtain ⟨n, e1⟩ := own_ e
    have := R.own i d e1
    rwa [wipe_get n] at this
  · obtain ⟨n1, e1⟩ := own_ h1
    obtain ⟨n2, e2⟩ := own_ h2
    exact R.inj i j d e a e1 e2 (by rw [wipe_get n1]; exact h3) (by rw [wipe_get n2]; exact h4)
  · obtain ⟨n1, e1⟩ := own_ h1
    exact ⟨i, d, e1, by rw [wipe_get n1]; exact h2⟩
/-! ### targets of names -/
/-- only these slots differ -/
def OnlyAt (vs : List Nat) (σ τ : St) : Prop := τ.length = σ.length ∧ ∀ j, j ∉ vs → τ[j]? = σ[j]?
theorem OnlyAt.refl (σ : St) : OnlyAt [] σ σ := ⟨rfl, fun _ _ => rfl⟩
theorem OnlyAt.mono {vs ws : List Nat} (h : OnlyAt vs σ τ) (k : ∀ i ∈ vs, i ∈ ws) : OnlyAt ws σ τ := ⟨h.1, fun j hj => h.2 j fun z => hj (k j z)⟩
theorem OnlyAt.trans {vs ws : List Nat} {υ : St} (h : OnlyAt vs σ τ) (k : OnlyAt ws τ υ) : OnlyAt (vs ++ ws) σ υ :=
  ⟨k.1.trans h.1, fun j hj => by
    simp only [List.mem_append, not_or] at hj
    rw [k.2 j hj.2, h.2 j hj.1]⟩
theorem wipe_none : ∀ {vs : List Nat} {σ : St} {j : Nat}, j ∈ vs → j < σ.length → (wipe σ vs)[j]? = some none
  | v :: vs, σ, j, h, hl => by
    unfold wipe
    by_cases hj : v = j
    · subst hj
      exact List.getElem?_set_self (by rw [wipe_length]; exact hl)
    · rw [List.getElem?_set_ne hj]
      exact wipe_none (by rcases List.mem_cons.mp h with e | e; exact absurd e.symm hj; exact e) hl
theorem OnlyAt.wipe {vs : List Nat} (h : OnlyAt vs σ τ) : wipe τ vs = L2.wipe σ vs := by
  apply List.ext_getElem?
  intro j
  by_cases hj : j ∈ vs
  · by_cases hl : j < σ.length
    · rw [wipe_none hj hl, wipe_none hj (by rw [h.1]; exact hl)]
    · rw [List.getElem?_eq_none (by rw [wipe_length, h.1]; omega), List.getElem?_eq_none (by rw [wipe_length]; omega)]
  · rw [wipe_get hj, wipe_get hj, h.2 j hj]
/-- a name's slot takes data -/
theorem Rep.setD {i : Nat} {d : Dat} {v : V} (R : Rep ca F m σ H) (hi : i < m.length) (q : IsD ca F d v) : Rep ca F (m.set i (some (.dat d))) (σ.set i (some v)) H ∧ ∀ b, Own (m.set i (some (.dat d))) (σ.set i (some v)) b → Own m σ b := by
  have hs : i < σ.length := by rw [← R.len]; exact hi
  have back : ∀ {j : Nat} {c : Dat}, (m.set i (some (Slo.dat d)))[j]? = some (some (.own c)) → i ≠ j ∧ m[j]? = some (some (.own c)) := fun {j c} e => by
    by_cases hj : i = j
    · subst hj; rw [List.getElem?_set_self hi] at e; cases e
    · rw [List.getElem?_set_ne hj] at e; exact ⟨hj, e⟩
  refine ⟨⟨R.sub, by rw [List.length_set, List.length_set, R.len], fun j c e => ?_, fun j c e => ?_, fun j k c c2 a h1 h2 h3 h4 => ?_⟩, fun b ⟨j, c, h1, h2⟩ => ?_⟩
  · by_cases hj : i = j
    · subst hj
      rw [List.getElem?_set_self hi] at e
      cases e
      exact ⟨v, List.getElem?_set_self hs, q⟩
    · rw [List.getElem?_set_ne hj] at e ⊢
      exact R.dat j c e
  · obtain ⟨n, e1⟩ := back e
    rw [List.getElem?_set_ne n]
    exact R.own j c e1
  · obtain ⟨n1, e1⟩ := back h1
    obtain ⟨n2, e2⟩ := back h2
    rw [List.getElem?_set_ne n1] at h3
    rw [List.getElem?_set_ne n2] at h4
    exact R.inj j k c c2 a e1 e2 h3 h4
  · obtain ⟨n1, e1⟩ := back h1
    rw [List.getElem?_set_ne n1] at h2
    exact ⟨j, c, e1, h2⟩
/-- the reading of a target of names -/
def gP (ca : Nat → Addr) (p : Pat) : TG := fun v σ H Q => ∃ F m d m', Rep ca F m σ H ∧ IsD ca F d v ∧ bindP p d m = some m' ∧ ∀ σ', Rep ca F m' σ' H → OnlyAt (patIx p) σ σ' → (∀ b, Own m' σ' b → Own m σ b) → Q σ' H
def gPs (ca : Nat → Addr) (p : Pat) : TGs := fun vs σ H Q => ∃ F m ds m', Rep ca F m σ H ∧ IsDs ca F ds vs ∧ bindP.bindPs p ds m = some m' ∧ ∀ σ', Rep ca F m' σ' H → OnlyAt (patIx p) σ σ' → (∀ b, Own m' σ' b → Own m σ b) → Q σ' H
theorem PG.imp {X : Cx} {e : Expr} {t t' : TG} (h : PG X e t) (k : ∀ v σ H Q, t' v σ H Q → t v σ H Q) : PG X e t' := ⟨fun P s σ H v u Q I r q => h.run P s σ H v u Q I r (k v σ H Q q)⟩
theorem PGs.imp {X : Cx} {e : List Expr} {t t' : TGs} (h : PGs X e t) (k : ∀ v σ H Q, t' v σ H Q → t v σ H Q) : PGs X e t' := ⟨fun P s σ H v u Q I r q => h.run P s σ H v u Q I r (k v σ H Q q)⟩
theorem pg_never {e : Expr} {t : TG} (h : ∀ v σ H Q, ¬ t v σ H Q) : PG X e t := ⟨fun P s σ H v u Q I r q => (h v σ H Q q).elim⟩
theorem asg_len : ∀ {es : List Expr} {env : PySem.Env}, (assignEach es env).length = es.length
  | [], env => rfl
  | e :: r, env => by
    have ih := asg_len (es := r) (env := env)
    cases e <;> (unfold assignEach; rw [List.length_cons, List.length_cons, ih])
theorem asg_plain : ∀ {es : List Expr} {env : PySem.Env}, noStar es = true → (assignEach es env).findIdx? (·.1) = none
  | [], env, _ => rfl
  | e :: r, env, h => by
    obtain ⟨h1, h2⟩ := noStar_cons h
    have ih := asg_plain (env := env) h2
    have ee : assignEach (e :: r) env = (false, assign e env) :: assignEach r env := by
      cases e <;> first | rfl | cases h1
    rw [ee, List.findIdx?_cons, ih]
    rfl
theorem asg_head {e : Expr} {r : List Expr} {env : PySem.Env} (h : starB e = false) : (assignEach (e :: r) env).map (·.2) = assign e env :: (assignEach r env).map (·.2) := by
  cases e <;> first | rfl | cases h
variable {Z : Nam}
theorem loc_of {x : PySem.Str} {sc : Scope} (h : locB sc x = true) : sc.names.lookup x = some .local := by
  unfold locB at h
  exact of_decide_eq_true h
mutual
theorem pat_len : ∀ (p : Pat) {d : Dat} {m m' : Frm}, bindP p d m = some m' → m'.length = m.length
  | .nam i, d, m, m', h => by
    unfold bindP at h
    split at h
    · cases h; rw [List.length_set]
    · cases h
  | .tup p, d, m, m', h => by
    cases d with
    | tup l => exact pats_len p h
    | _ => cases h
  | .nil, d, m, m', h => by cases h
  | .cons _ _, d, m, m', h => by cases h
  | .bad, d, m, m', h => by cases h
theorem pats_len : ∀ (p : Pat) {ds : List Dat} {m m' : Frm}, bindP.bindPs p ds m = some m' → m'.length = m.length
  | .nil, ds, m, m', h => by
    cases ds with
    | nil => cases h; rfl
    | cons _ _ => cases h
  | .cons p r, ds, m, m', h => by
    cases ds with
    | nil => cases h
    | cons d ds =>
      unfold bindP.bindPs at h
      split at h
      · rename_i m1 q
        rw [pats_len r h, pat_len p q]
      · cases h
  | .nam _, ds, m, m', h => by cases ds <;> cases h
  | .tup _, ds, m, m', h => by cases ds <;> cases h
  | .bad, ds, m, m', h => by cases ds <;> cases h
end
/-- a target of names -/
theorem loc_ok {x : PySem.Str} (h : locB X.env.scope x = true) : Loc X.env.scope x ∧ (X.fn x = true ∨ X.env.scope.names.lookup x = some .local) := ⟨.inl (loc_of h), .inr (loc_of h)⟩
theorem st_ok {x : PySem.Str} (hf : ∀ x, X.fn x = true) (h : stB X.env.scope x = true) : Loc X.env.scope x ∧ (X.fn x = true ∨ X.env.scope.names.lookup x = some .local) := by
  unfold stB at h
  split at h
  · rename_i q; exact ⟨.inl q, .inl (hf x)⟩
  · rename_i q; exact ⟨.inr q, .inl (hf x)⟩
  · cases h
theorem pg_pat {ok : PySem.Str → Bool} (hok : ∀ x, ok x = true → Loc X.env.scope x ∧ (X.fn x = true ∨ X.env.scope.names.lookup x = some .local)) (hc : X.calm = true) (hN : X.N.Nodup) (hZ : X.N = Z.N) : ∀ (n : Nat) (tg : Expr), PG X tg (gP ca (toPat Z ok n tg))
  | 0, tg => pg_never fun v σ H Q ⟨F, m, d, m', _, _, e, _⟩ => by
    unfold toPat at e; cases e
  | n + 1, tg => by
    have bad : ∀ v σ H Q, ¬ gP ca Pat.bad v σ H Q := fun v σ H Q ⟨F, m, d, m', _, _, e, _⟩ => by cases e
    cases tg with
    | Name x pos =>
      unfold toPat
      simp only
      split
      · rename_i hx
        have hl := hok x hx
        cases hi : ixOf Z.N x with
        | none => exact pg_never bad
        | some i =>
          refine PG.imp (pg_name hN (by rw [hZ]; exact ixOf_get hi) hl.1 hl.2) fun v σ H Q ⟨F, m, d, m', R, q, e, k⟩ => ?_
          unfold bindP at e
          split at e
          · rename_i hlt
            cases e
            obtain ⟨R', ow⟩ := R.setD hlt q
            refine k _ R' ⟨List.length_set, fun j hj => List.getElem?_set_ne fun z => hj (by subst z; exact List.mem_cons_self)⟩ ow
          · cases e
      · exact pg_never bad
    | Tuple es k pos =>
      unfold toPat
      simp only
      have key : ∀ es : List Expr, PGs X es (gPs ca (es.foldr (fun e r => .cons (toPat Z ok n e) r) .nil)) := fun es => by
        induction es with
        | nil =>
          refine PGs.imp pgs_nil fun vs σ H Q ⟨F, m, ds, m', R, q, e, k⟩ => ?_
          cases ds with
          | nil =>
            cases e
            exact ⟨q, k σ R (OnlyAt.refl σ) fun b z => z⟩
          | cons _ _ => cases e
        | cons e r ih =>
          have h1 := pg_pat hok hc hN hZ n e
          cases hs : starB e with
          | true =>
            have eb : toPat Z ok n e = .bad := by
              cases e <;> first | (cases hs; done) | (cases n <;> rfl)
            refine ⟨fun P s σ H vs us Q I r0 ⟨F, m, ds, m', R, q, e0, k⟩ => ?_⟩
            exfalso
            rw [List.foldr_cons, eb] at e0
            cases ds <;> cases e0
          | false =>
            refine PGs.imp (pgs_cons h1 ih (asg_head hs)) fun vs σ H Q ⟨F, m, ds, m', R, q, e0, k⟩ => ?_
            cases ds with
            | nil => cases e0
            | cons d ds =>
              obtain ⟨v, vr, ev, q1, q2⟩ := q
              rw [List.foldr_cons] at e0
              unfold bindP.bindPs at e0
              split at e0
              · rename_i m1 em
                refine ⟨v, vr, ev, F, m, d, m1, R, q1, em, fun σ1 R1 o1 w1 => ?_⟩
                refine ⟨F, m1, ds, m', R1, q2, e0, fun σ2 R2 o2 w2 => ?_⟩
                exact k σ2 R2 (o1.trans o2) fun b z => w1 b (w2 b z)
              · cases e0
      cases hs : noStar es with
      | true =>
        refine PG.imp (pg_tup hc (key es) asg_len (asg_plain hs)) fun v σ H Q ⟨F, m, d, m', R, q, e, k⟩ => ?_
        cases d with
        | tup l =>
          obtain ⟨a, xs, ev, ea, qs⟩ := q
          refine ⟨a, xs, ev, .inl (.inl (R.sub _ _ ea)), ?_, F, m, l, m', R, qs, e, k⟩
          have lens : ∀ (es : List Expr) {l : List Dat} {m m' : Frm}, bindP.bindPs (es.foldr (fun e r => .cons (toPat Z ok n e) r) .nil) l m = some m' → l.length = es.length := fun es => by
            induction es with
            | nil => intro l m m' e; cases l with
              | nil => rfl
              | cons _ _ => cases e
            | cons x r ih => intro l m m' e; cases l with
              | nil => cases e
              | cons d l =>
                rw [List.foldr_cons] at e
                unfold bindP.bindPs at e
                split at e
                · rw [List.length_cons, List.length_cons, ih e]
                · cases e
          rw [qs.len, lens es e]
        | _ => cases e
      | false =>
        refine pg_never fun v σ H Q ⟨F, m, d, m', _, _, e, _⟩ => ?_
        cases d with
        | tup l =>
          have bads : ∀ (es : List Expr) {l : List Dat} {m m' : Frm}, noStar es = false → bindP.bindPs (es.foldr (fun e r => .cons (toPat Z ok n e) r) .nil) l m = some m' → False := fun es => by
            induction es with
            | nil => intro l m m' h; cases h
            | cons x r ih =>
              intro l m m' h e
              cases l with
              | nil => cases e
              | cons d l =>
                rw [List.foldr_cons] at e
                unfold bindP.bindPs at e
                split at e
                · rename_i m1 em
                  cases hx : starB x with
                  | true =>
                    have eb : toPat Z ok n x = .bad := by
                      cases x <;> first | (cases hx; done) | (cases n <;> rfl)
                    rw [eb] at em; cases em
                  | false =>
                    refine ih ?_ e
                    unfold noStar at h ⊢
                    rw [List.all_cons, hx] at h
                    exact h
                · cases e
          exact bads es hs e
        | _ => cases e
    | _ => exact pg_never bad
end
end SB
set_option maxRecDepth 100000
/-! SbEnum: enumerate over a tuple. -/
namespace SB
open PySem PySem.Spec PyProof.Rows L2
set_option maxHeartbeats 1000000 in
theorem meets_enumT (t : Addr) (items : Array Value) :
    Meets (Builtin.«enumerate.__new__» ⟨[.type "enumerate", .ref t], []⟩) (fun _ R s => s.heap.IsTuple t items ∧
      R (.ok (.ret (.ref (s.heap.push { cls := .type "tuple_iterator", data := .fields #[.ref t, .int 0 0] }).objs.size)))
        { s with heap := (s.heap.push { cls := .type "tuple_iterator", data := .fields #[.ref t, .int 0 0] }).push { cls := .type "enumerate", data := .fields #[.none, .bool false, .ref s.heap.objs.size, rawInt 0, .none, .none] } }) :=
  .of_wp fun prog w A R s hyp => by
    obtain ⟨hp, ge, de, tk, os⟩ := s
    obtain ⟨isT, fin⟩ := hyp
    have hsub := sub_enumerate
    have iter : ∀ {B : Around} {E : Value → Shared → Prop} {Q : Value → Shared → Prop}, Q (.ref hp.objs.size) ⟨hp.push { cls := .type "tuple_iterator", data := .fields #[.ref t, .int 0 0] }, ge, de, tk, os⟩ → wpAny (model prog w) B (pyIter (.ref t)) Q E ⟨hp, ge, de, tk, os⟩ :=
      fun q => (begins_tuple t items).iter prog w _ _ ⟨hp, ge, de, tk, os⟩ _ isT q
    wp_walk using iter
    refine wpAny_stack_any fun st => wpAny_pure ?_
    split
    · rename_i c _ _ _ _ _
      cases (c == Value.type "enumerate") <;> (wp_walk using iter; exact ⟨_, rfl, fin⟩)
    · wp_walk using iter
      exact ⟨_, rfl, fin⟩
theorem call_enumT {prog : Program} {w : World} {A : Around} {E : Value → Shared → Prop} {s : Shared} {t : Addr} {items : Array Value} {Q : Value → Shared → Prop} (hT : s.heap.IsTuple t items)
    (next : ∀ h1, IsEnum h1 (s.heap.objs.size + 1) s.heap.objs.size 0 .none → h1.IsTupleIter s.heap.objs.size t 0 → h1.objs.size = s.heap.objs.size + 2 → (∀ b o, s.heap.get? b = some o → h1.get? b = some o) → Q (.ref (s.heap.objs.size + 1)) { s with heap := h1 }) :
    wpAny (model prog w) A (call (.type "enumerate") [.ref t]) Q E s := by
  refine callType_new F.called_enumerate (by decide) (F.typeCall_enumerate_1 _) (F.newCall_enumerate_1 _) (fun o => F.args_object_init_2 o _) F.entry_enumerate_new (meets_enumT t items) ⟨hT, ?_⟩
  have sz : (s.heap.push { cls := .type "tuple_iterator", data := .fields #[.ref t, .int 0 0] }).objs.size = s.heap.objs.size + 1 := Heap.size_push ..
  show _ ∧ _
  rw [sz]
  have en : IsEnum ((s.heap.push { cls := .type "tuple_iterator", data := .fields #[.ref t, .int 0 0] }).push { cls := .type "enumerate", data := .fields #[.none, .bool false, .ref s.heap.objs.size, rawInt 0, .none, .none] }) (s.heap.objs.size + 1) s.heap.objs.size 0 .none := by
    have z := Heap.get?_push_size (s.heap.push { cls := .type "tuple_iterator", data := .fields #[.ref t, .int 0 0] }) (o := { cls := .type "enumerate", data := .fields #[.none, .bool false, .ref s.heap.objs.size, rawInt 0, .none, .none] }) rfl
    rw [sz] at z
    exact z
  refine ⟨⟨_, en, rfl⟩, next _ en ⟨_, Heap.get?_push_of_some _ (Heap.get?_push_size _ rfl), rfl, rfl⟩ (by rw [Heap.size_push, sz]) fun b o x => ?_⟩
  exact Heap.get?_push_of_some _ (Heap.get?_push_of_some _ x)
/-- the tuple at a, each item in a new pair -/
def IteT (K : PySem.W.Frag) (a : Addr) : It :=
  ⟨fun i H => ∃ (xs : List V) (x : V), SqT K H a xs ∧ xs[i]? = some x, fun i H v H' => ∃ U x, v = .ref U ∧ H U = none ∧ H' = upd H U (.tup [.int (i : Nat), x]) ∧ ∀ xs, SqT K H a xs → xs[i]? = some x, fun i H => ∃ xs : List V, SqT K H a xs ∧ xs.length = i⟩
theorem turn_enumT {P : Program} {w : World} {K : PySem.W.Frag} {elts : List Expr} {kk : Nat} {tpos : Pos} (a e it : Addr) :
    Turn P w K (.Tuple elts kk tpos) (IteT K a) [e, it] e (fun i h => (∃ old, IsEnum h e it ((i : Nat) : Int) old) ∧ h.IsTupleIter it a i ∧ e ≠ it ∧ a ≠ it ∧ a ≠ e) where
  mem := List.mem_cons_self
  obj := fun i h st b hb => by
    obtain ⟨⟨old, he⟩, ⟨o, ho, hc, hd⟩, _⟩ := st
    rcases (show b = e ∨ b = it by simpa using hb) with z | z
    · subst z; exact ⟨_, he, fun v q => nomatch q⟩
    · subst z; exact ⟨o, ho, fun v q => by rw [hd] at q; cases q⟩
  keep := fun i h h' st k => let ⟨⟨old, he⟩, hi, r⟩ := st; ⟨⟨old, k e (by simp) _ he⟩, hi.at fun o q => k it (by simp) o q, r⟩
  item := by
    intro X hP hw hK hc i pins s σ H E I hf st hg
    subst hP hw hK
    obtain ⟨⟨old, he⟩, hit, hne, ha1, ha2⟩ := st
    obtain ⟨xs, x, hq, hx⟩ := hg
    obtain ⟨its, rv, p, hz⟩ := I.tuple hq
    obtain ⟨u, hu, ru⟩ := rv.get hx
    have hel : e < s.heap.objs.size := Heap.lt_size he
    have hil : it < s.heap.objs.size := by obtain ⟨_, q, _⟩ := hit; exact Heap.lt_size q
    have hlt : i < its.toArray.size := by
      have := (List.getElem?_eq_some_iff.mp hu).1
      simpa using this
    have D := Draws.tuple (prog := X.prog) (w := X.w) (A := X.A.in1) (I.ok.hd hc) it a ha1 its.toArray
    refine wpAny_pyNext_enum_itemD D he ⟨hit, p⟩ hlt hne (by simp only [List.mem_cons, List.not_mem_nil, or_false, not_or]; exact ⟨hne, fun z => ha2 z.symm⟩) fun v h1 tk hv ho hst hT hsz hk => ?_
    have hv' : its.toArray[i]? = some u := by simpa using hu
    rw [hv'] at hv
    cases hv
    refine ⟨_, rfl, wpAny_letOwnedTupleGo_enum (s := { s with heap := h1, toks := tk + 1 }) ho fun h2 he' sb => ?_⟩
    have hT2 : h2.get? s.heap.objs.size = some { cls := .type "tuple", data := .seq #[.int i tk, u] } := (sb.2 _ (Nat.ne_of_gt hel)).trans hT
    have new : ObjOk X.prog X.w (upd H s.heap.objs.size (.tup [.int (i : Nat), x])) h2 s.heap.objs.size (.tup [.int (i : Nat), x]) :=
      ⟨by show 2 ≤ sizeLine; decide, [.int i tk, u], .cons ⟨_, rfl⟩ (.cons ru .nil), ⟨_, hT2, rfl, _, rfl⟩⟩
    have I1 : Inv X pins σ (upd H s.heap.objs.size (.tup [.int (i : Nat), x])) { s with heap := h2, toks := tk + 1 } :=
      I.turnedNew (ch := [e, it]) (fun b ob hb q => (sb.2 b (fun z => hb (by simp [z]))).trans (hk b ob (fun z => hb (by simp [z])) (fun z => hb (by simp [z])) q)) hf (Nat.le_refl _) new
    refine ⟨.ref s.heap.objs.size, _, I1, rfl, ⟨_, x, rfl, I.hok.fresh (Nat.le_refl _), rfl, fun ys hy => by rw [I.tuple_inj hy hq]; exact hx⟩, ⟨⟨u, ?_⟩, hst.1.at fun o q => (sb.2 it (Ne.symm hne)).trans q, hne, ha1, ha2⟩, fun b hb => ?_⟩
    · have e1 : ((i + 1 : Nat) : Int) = (i : Int) + 1 := by omega
      rw [e1]
      exact he'
    · have lt : b < s.heap.objs.size := by
        rcases (show b = e ∨ b = it by simpa using hb) with z | z
        · rw [z]; exact hel
        · rw [z]; exact hil
      rw [upd_ne (Nat.ne_of_lt lt)]
      exact (hf b hb).1
  done := by
    intro X hP hw hK hc i pins s σ H E I hf st hg
    subst hP hw hK
    obtain ⟨⟨old, he⟩, hit, hne, ha1, ha2⟩ := st
    obtain ⟨xs, hq, hx⟩ := hg
    obtain ⟨its, rv, p, hz⟩ := I.tuple hq
    obtain ⟨f0, f1, f2, f3, f4, f5⟩ := hf it (by simp)
    have D := Draws.tuple (prog := X.prog) (w := X.w) (A := X.A.in1) (I.ok.hd hc) it a ha1 its.toArray
    have ei : its.toArray.size = i := by rw [List.size_toArray, ← rv.length]; exact hx
    exact wpAny_pyNext_enum_endD D he (by rw [ei]; exact ⟨hit, p⟩) fun h1 eb => ⟨rfl, I.turned (t' := s.toks) (fun b o hb q => eb b o hb q) f0 f1 f3 f4 f5⟩
  self := fun A i s Q E st h => let ⟨⟨_, he⟩, _⟩ := st; wpAny_pyIter_enum he h
def iEnumT (K : PySem.W.Frag) (ta : TA) : TI := fun σ H R => ta σ H fun vs H1 => ∃ a xs, vs = [.ref a] ∧ SqT K H1 a xs ∧ R (IteT K a) H1
theorem pi_enumT {X : Cx} {e : Expr} {ta : TA} {p pos tpos : Pos} {elts : List Expr} {kk : Nat} (hg : Gl X "enumerate") (hm : X.mg "enumerate" = none) (ha : PA X [e] ta) (hs : starEach [e] X.env = [(false, eval e X.env)]) :
    PI X (.Tuple elts kk tpos) (.Call (.Name "enumerate" p) [e] [] pos) (iEnumT X.K ta) := by
  refine ⟨fun pins s σ H R I h => ?_⟩
  refine Call_ (ld_blt I hg hm boot_enumerate (PyProof.Rows.callWith_type1 (thn (ha.run pos pins s σ H _ I h) fun us s1 ⟨vs, H1, I1, r1, a, xs, ex, hq, q⟩ => ?_) hs rfl))
  subst ex
  obtain rfl := Vals.ref1 r1
  obtain ⟨its, rv, p', hz⟩ := I1.tuple hq
  have la : a < s1.heap.objs.size := by
    obtain ⟨o, ho, _⟩ := p'
    exact Heap.lt_size ho
  refine call_enumT p' fun h1 he hit hsz hk => wpAny_pyIter_enum he ?_
  have I2 : Inv X pins σ H1 { s1 with heap := h1 } := I1.kept (t' := s1.toks) hk
  refine ⟨s1.heap.objs.size + 1, [s1.heap.objs.size + 1, s1.heap.objs.size], _, _, H1, rfl, I2, turn_enumT a (s1.heap.objs.size + 1) s1.heap.objs.size, ⟨⟨.none, he⟩, hit, Nat.succ_ne_self _, Nat.ne_of_lt la, Nat.ne_of_lt (Nat.lt_succ_of_lt la)⟩, fun b hb => ?_, q⟩
  have le : s1.heap.objs.size ≤ b := by
    rcases (show b = s1.heap.objs.size + 1 ∨ b = s1.heap.objs.size by simpa using hb) with z | z
    · rw [z]; exact Nat.le_succ _
    · rw [z]; exact Nat.le_refl _
  exact I1.fpOk le (I1.hok.fresh le)
end SB
set_option maxRecDepth 100000
/-! SbIt: what is walked. -/
namespace SB
open PySem L2
/-- an iterator that gives these data, one after the other, while what stands in F stands -/
structure Walk (ca : Nat → Addr) (F : Hp) (ds : List Dat) (J : It) : Prop where
  go : ∀ i H, Same F H → i < ds.length → J.go i H
  stop : ∀ H, Same F H → J.stop ds.length H
  yld : ∀ i H x H' G, Same F G → Same G H → J.yld i H x H' → ∀ d, ds[i]? = some d → ∃ G', ((G' = G ∧ H' = H) ∨ ∃ p o, H p = none ∧ G' = upd G p o ∧ H' = upd H p o) ∧ IsD ca G' d x
section
variable {ca fa : Nat → Addr} {Z : Nam} {T : Tab} {C : Calls} {nn : Bool} {lv : Nat} {X : Cx} {F G H J : Hp} {m : Frm} {σ : St} {W : WX} {s : Shared} {pins : List (Addr × Obj)} {x : PySem.Str} {p pos : Pos} {a b tg : Expr} {x0 y0 : M RV}
theorem isds_of {l : List Dat} {xs : List V} {i : Nat} {d : Dat} (h : IsDs ca F l xs) (e : l[i]? = some d) : ∃ x, xs[i]? = some x ∧ IsD ca F d x := h.get e
theorem get_lt {α : Type} {l : List α} {i : Nat} (h : i < l.length) : ∃ x, l[i]? = some x := ⟨l[i], List.getElem?_eq_getElem h⟩
theorem walk_list {K : PySem.W.Frag} {l : List Dat} {xs : List V} {r : Addr} (ha : F r = some (.lst xs) ∨ ∃ o, F r = some (.frz o (.lst xs))) (h : IsDs ca F l xs) : Walk ca F l (Itl K r) := by
  have sq : ∀ {H : Hp}, Same F H → SqL K H r xs := fun {H} s => by
    rcases ha with q | ⟨o, q⟩
    · exact .inl (.inl (s _ _ q))
    · exact .inl (.inr ⟨o, s _ _ q⟩)
  refine ⟨fun i H s hi => ?_, fun H s => ⟨xs, sq s, by rw [h.len]; exact Nat.le_refl _⟩, fun i H x H' G s1 s2 ⟨e, y⟩ d hd => ⟨G, .inl ⟨rfl, e⟩, ?_⟩⟩
  · obtain ⟨x, hx⟩ := get_lt (l := xs) (by rw [h.len]; exact hi)
    exact ⟨xs, x, sq s, hx⟩
  · obtain ⟨z, hz, q⟩ := h.get hd
    have := y xs (sq (s1.trans s2))
    rw [this] at hz
    cases hz
    exact IsD.mono s1 d _ q
theorem walk_tup {K : PySem.W.Frag} {l : List Dat} {xs : List V} {r : Addr} (ha : F r = some (.tup xs)) (h : IsDs ca F l xs) : Walk ca F l (Itt K r) := by
  have sq : ∀ {H : Hp}, Same F H → SqT K H r xs := fun {H} s => .inl (.inl (s _ _ ha))
  refine ⟨fun i H s hi => ?_, fun H s => ⟨xs, sq s, by rw [h.len]; exact Nat.le_refl _⟩, fun i H x H' G s1 s2 ⟨e, y⟩ d hd => ⟨G, .inl ⟨rfl, e⟩, ?_⟩⟩
  · obtain ⟨x, hx⟩ := get_lt (l := xs) (by rw [h.len]; exact hi)
    exact ⟨xs, x, sq s, hx⟩
  · obtain ⟨z, hz, q⟩ := h.get hd
    have := y xs (sq (s1.trans s2))
    rw [this] at hz
    cases hz
    exact IsD.mono s1 d _ q
theorem walk_str {z : PySem.Str} : Walk ca F (z.cps.toList.map oneSign) (Its z) := by
  refine ⟨fun i H s hi => ?_, fun H s => ?_, fun i H x H' G s1 s2 ⟨e, c, hc, ex⟩ d hd => ⟨G, .inl ⟨rfl, e⟩, ?_⟩⟩
  · show i < z.cps.size
    simpa using hi
  · show z.cps.size ≤ _
    simp
  · rw [List.getElem?_map, Array.getElem?_toList, hc] at hd
    cases hd
    exact ex
theorem enum_get : ∀ {l : List Dat} {k i : Nat} {d : Dat}, l[i]? = some d → (enumV k l)[i]? = some (.tup [.int ((k + i : Nat) : Int), d])
  | [], k, i, d, h => by simp at h
  | c :: r, k, 0, d, h => by
    have e : c = d := by simpa using h
    subst e; rfl
  | c :: r, k, i + 1, d, h => by
    have := enum_get (l := r) (k := k + 1) (i := i) (d := d) (by simpa using h)
    unfold enumV
    rw [List.getElem?_cons_succ, this, show k + (i + 1) = k + 1 + i by omega]
theorem enum_len : ∀ {l : List Dat} {k : Nat}, (enumV k l).length = l.length
  | [], k => rfl
  | c :: r, k => by unfold enumV; rw [List.length_cons, List.length_cons, enum_len]
theorem pair_new {G H : Hp} {U : Addr} {y z : V} {d e : Dat} (s : Same G H) (hU : H U = none) (q1 : IsD ca G d y) (q2 : IsD ca G e z) : IsD ca (upd G U (.tup [y, z])) (.tup [d, e]) (.ref U) := by
  have up : Same G (upd G U (.tup [y, z])) := fun b o eb => by rw [upd_ne (ne_of_none (s b o eb) hU)]; exact eb
  exact ⟨U, [y, z], rfl, upd_same, y, [z], rfl, IsD.mono up d y q1, z, [], rfl, IsD.mono up e z q2, rfl⟩
theorem walk_enum {K : PySem.W.Frag} {l : List Dat} {xs : List V} {r : Addr} (ha : F r = some (.lst xs) ∨ ∃ o, F r = some (.frz o (.lst xs))) (h : IsDs ca F l xs) : Walk ca F (enumV 0 l) (Ite K r) := by
  have sq : ∀ {H : Hp}, Same F H → SqL K H r xs := fun {H} s => by
    rcases ha with q | ⟨o, q⟩
    · exact .inl (.inl (s _ _ q))
    · exact .inl (.inr ⟨o, s _ _ q⟩)
  refine ⟨fun i H s hi => ?_, fun H s => ⟨xs, sq s, by rw [h.len, enum_len]; exact Nat.le_refl _⟩, fun i H x H' G s1 s2 ⟨U, y, ex, hU, eH, hy⟩ d hd => ⟨_, .inr ⟨U, _, hU, rfl, eH⟩, ?_⟩⟩
  · obtain ⟨x, hx⟩ := get_lt (l := xs) (by rw [h.len]; rw [enum_len] at hi; exact hi)
    exact ⟨xs, x, sq s, hx⟩
  · have hx := hy xs (sq (s1.trans s2))
    have hi : i < l.length := by
      have := (List.getElem?_eq_some_iff.mp hx).1
      rw [h.len] at this
      exact this
    obtain ⟨c, hc⟩ := get_lt hi
    rw [enum_get (k := 0) hc] at hd
    cases hd
    obtain ⟨z, hz, q⟩ := h.get hc
    rw [hx] at hz
    cases hz
    subst ex
    rw [Nat.zero_add]
    exact pair_new s2 hU rfl (IsD.mono s1 c _ q)
theorem walk_enumT {K : PySem.W.Frag} {l : List Dat} {xs : List V} {r : Addr} (ha : F r = some (.tup xs)) (h : IsDs ca F l xs) : Walk ca F (enumV 0 l) (IteT K r) := by
  have sq : ∀ {H : Hp}, Same F H → SqT K H r xs := fun {H} s => .inl (.inl (s _ _ ha))
  refine ⟨fun i H s hi => ?_, fun H s => ⟨xs, sq s, by rw [h.len, enum_len]⟩, fun i H x H' G s1 s2 ⟨U, y, ex, hU, eH, hy⟩ d hd => ⟨_, .inr ⟨U, _, hU, rfl, eH⟩, ?_⟩⟩
  · obtain ⟨x, hx⟩ := get_lt (l := xs) (by rw [h.len]; rw [enum_len] at hi; exact hi)
    exact ⟨xs, x, sq s, hx⟩
  · have hx := hy xs (sq (s1.trans s2))
    have hi : i < l.length := by
      have := (List.getElem?_eq_some_iff.mp hx).1
      rw [h.len] at this
      exact this
    obtain ⟨c, hc⟩ := get_lt hi
    rw [enum_get (k := 0) hc] at hd
    cases hd
    obtain ⟨z, hz, q⟩ := h.get hc
    rw [hx] at hz
    cases hz
    subst ex
    rw [Nat.zero_add]
    exact pair_new s2 hU rfl (IsD.mono s1 c _ q)
theorem zip_get : ∀ {l k : List Dat} {i : Nat} {d : Dat}, (zipV l k)[i]? = some d → ∃ x y, l[i]? = some x ∧ k[i]? = some y ∧ d = .tup [x, y]
  | [], k, i, d, h => by simp [zipV] at h
  | x :: xs, [], i, d, h => by simp [zipV] at h
  | x :: xs, y :: ys, 0, d, h => by
    have e : Dat.tup [x, y] = d := by simpa [zipV] using h
    exact ⟨x, y, rfl, rfl, e.symm⟩
  | x :: xs, y :: ys, i + 1, d, h => by
    have h' : (zipV xs ys)[i]? = some d := by simpa [zipV] using h
    obtain ⟨u, v, h1, h2, h3⟩ := zip_get h'
    exact ⟨u, v, by simpa using h1, by simpa using h2, h3⟩
theorem zip_len : ∀ {l k : List Dat}, (zipV l k).length = min l.length k.length
  | [], k => by simp [zipV]
  | x :: xs, [] => by simp [zipV]
  | x :: xs, y :: ys => by simp only [zipV, List.length_cons, zip_len]; omega
theorem walk_zip {K : PySem.W.Frag} {l k : List Dat} {xs ys : List V} {r q : Addr} (ha : F r = some (.lst xs) ∨ ∃ o, F r = some (.frz o (.lst xs))) (h : IsDs ca F l xs) (hb : F q = some (.lst ys) ∨ ∃ o, F q = some (.frz o (.lst ys))) (h2 : IsDs ca F k ys) : Walk ca F (zipV l k) (Itz K r q) := by
  have sq : ∀ {r : Addr} {xs : List V} {H : Hp}, (F r = some (.lst xs) ∨ ∃ o, F r = some (.frz o (.lst xs))) → Same F H → SqL K H r xs := fun {r xs H} ha s => by
    rcases ha with q | ⟨o, q⟩
    · exact .inl (.inl (s _ _ q))
    · exact .inl (.inr ⟨o, s _ _ q⟩)
  refine ⟨fun i H s hi => ?_, fun H s => ⟨xs, ys, sq ha s, sq hb s, ?_⟩, fun i H x H' G s1 s2 ⟨U, y, z, ex, hU, eH, hy, hz⟩ d hd => ⟨_, .inr ⟨U, _, hU, rfl, eH⟩, ?_⟩⟩
  · rw [zip_len] at hi
    obtain ⟨x, hx⟩ := get_lt (l := xs) (i := i) (by rw [h.len]; omega)
    obtain ⟨y, hy⟩ := get_lt (l := ys) (i := i) (by rw [h2.len]; omega)
    exact ⟨xs, ys, x, y, sq ha s, sq hb s, hx, hy⟩
  · rw [zip_len, h.len, h2.len]
    omega
  · obtain ⟨c, e, h3, h4, h5⟩ := zip_get hd
    subst h5 ex
    obtain ⟨u, hu, q1⟩ := h.get h3
    obtain ⟨w, hw, q2⟩ := h2.get h4
    rw [hy xs (sq ha (s1.trans s2))] at hu
    rw [hz ys (sq hb (s1.trans s2))] at hw
    cases hu
    cases hw
    exact pair_new s2 hU (IsD.mono s1 c _ q1) (IsD.mono s1 e _ q2)
theorem walk_zipT {K : PySem.W.Frag} {l k : List Dat} {xs ys : List V} {r q : Addr} (ha : F r = some (.tup xs)) (h : IsDs ca F l xs) (hb : F q = some (.tup ys)) (h2 : IsDs ca F k ys) : Walk ca F (zipV l k) (RZ.ItzT K r q) := by
  have sq : ∀ {r : Addr} {xs : List V} {H : Hp}, F r = some (.tup xs) → Same F H → SqT K H r xs := fun {r xs H} ha s => .inl (.inl (s _ _ ha))
  refine ⟨fun i H s hi => ?_, fun H s => ⟨xs, ys, sq ha s, sq hb s, ?_⟩, fun i H x H' G s1 s2 ⟨U, y, z, ex, hU, eH, hy, hz⟩ d hd => ⟨_, .inr ⟨U, _, hU, rfl, eH⟩, ?_⟩⟩
  · rw [zip_len] at hi
    obtain ⟨x, hx⟩ := get_lt (l := xs) (i := i) (by rw [h.len]; omega)
    obtain ⟨y, hy⟩ := get_lt (l := ys) (i := i) (by rw [h2.len]; omega)
    exact ⟨xs, ys, x, y, sq ha s, sq hb s, hx, hy⟩
  · rw [zip_len, h.len, h2.len]
    omega
  · obtain ⟨c, e, h3, h4, h5⟩ := zip_get hd
    subst h5 ex
    obtain ⟨u, hu, q1⟩ := h.get h3
    obtain ⟨w, hw, q2⟩ := h2.get h4
    rw [hy xs (sq ha (s1.trans s2))] at hu
    rw [hz ys (sq hb (s1.trans s2))] at hw
    cases hu
    cases hw
    exact pair_new s2 hU (IsD.mono s1 c _ q1) (IsD.mono s1 e _ q2)
theorem rng_get : ∀ {n : Nat} {lo : Int} {i : Nat} {d : Dat}, (rngV lo n)[i]? = some d → d = .int (lo + i)
  | 0, lo, i, d, h => by simp [rngV] at h
  | n + 1, lo, 0, d, h => by
    have e : Dat.int lo = d := by simpa [rngV] using h
    rw [← e]; simp
  | n + 1, lo, i + 1, d, h => by
    have h' : (rngV (lo + 1) n)[i]? = some d := by simpa [rngV] using h
    rw [rng_get h']
    congr 1
    omega
theorem rng_len : ∀ {n : Nat} {lo : Int}, (rngV lo n).length = n
  | 0, lo => rfl
  | n + 1, lo => by simp only [rngV, List.length_cons, rng_len]
theorem walk_rng {lo : Int} {n : Nat} : Walk ca F (rngV lo n) (Itr lo n) := by
  refine ⟨fun i H s hi => by rw [rng_len] at hi; exact hi, fun H s => by rw [rng_len]; exact Nat.le_refl n, fun i H x H' G s1 s2 ⟨e, y⟩ d hd => ⟨G, .inl ⟨rfl, e⟩, ?_⟩⟩
  rw [rng_get hd]
  exact y
/-! ### the readings -/
def iI (ca : Nat → Addr) (W : WX) (f : M (List Dat)) : TI := fun σ H R => ∃ F m, Rep ca F m σ H ∧ tG ca (fun F' _ _ _ ds J => Walk ca F' ds J) no2 W f F m σ H R
def DIn (ca : Nat → Addr) (nn : Bool) (X : Cx) (tg it : Expr) (f : M (List Dat)) : Prop := ∀ W, Tks nn X W → PI X tg it (iI ca W f)
theorem pi_case {it : Expr} {t : TI} (h : ∀ σ H R, t σ H R → ∃ t', PI X tg it t' ∧ t' σ H R) : PI X tg it t := ⟨fun P s σ H R I q => by
  obtain ⟨t', h1, h2⟩ := h σ H R q
  exact h1.run P s σ H R I h2⟩
/-- a value as data, behind its expression -/
theorem val_dat {F0 H0 : Hp} {A : Addr → Prop} {m1 m2 : Frm} {r : RV} {d : Dat} {v : V} (S : Since F0 H0 A F H (fun b => Own m1 σ b ∨ RB r v b)) (R : Rep ca F m1 σ H) (q : IsR ca F H m1 σ r v) (e : frz (prj r) m1 = some (.ok d, m2)) :
    ∃ G, Since F0 H0 A G H (Own m2 σ) ∧ Rep ca G m2 σ H ∧ IsD ca G d v := by
  obtain ⟨G, S1, R1, q1⟩ := res_prj S R q
  obtain ⟨d', G2, ed, S2, R2, q2⟩ := frz_at R1 q1 e
  cases ed
  exact ⟨G2, S1.trans S2, R2, q2⟩
theorem pl_inv {g : Dat → M (List Dat)} {r : Except Exn (List Dat)} {m' : Frm} (e : bnd x0 (fun x => bnd (frz (prj x)) g) m = some (r, m')) :
    (∃ x, x0 m = some (.error x, m') ∧ r = .error x) ∨ ∃ v m1 d m2, x0 m = some (.ok v, m1) ∧ frz (prj v) m1 = some (.ok d, m2) ∧ g d m2 = some (r, m') := by
  rcases bnd_ok e with ⟨x, m1, e1, e2⟩ | ⟨v, m1, e1, e2⟩
  · cases e2
    exact .inl ⟨x, e1, rfl⟩
  · rcases bnd_ok e2 with ⟨x, m2, e3, e4⟩ | ⟨d, m2, e3, e4⟩
    · exfalso
      cases v with
      | dat d => cases e3
      | own d => cases e3
      | bor i =>
        simp only [prj, frz] at e3
        split at e3 <;> cases e3
    · exact .inr ⟨v, m1, d, m2, e1, e3, e4⟩
theorem di_pl (hc : X.calm = true) (ha : DEn ca nn X a x0) : DIn ca nn X tg a (itM .pl x0 y0) := fun W t => pi_case fun σ H R0 ⟨F, m, R, r, m', e, k⟩ => by
  rcases pl_inv e with ⟨x, e1, er⟩ | ⟨v, m1, d, m2, e1, e2, e3⟩
  · subst er
    exact ⟨_, pi_list (ha W t), F, m, R, .error x, m', e1, k⟩
  · unfold lft at e3
    cases d with
    | lst l =>
      cases e3
      refine ⟨_, pi_list (ha W t), F, m, R, .ok v, m1, e1, fun F1 H1 u S R1 q => ?_⟩
      obtain ⟨G, S2, R2, r, xs, eu, hr, q2⟩ := val_dat S R1 q e2
      refine ⟨r, eu, ⟨xs, ?_⟩, k G H1 _ (S2.less fun b z => z.elim id False.elim) R2 (walk_list hr q2)⟩
      rcases hr with z | ⟨o, z⟩
      · exact .inl (.inl (R2.sub _ _ z))
      · exact .inl (.inr ⟨o, R2.sub _ _ z⟩)
    | tup l =>
      cases e3
      refine ⟨_, pi_tup (ha W t), F, m, R, .ok v, m1, e1, fun F1 H1 u S R1 q => ?_⟩
      obtain ⟨G, S2, R2, r, xs, eu, hr, q2⟩ := val_dat S R1 q e2
      exact ⟨r, eu, ⟨xs, .inl (.inl (R2.sub _ _ hr))⟩, k G H1 _ (S2.less fun b z => z.elim id False.elim) R2 (walk_tup hr q2)⟩
    | str z =>
      cases e3
      refine ⟨_, pi_str (ha W t), F, m, R, .ok v, m1, e1, fun F1 H1 u S R1 q => ?_⟩
      obtain ⟨G, S2, R2, q2⟩ := val_dat S R1 q e2
      exact ⟨z, q2, k G H1 _ (S2.less fun b z => z.elim id False.elim) R2 walk_str⟩
    | _ => cases e3
variable {elts : List Expr} {kk : Nat} {tpos : Pos}
theorem di_en (c : Ctx ca fa Z T C nn lv X) (hk : Z.G.lookup ("enumerate" : PySem.Str) = none) (hg : glB X.env.scope "enumerate" = true) (ha : DEn ca nn X a x0) (hs : starB a = false) : DIn ca nn X (.Tuple elts kk tpos) (.Call (.Name "enumerate" p) [a] [] pos) (itM .en x0 y0) := fun W t => pi_case fun σ H R0 ⟨F, m, R, r, m', e, k⟩ => by
  obtain ⟨g1, g2⟩ := glo_of hg
  have hm := blt_mg c (y := "enumerate") (by decide) hk
  have pa := pa_cons (ha W t) pa_nil (star_no (env := X.env) hs)
  rcases pl_inv e with ⟨x, e1, er⟩ | ⟨v, m1, d, m2, e1, e2, e3⟩
  · subst er
    exact ⟨_, pi_enum g1 hm pa (star_no hs), F, m, R, .error x, m', e1, k⟩
  · cases d with
    | lst l =>
      cases e3
      refine ⟨_, pi_enum g1 hm pa (star_no hs), F, m, R, .ok v, m1, e1, fun F1 H1 u S R1 q => ?_⟩
      obtain ⟨G, S2, R2, r, xs, eu, hr, q2⟩ := val_dat S R1 q e2
      subst eu
      refine ⟨r, xs, rfl, ?_, k G H1 _ (S2.less fun b z => z.elim id False.elim) R2 (walk_enum hr q2)⟩
      rcases hr with z | ⟨o, z⟩
      · exact .inl (.inl (R2.sub _ _ z))
      · exact .inl (.inr ⟨o, R2.sub _ _ z⟩)
    | tup l =>
      cases e3
      refine ⟨_, pi_enumT g1 hm pa (star_no hs), F, m, R, .ok v, m1, e1, fun F1 H1 u S R1 q => ?_⟩
      obtain ⟨G, S2, R2, r, xs, eu, hr, q2⟩ := val_dat S R1 q e2
      subst eu
      exact ⟨r, xs, rfl, .inl (.inl (R2.sub _ _ hr)), k G H1 _ (S2.less fun b z => z.elim id False.elim) R2 (walk_enumT hr q2)⟩
    | _ => cases e3
theorem di_r1 (c : Ctx ca fa Z T C nn lv X) (hk : Z.G.lookup ("range" : PySem.Str) = none) (hg : glB X.env.scope "range" = true) (ha : DEn ca nn X a x0) (hs : starB a = false) : DIn ca nn X tg (.Call (.Name "range" p) [a] [] pos) (itM .r1 x0 y0) := fun W t => pi_case fun σ H R0 ⟨F, m, R, h⟩ => by
  obtain ⟨g1, g2⟩ := glo_of hg
  refine ⟨_, pi_range1 g1 (blt_mg c (by decide) hk) (pa_cons (ha W t) pa_nil (star_no (env := X.env) hs)) (star_no hs), ?_⟩
  show tE ca W x0 σ H _
  obtain ⟨r, m', e, k⟩ := h
  refine ⟨F, m, R, ?_⟩
  rcases bnd_ok e with ⟨x, m1, e1, e2⟩ | ⟨v, m1, e1, e2⟩
  · cases e2
    exact ⟨_, _, e1, k⟩
  · refine ⟨_, _, e1, fun F1 H1 u S R1 q => ?_⟩
    split at e2
    · rename_i n
      split at e2
      · rename_i hn
        cases e2
        have eu : u = V.int n := q
        subst eu
        exact ⟨n, rfl, hn.1, hn.2, k F1 H1 _ (S.less fun b z => .inl (z.elim id False.elim)) R1 walk_rng⟩
      · cases e2
    · cases e2
theorem di_r2 (c : Ctx ca fa Z T C nn lv X) (hk : Z.G.lookup ("range" : PySem.Str) = none) (hg : glB X.env.scope "range" = true) (ha : DEn ca nn X a x0) (hb : DEn ca nn X b y0) (hs : starB a = false) (hs2 : starB b = false) : DIn ca nn X tg (.Call (.Name "range" p) [a, b] [] pos) (itM .r2 x0 y0) := fun W t => pi_case fun σ H R0 ⟨F, m, R, h⟩ => by
  obtain ⟨g1, g2⟩ := glo_of hg
  have e1 : starEach [b] X.env = [(false, eval b X.env)] := star_no hs2
  refine ⟨_, pi_range2 g1 (blt_mg c (by decide) hk) (pa_cons (ha W t) (pa_cons (hb W t) pa_nil (star_no (env := X.env) hs2)) (star_no (env := X.env) hs)) (by rw [star_no hs, e1]) e1, ?_⟩
  show tE ca W x0 σ H _
  have k : itM .r2 x0 y0 = bnd x0 fun x => bnd y0 fun y => match x, y with
    | .dat (.int i), .dat (.int j) => if -(2 ^ 62) ≤ i ∧ i < 2 ^ 62 ∧ -(2 ^ 62) ≤ j ∧ j < 2 ^ 62 then ret (rngV i (j - i).toNat) else fun _ => none
    | _, _ => fun _ => none := rfl
  rw [k] at h
  obtain ⟨r, m', e, k⟩ := h
  refine ⟨F, m, R, ?_⟩
  rcases bnd_ok e with ⟨x, m1, e1, e2⟩ | ⟨v, m1, e1, e2⟩
  · cases e2
    exact ⟨_, _, e1, k⟩
  · refine ⟨_, _, e1, fun F1 H1 u S R1 q => ?_⟩
    obtain ⟨G, S1, R2, q1⟩ := res_prj S R1 q
    show tE ca W y0 σ H1 _
    refine ⟨G, m1, R2, ?_⟩
    rcases bnd_ok e2 with ⟨x, m2, e3, e4⟩ | ⟨v2, m2, e3, e4⟩
    · cases e4
      exact ⟨_, _, e3, fun F2 H2 Cc d S2 R3 q2 => k F2 H2 Cc d (S1.trans S2) R3 q2⟩
    · refine ⟨_, _, e3, fun F2 H2 u2 S2 R3 q2 => ?_⟩
      split at e4
      · rename_i i j
        split at e4
        · rename_i hn
          cases e4
          have eu : u = V.int i := q1
          have eu2 : u2 = V.int j := q2
          subst eu eu2
          exact ⟨i, j, rfl, hn, k F2 H2 _ (S1.trans (S2.less fun b z => .inl (z.elim id False.elim))) R3 walk_rng⟩
        · cases e4
      · cases e4
theorem di_zi (c : Ctx ca fa Z T C nn lv X) (hk : Z.G.lookup ("zip" : PySem.Str) = none) (hg : glB X.env.scope "zip" = true) (ha : DEn ca nn X a x0) (hb : DEn ca nn X b y0) (hs : starB a = false) (hs2 : starB b = false) : DIn ca nn X (.Tuple elts kk tpos) (.Call (.Name "zip" p) [a, b] [] pos) (itM .zi x0 y0) := fun W t => pi_case fun σ H R0 ⟨F, m, R, h⟩ => by
  obtain ⟨g1, g2⟩ := glo_of hg
  refine ⟨_, RZ.pi_zipA g1 (blt_mg c (by decide) hk) (pa_cons (ha W t) (pa_cons (hb W t) pa_nil (star_no (env := X.env) hs2)) (star_no (env := X.env) hs)) (star_no hs) (plain_args (es := [b]) (by unfold noStar; simp [hs2])), ?_⟩
  show tE ca W x0 σ H _
  have k : itM .zi x0 y0 = bnd x0 fun x => bnd y0 fun y => bnd (frz (prj x)) fun dx => bnd (frz (prj y)) fun dy => match dx, dy with
    | .tup l, .tup k => ret (zipV l k)
    | .lst l, .lst k => ret (zipV l k)
    | _, _ => fun _ => none := rfl
  rw [k] at h
  obtain ⟨r, m', e, k⟩ := h
  refine ⟨F, m, R, ?_⟩
  rcases bnd_ok e with ⟨x, m1, e1, e2⟩ | ⟨v, m1, e1, e2⟩
  · cases e2
    exact ⟨_, _, e1, k⟩
  · refine ⟨_, _, e1, fun F1 H1 u S R1 q => ?_⟩
    obtain ⟨G, S1, R2, q1⟩ := res_prj S R1 q
    show tE ca W y0 σ H1 _
    refine ⟨G, m1, R2, ?_⟩
    rcases bnd_ok e2 with ⟨x, m2, e3, e4⟩ | ⟨v2, m2, e3, e4⟩
    · cases e4
      exact ⟨_, _, e3, fun F2 H2 Cc d S2 R3 q2 => k F2 H2 Cc d (S1.trans S2) R3 q2⟩
    · refine ⟨_, _, e3, fun F2 H2 u2 S2 R3 q2 => ?_⟩
      obtain ⟨G2, S3, R4, q3⟩ := res_prj S2 R3 q2
      have p1 : IsP ca G2 σ (prj v) u := IsP.mono S3.k1 q1
      rcases bnd_ok e4 with ⟨x, m3, e5, e6⟩ | ⟨dx, m3, e5, e6⟩
      · obtain ⟨_, _, z, _⟩ := frz_at R4 p1 e5
        cases z
      · obtain ⟨dx', G3, z, S5, R5, q5⟩ := frz_at R4 p1 e5
        cases z
        rcases bnd_ok e6 with ⟨x, m4, e7, e8⟩ | ⟨dy, m4, e7, e8⟩
        · obtain ⟨_, _, z, _⟩ := frz_at R5 (IsP.mono S5.k1 q3) e7
          cases z
        · obtain ⟨dy', G4, z, S6, R6, q6⟩ := frz_at R5 (IsP.mono S5.k1 q3) e7
          cases z
          have S8 : Since F H (Own m σ) G4 H2 (Own m4 σ) := ((S1.trans S3).trans S5).trans S6
          have q5' := IsD.mono S6.k1 _ _ q5
          split at e8
          · cases e8
            obtain ⟨a1, xs, eu, h1, h2⟩ := q5'
            obtain ⟨a2, ys, eu2, h3, h4⟩ := q6
            subst eu eu2
            exact ⟨a1, a2, xs, ys, rfl, .inr ⟨.inl (.inl (R6.sub _ _ h1)), .inl (.inl (R6.sub _ _ h3)), k G4 H2 _ (S8.less fun b z => z.elim id False.elim) R6 (walk_zipT h1 h2 h3 h4)⟩⟩
          · cases e8
            obtain ⟨a1, xs, eu, h1, h2⟩ := q5'
            obtain ⟨a2, ys, eu2, h3, h4⟩ := q6
            subst eu eu2
            have sq : ∀ {r : Addr} {xs : List V}, (G4 r = some (.lst xs) ∨ ∃ o, G4 r = some (.frz o (.lst xs))) → SqL X.K H2 r xs := fun {r xs} ha => by
              rcases ha with z | ⟨o, z⟩
              · exact .inl (.inl (R6.sub _ _ z))
              · exact .inl (.inr ⟨o, R6.sub _ _ z⟩)
            exact ⟨a1, a2, xs, ys, rfl, .inl ⟨sq h1, sq h3, k G4 H2 _ (S8.less fun b z => z.elim id False.elim) R6 (walk_zip h1 h2 h3 h4)⟩⟩
          · cases e8
end
end SB
set_option maxRecDepth 100000
/-! SbComp: a list comprehension of one clause. -/
namespace SB
open PySem L2
def never : WX := fun _ _ _ _ => False
section
variable {ca fa : Nat → Addr} {Z : Nam} {T : Tab} {C : Calls} {nn : Bool} {lv : Nat} {X : Cx} {F G H J : Hp} {m m1 : Frm} {σ : St} {W : WX} {s : Shared} {pins : List (Addr × Obj)} {x : PySem.Str} {p : Pat} {pos : Pos} {elt tg iter : Expr}
/-- an object apart is written -/
theorem Rep.apart {D : Addr} (R : Rep ca F m σ H) (hJ : ∀ b, b ≠ D → J b = H b) (n : F D = none) (o : ¬ Own m σ D) : Rep ca F m σ J := by
  refine ⟨fun b u e => ?_, R.len, R.dat, fun i d e => ?_, R.inj⟩
  · have hb : b ≠ D := fun z => by subst z; rw [n] at e; cases e
    rw [hJ b hb]
    exact R.sub b u e
  · obtain ⟨a, e1, n1, q⟩ := R.own i d e
    have ha : a ≠ D := fun z => o (by subst z; exact ⟨i, d, e, e1⟩)
    exact ⟨a, e1, n1, q.mono (Same.refl F) fun u z => by rw [hJ a ha]; exact z⟩
theorem Since.at {D : Addr} {A : Addr → Prop} (hJ : ∀ b, b ≠ D → J b = H b) (hD : A D) : Since F H A F J A :=
  ⟨Same.refl F, fun b u e q => by rw [hJ b fun z => q (by subst z; exact hD)]; exact e, fun b u e => .inl e, fun b z => .inl z⟩
/-- the test of a comprehension -/
def tstM (hc : Bool) (c : M Bool) : M Bool := if hc then c else ret true
/-- what stands at the head of a turn -/
structure CInv (ca : Nat → Addr) (turn : Dat → M (Option RV)) (F1 H1 : Hp) (m1 : Frm) (σ : St) (vs : List Nat) (D : Addr) (rest : List Dat) (l : List Dat) (m5 : Frm) (H : Hp) : Prop where
  ex : ∃ (G : Hp) (acc : List Dat) (xs : List V) (m' : Frm), Since F1 H1 (Own m1 σ) G H (fun b => Own (wipeF m' vs) (wipe σ vs) b ∨ b = D) ∧ Rep ca G (wipeF m' vs) (wipe σ vs) H ∧ G D = none ∧ H D = some (.lst xs) ∧ IsDs ca G acc xs ∧ ¬ Own (wipeF m' vs) (wipe σ vs) D ∧
    compL turn rest acc m' = some (.ok l, m5)
theorem wipe_idem {vs : List Nat} : wipe (wipe σ vs) vs = wipe σ vs := (show OnlyAt vs σ (wipe σ vs) from ⟨wipe_length _ _, fun j hj => wipe_get hj⟩).wipe
/-- the meaning of a comprehension -/
def cmpL (ds0 : M (List Dat)) (p : Pat) (own : List Nat) (hc : Bool) (cond el : M RV) : M RV := bnd ds0 fun ds => fun m =>
      if own.all (fun i => !isOwn m[i]? && decide (i < m.length)) && (patIx p).all own.contains then
        match compL (turnM p own hc cond el) ds [] m with
        | some (.ok l, m5) => some (.ok (.own (.lst l)), backF m m5 own)
        | _ => none
      else none
theorem comp_tLc {ds0 : M (List Dat)} {vs : List Nat} {hc : Bool} {cond el : M RV} {Q : VK} (h : tE ca W (cmpL ds0 p vs hc cond el) σ H Q) : tLc (iI ca W ds0) (gP ca p) (tT ca never (tstM hc (asB cond))) (tE ca never el) vs σ H Q := by
  obtain ⟨F, m, R, r, m', e, k⟩ := h
  refine ⟨F, m, R, ?_⟩
  rcases bnd_ok e with ⟨x, m1, e1, e2⟩ | ⟨ds, m1, e1, e2⟩
  · cases e2
    exact ⟨_, _, e1, k⟩
  refine ⟨_, _, e1, fun F1 H1 J S R1 wk => ?_⟩
  split at e2
  case isFalse => cases e2
  rename_i chk
  split at e2
  case h_2 => cases e2
  rename_i l m5 ec
  cases e2
  rw [Bool.and_eq_true] at chk
  obtain ⟨ch1, ch2⟩ := chk
  have no : ∀ i ∈ vs, isOwn m1[i]? = false := fun i h => by
    have := List.all_eq_true.mp ch1 i h
    rw [Bool.and_eq_true, Bool.not_eq_true'] at this
    exact this.1
  have sub : ∀ i ∈ patIx p, i ∈ vs := fun i h => by
    have := List.all_eq_true.mp ch2 i h
    simpa using this
  have S1 := S.less (D := Own m1 σ) fun b z => .inl z
  intro D hD
  have inv0 : CInv ca (turnM p vs hc cond el) F1 H1 m1 σ vs D ds l m5 (upd H1 D (.lst [])) := by
    refine ⟨F1, [], [], m1, ?_, (R1.new hD).wipe vs, ?_, upd_same, rfl, ?_, ec⟩
    · exact (Since.new hD).less fun b z => z.elim (fun z => .inl (own_wipe z)) fun z => .inr z.symm
    · cases q : F1 D with
      | none => rfl
      | some o => have := R1.sub _ _ q; rw [hD] at this; cases this
    · intro z
      obtain ⟨⟨o, eo⟩, _⟩ := R1.ownH (own_wipe z)
      rw [hD] at eo; cases eo
  refine ⟨fun i n H => n = ds.length - i ∧ i ≤ ds.length ∧ CInv ca (turnM p vs hc cond el) F1 H1 m1 σ vs D (ds.drop i) l m5 H, ⟨ds.length, rfl, Nat.zero_le _, inv0⟩, ?_⟩
  rintro i n H2 ⟨en, hi, G, acc, xs, m2, S2, R2, nG, hH, qs, nO, hcl⟩
  have s1 : Same F1 G := S2.k1
  have s2 : Same F1 H2 := s1.trans R2.sub
  by_cases hlt : i < ds.length
  · -- one more turn
    obtain ⟨d, hd⟩ := get_lt hlt
    refine .inr ⟨wk.go i H2 s2 hlt, fun H' => CInv ca (turnM p vs hc cond el) F1 H1 m1 σ vs D (ds.drop (i + 1)) l m5 H', fun H' iv => ⟨ds.length - (i + 1), by omega, rfl, hlt, iv⟩, fun x H3 hy => ?_⟩
    have hdrop : ds.drop i = d :: ds.drop (i + 1) := by
      rw [List.drop_eq_getElem_cons hlt]
      congr 1
      rw [List.getElem?_eq_getElem hlt] at hd
      exact Option.some.inj hd
    rw [hdrop] at hcl
    obtain ⟨G', hG, qd⟩ := wk.yld i H2 x H3 G s1 R2.sub hy d hd
    -- the frame behind the iterator's step
    have step : Since F1 H1 (Own m1 σ) G' H3 (fun b => Own (wipeF m2 vs) (wipe σ vs) b ∨ b = D) ∧ Rep ca G' (wipeF m2 vs) (wipe σ vs) H3 ∧ G' D = none ∧ H3 D = some (.lst xs) ∧ IsDs ca G' acc xs := by
      rcases hG with ⟨e1, e2⟩ | ⟨U, o, hU, e1, e2⟩
      · subst e1 e2
        exact ⟨S2, R2, nG, hH, qs⟩
      · subst e1 e2
        have ne : D ≠ U := fun z => by subst z; rw [hH] at hU; cases hU
        exact ⟨S2.trans (Since.fix R2.sub hU), R2.fix hU, by rw [upd_ne ne]; exact nG, by rw [upd_ne ne]; exact hH, IsDs.mono (fun b u eb => by rw [upd_ne (ne_of_none (R2.sub b u eb) hU)]; exact eb) _ _ qs⟩
    obtain ⟨S3, R3, nG3, hH3, qs3⟩ := step
    -- the turn, as the interpreter takes it
    have hturn : ∃ o m6, turnM p vs hc cond el d m2 = some (.ok o, m6) ∧ (match o with
        | none => compL (turnM p vs hc cond el) (ds.drop (i + 1)) acc
        | some v => bnd (frz (prj v)) fun x => if acc.length < sizeLine then compL (turnM p vs hc cond el) (ds.drop (i + 1)) (acc ++ [x]) else fun _ => none) m6 = some (.ok l, m5) := by
      rcases bnd_ok (show bnd (turnM p vs hc cond el d) _ m2 = _ from hcl) with ⟨y, m6, e3, e4⟩ | ⟨o, m6, e3, e4⟩
      · cases e4
      · exact ⟨o, m6, e3, e4⟩
    obtain ⟨o, m6, e3, e4⟩ := hturn
    unfold turnM at e3
    split at e3
    case h_1 => cases e3
    rename_i m3 hb
    refine ⟨G', wipeF m2 vs, d, m3, R3, qd, hb, fun σ2 R4 oa ow => ⟨?_, ?_⟩⟩
    · rw [(oa.mono sub).wipe, wipe_idem]
    have hw : wipe σ2 vs = wipe σ vs := by rw [(oa.mono sub).wipe, wipe_idem]
    have nO4 : ¬ Own m3 σ2 D := fun z => nO (ow D z)
    have S4 : Since F1 H1 (Own m1 σ) G' H3 (fun b => Own m3 σ2 b ∨ b = D) := S3.less fun b z => z.imp (ow b) id
    split at e3
    · -- taken
      rename_i m4 ht1
      split at e3
      · rename_i r4 m7 he1
        cases e3
        refine ⟨G', m3, R4, .ok true, m4, ht1, fun F5 H5 bv S5 R5 q5 => ?_⟩
        cases q5
        rw [if_pos rfl]
        have S5' := S5.less (D := Own m4 σ2) fun b z => .inl z
        obtain ⟨h5, n5, f5⟩ := S5'.stay hH3 nO4
        refine ⟨F5, m4, R5, .ok r4, _, he1, fun F6 H6 y S6 R6 q6 => ?_⟩
        rcases bnd_ok (show bnd (frz (prj r4)) _ _ = _ from e4) with ⟨z, m8, e5, e6⟩ | ⟨dv, m8, e5, e6⟩
        · cases e6
        split at e6
        case isFalse => cases e6
        rename_i hlen
        obtain ⟨G7, S7, R7, q7⟩ := val_dat S6 R6 q6 e5
        obtain ⟨h7, n7, f7⟩ := S7.stay h5 n5
        have f7' := f7 (f5 nG3)
        have qs7 := IsDs.mono (S5'.k1.trans S7.k1) _ _ qs3
        refine ⟨xs, h7, by rw [qs7.len]; exact hlen, G7, acc ++ [dv], xs ++ [y], m8, ?_, ?_, f7', upd_same, qs7.app (.one q7), ?_, e6⟩
        · have S8 : Since F1 H1 (Own m1 σ) G7 H6 (fun b => Own m8 σ2 b ∨ b = D) := S4.trans (S5'.both.trans S7.both)
          have S9 : Since G7 H6 (fun b => Own m8 σ2 b ∨ b = D) G7 (upd H6 D (.lst (xs ++ [y]))) (fun b => Own m8 σ2 b ∨ b = D) := Since.at (D := D) (fun b hb => upd_ne hb) (.inr rfl)
          refine (S8.trans S9).less fun b z => z.imp (fun z => ?_) id
          rw [← hw] at z
          exact own_wipe z
        · have R8 := R7.wipe vs
          rw [hw] at R8
          refine R8.apart (fun b hb => upd_ne hb) f7' fun z => n7 ?_
          rw [← hw] at z
          exact own_wipe z
        · intro z
          rw [← hw] at z
          exact n7 (own_wipe z)
      · cases e3
    · -- left out
      rename_i m4 ht1
      cases e3
      refine ⟨G', m3, R4, .ok false, _, ht1, fun F5 H5 bv S5 R5 q5 => ?_⟩
      cases q5
      rw [if_neg (by simp)]
      have S5' := S5.less (D := Own m6 σ2) fun b z => .inl z
      obtain ⟨h5, n5, f5⟩ := S5'.stay hH3 nO4
      refine ⟨F5, acc, xs, m6, ?_, ?_, f5 nG3, h5, IsDs.mono S5'.k1 _ _ qs3, ?_, e4⟩
      · refine (S4.trans S5'.both).less fun b z => z.imp (fun z => ?_) id
        rw [← hw] at z
        exact own_wipe z
      · have R8 := R5.wipe vs
        rw [hw] at R8
        exact R8
      · intro z
        rw [← hw] at z
        exact n5 (own_wipe z)
    · cases e3
  · -- the end
    have ei : i = ds.length := by omega
    subst ei
    refine .inl ⟨wk.stop H2 s2, ?_⟩
    rw [List.drop_length] at hcl
    have hcl' : some (Except.ok acc, m2) = some (Except.ok l, m5) := hcl
    cases hcl'
    have ln : m5.length = m1.length := by
      have := R2.len
      rw [wipeF_len, wipe_length, ← R1.len] at this
      exact this
    obtain ⟨R9, ow⟩ := Rep.back R1 no ln R2 s1
    refine k G H2 (.ref D) (S1.trans (S2.less fun b z => ?_)) R9 ⟨D, rfl, nG, ⟨xs, hH, qs⟩, fun z => nO (ow D z)⟩
    rcases z with z | z
    · exact .inl (ow b z)
    · have z' : V.ref D = V.ref b := z
      cases z'
      exact .inr rfl
theorem de_comp (c : Ctx ca fa Z T C nn lv X) {ifs : List Expr} {scope : Scope} {own : List (PySem.Str × Nat)} {hc : Bool} {ds0 : M (List Dat)} {cond el : M RV} (hi : DIn ca nn X tg iter ds0) (ok : blkC X.N X.env.scope scope own = true)
    (hg : ∀ (s : Shared) (H : Hp) (C : Addr) (cl : List (PySem.Str × Addr)) (fp : List Addr), PG (X.blk s H scope (compEnvC scope cl C X.env) fp) tg (gP ca p)) (ht : ∀ (s : Shared) (H : Hp) (C : Addr) (cl : List (PySem.Str × Addr)) (fp : List Addr), PTs (X.blk s H scope (compEnvC scope cl C X.env) fp) ifs (tT ca never (tstM hc (asB cond))))
    (he : ∀ (s : Shared) (H : Hp) (C : Addr) (cl : List (PySem.Str × Addr)) (fp : List Addr), PE (X.blk s H scope (compEnvC scope cl C X.env) fp) elt (tE ca never el)) (hs : setB iter = false) :
    DEn ca nn X (.ListComp elt [⟨tg, iter, ifs, 0⟩] scope pos) (cmpL ds0 p (own.map (·.2)) hc cond el) := fun W t => PE.imp (pe_lc c.calm c.nd (hi W t) (blkOk_by ok) hg ht he (fun x => set_no hs x)) fun σ H Q h => comp_tLc h
end
end SB
set_option maxRecDepth 100000
/-! SbToE: every expression that is served does what its translation says. -/
namespace SB
open PySem L2
section
variable {ca fa : Nat → Addr} {Z : Nam} {T : Tab} {C : Calls} {nn : Bool} {lv : Nat} {X : Cx} {F G H J : Hp} {m m1 : Frm} {σ : St} {W : WX} {s : Shared} {pins : List (Addr × Obj)} {x : PySem.Str} {p : Pat} {pos : Pos} {e tg iter : Expr} {sc : Scope} {t t2 : Expr → Ex}
def EOk (ca : Nat → Addr) (T : Tab) (C : Calls) (nn : Bool) (X : Cx) (e : Expr) (y : Ex) : Prop := DEn ca nn X e (ev T C y) ∧ DTn ca nn X e (asB (ev T C y))
theorem eok_bad : EOk ca T C nn X e .bad := ⟨DEn.bad fun m => rfl, DTn.bad (asB_bad fun m => rfl)⟩
theorem eok_of {y : Ex} (h : DEn ca nn X e (ev T C y)) (hp : plainT e = true) : EOk ca T C nn X e y := ⟨h, dt_of h hp⟩
theorem tks_never (h : X.xe = fun _ _ => False) : Tks nn X never := by
  cases nn with
  | true =>
    intro u s' hx
    obtain ⟨a, B, sI, P, σ, H, cls, d, e, I, nb, up, sky, na, os, ag, w⟩ := hx
    exact w.elim
  | false =>
    intro u s' hx
    obtain ⟨a, B, sI, P, σ, H, cls, d, e, I, nb, up, sky, na, os, ag, w⟩ := hx
    exact w.elim
theorem Ctx.blk (c : Ctx ca fa Z T C nn lv X) (s : Shared) (H : Hp) (scope : Scope) (env : PySem.Env) (fp : List Addr) : Ctx ca fa Z T C nn lv (X.blk s H scope env fp) :=
  ⟨c.sta, c.ok, c.gp, c.hnn, c.N, c.nd, c.calm, c.gd, c.room⟩
theorem das_ok (ih : ∀ e, EOk ca T C nn X e (t e)) : ∀ es : List Expr, noStar es = true → DAn ca nn X es (evs T C (exArgs t es))
  | [], _ => da_nil
  | e :: r, h => by
    obtain ⟨h1, h2⟩ := noStar_cons h
    exact da_cons (ih e).1 (das_ok ih r h2) h1
theorem items_ok (ih : ∀ e, EOk ca T C nn X e (t e)) : ∀ es : List Expr, DAn ca nn X es (evs T C (exItems t es))
  | [] => da_nil
  | e :: r => by
    cases hs : starB e with
    | false =>
      have : exItems t (e :: r) = .cons (t e) (exItems t r) := by
        cases e <;> first | rfl | cases hs
      rw [this]
      exact da_cons (ih e).1 (items_ok ih r) hs
    | true =>
      cases e with
      | Starred v q => exact da_star (ih v).1 (items_ok ih r)
      | _ => cases hs
theorem bool_ok (ih : ∀ e, EOk ca T C nn X e (t e)) : ∀ (k : Bool) (es : List Expr), DEn ca nn X (.BoolOp (if k then .And else .Or) es pos) (ev T C (exBool k t es)) ∧ DWn ca nn X (.BoolOp (if k then .And else .Or) es pos) (asB (ev T C (exBool k t es)))
  | k, [] => ⟨DEn.bad fun m => rfl, fun W _ => ⟨fun _ _ _ _ _ _ _ h => by
      obtain ⟨F, m, _, r, m', e, _⟩ := h
      have e' : asB (ev T C (exBool k t [])) m = none := asB_bad (fun m => rfl) m
      rw [e'] at e
      cases e⟩⟩
  | k, [e] => ⟨de_one (ih e).1, dw_one (ih e).2⟩
  | true, e :: b :: r => by
    obtain ⟨h1, h2⟩ := bool_ok ih true (b :: r)
    exact ⟨de_and (ih e).1 h1, dw_and (ih e).2 h2⟩
  | false, e :: b :: r => by
    obtain ⟨h1, h2⟩ := bool_ok ih false (b :: r)
    exact ⟨de_or (ih e).1 h1, dw_or (ih e).2 h2⟩
theorem name_ok (c : Ctx ca fa Z T C nn lv X) : EOk ca T C nn X (.Name x pos) (toName Z X.env.scope x) := by
  unfold toName
  split
  · rename_i hx
    split
    · rename_i i hi
      split
      · rename_i hv
        exact eok_of (de_var (by rw [c.N]; exact ixOf_get hi) (vis_of hv) hx) rfl
      · exact eok_bad
    · split
      · rename_i hg
        obtain ⟨g1, g2⟩ := glo_of hg
        split
        · rename_i d hd
          obtain ⟨u, v, h1, h2, h3⟩ := c.sta.nam x _ (mem_lookup hd)
          exact eok_of (de_ret h3 (pe_glob g1 h1 h2 g2)) rfl
        · exact eok_bad
      · exact eok_bad
  · exact eok_bad
theorem evl_map : ∀ es : List Expr, evl T C (exArgs t es) = es.map fun e => ev T C (t e)
  | [] => rfl
  | e :: r => by
    show ev T C (t e) :: evl T C (exArgs t r) = _
    rw [evl_map r]
    rfl
theorem glob_ok (c : Ctx ca fa Z T C nn lv X) (ih : ∀ e, EOk ca T C nn X e (t e)) {args : List Expr} {q : Pos} (hs : noStar args = true) (hg : glB X.env.scope x = true) : DEn ca nn X (.Call (.Name x q) args [] pos) (ev T C (toGlob Z t X.env.scope x args)) := by
  have bad : DEn ca nn X (.Call (.Name x q) args [] pos) (ev T C .bad) := DEn.bad fun m => rfl
  unfold toGlob
  split
  · rename_i f hf
    exact de_cal c hf hg (das_ok ih args hs) (fun e => by subst e; rfl) hs
  · rename_i f hf
    split
    · rename_i a r
      exact de_calm c hf hg (ih a).1 (das_ok ih r (noStar_cons hs).2) hs
    · exact bad
  · rename_i k hk
    exact de_mak c hk hg (das_ok ih args hs) (fun e => by subst e; rfl) hs
  · exact bad
  · rename_i hk
    split
    · rename_i ex
      subst ex
      split
      · rename_i a te
        split
        · rename_i cl hcl
          exact de_isi c hk hg (ih a).1 (noStar_cons hs).1 hcl
        · exact bad
      · exact bad
    · split
      · rename_i f hf
        split
        · exact bad
        · rename_i a r
          exact de_blt c hk hf hg (das_ok ih (a :: r) hs) hs
      · exact bad
theorem slot_inv {o : Expr} {i : Nat} (h : slotOf Z sc o = some i) : ∃ x q, o = .Name x q ∧ okN x = true ∧ visB sc x = true ∧ ixOf Z.N x = some i := by
  cases o with
  | Name x q =>
    simp only [slotOf] at h
    split at h
    · rename_i hx
      rw [Bool.and_eq_true] at hx
      exact ⟨x, q, rfl, hx.1, hx.2, h⟩
    · cases h
  | _ => cases h
theorem meth_ok (c : Ctx ca fa Z T C nn lv X) (ih : ∀ e, EOk ca T C nn X e (t e)) {o a : Expr} {f : PySem.Str} {apos : Pos} (hs : starB a = false) (hl : (apos.endLine == pos.line) = true) : DEn ca nn X (.Call (.Attribute o f apos) [a] [] pos) (ev T C (toMeth Z t X.env.scope o f a)) := by
  have bad : DEn ca nn X (.Call (.Attribute o f apos) [a] [] pos) (ev T C .bad) := DEn.bad fun m => rfl
  unfold toMeth
  split
  · rename_i ef
    subst ef
    split
    · rename_i i hi
      obtain ⟨x, q, eo, hx, hv, hN⟩ := slot_inv hi
      subst eo
      exact de_app (by rw [c.N]; exact ixOf_get hN) hv hx (ih a).1 hs hl
    · exact bad
  · split
    · rename_i ef
      subst ef
      split
      · rename_i i hi
        obtain ⟨x, q, eo, hx, hv, hN⟩ := slot_inv hi
        subst eo
        exact de_pop (by rw [c.N]; exact ixOf_get hN) hv hx (ih a).1 hs hl
      · exact bad
    · split
      · rename_i mf hm
        split
        · rename_i ho
          exact de_met hm (ih o).1 (ih a).1 ho hs hl
        · exact bad
      · exact bad
/-- x(..), x a local that holds a class -/
theorem de_makv (c : Ctx ca fa Z T C nn lv X) {i k : Nat} {es : List Expr} {xs : M (List RV)} {q : Pos} (hN : X.N[i]? = some x) (hv : Vis X.env.scope x) (hx : okN x = true) (ha : DAn ca nn X es xs) (h0 : es = [] → xs = ret []) (hs : noStar es = true) :
    DEn ca nn X (.Call (.Name x q) es [] pos) (bnd (clsM T i k) fun _ => bnd xs fun rs => bnd (frzs rs) fun ds => makeM T C k ds) := fun W t => ⟨fun pins s σ H Q I ⟨F, m, R, h⟩ => by
  obtain ⟨x1, x2⟩ := okN_2 hx
  have chk : ∃ cd, T.cls[k]? = some cd ∧ cd.exc = false ∧ m[i]? = some (some (.dat (.cls k))) ∧ tK ca W (bnd xs fun rs => bnd (frzs rs) fun ds => makeM T C k ds) F m σ H Q := by
    obtain ⟨r, m', e, kk⟩ := h
    unfold bnd clsM lft' at e
    split at e
    · cases e
    · rename_i e1
      split at e1 <;> cases e1
    · rename_i u m1 e1
      split at e1
      · cases e1
      · rename_i z hz
        cases e1
        dsimp only at hz
        split at hz
        · rename_i c' cd q1 q2
          split at hz
          · rename_i hc
            obtain ⟨h1, h2⟩ := hc
            subst h1
            exact ⟨cd, q2, h2, q1, r, m', e, kk⟩
          · cases hz
        · cases hz
  obtain ⟨cd, hc, he, hm, h'⟩ := chk
  obtain ⟨v, ev, hd⟩ := R.dat i _ hm
  have ev' : v = .ref (ca k) := hd
  subst ev'
  have kp := (c.sta.ins k cd hc he).kp
  refine wpAny_Call_Name_kw (thn ((pe_var hN hv x1 x2).run pins s σ H (fun y H1 => y = .ref (ca k) ∧ H1 = H) I ⟨_, ev, rfl, rfl⟩) fun u s1 ⟨y, H1, I1, ry, ey, eH⟩ => ?_)
  subst ey eH
  obtain rfl : u = Value.ref (ca k) := ry
  cases es with
  | nil =>
    rw [h0 rfl] at h'
    exact PySem.W.callWith_K0 I1.kIn kp (make_at (ds := []) (vs := []) c t I1 R rfl .nil h')
  | cons e r =>
    obtain ⟨s1', s2'⟩ := noStar_cons hs
    refine PySem.W.callWith_K (h₀ := X.base) I1.ok.mod.kin kp (thn ((ha W t).run pos pins s1 σ H1 _ I1 (tK_bndL R h')) fun us s2 ⟨vs, H2, I2, rv, rs, F1, m1, S, R1, q, k⟩ => ⟨I2.kIn, ?_⟩) (star_no s1') (plain_args s2')
    obtain ⟨ds, G, m2, S2, R2, q2, k2⟩ := tK_frzs R1 q k
    exact make_at c t I2 R2 q2 rv k2⟩
theorem cm_mem : ∀ {l : List (Nat × PySem.Str × Nat)} {k g : Nat} {x : PySem.Str}, cmOf l k x = some g → (k, x, g) ∈ l
  | [], k, g, x, h => by cases h
  | (c, m, g') :: r, k, g, x, h => by
    unfold cmOf at h
    split at h
    · rename_i e
      obtain ⟨e1, e2⟩ := e
      cases h
      subst e1 e2
      exact List.mem_cons_self
    · exact List.mem_cons_of_mem _ (cm_mem h)
theorem cls_inv {o : Expr} {y : PySem.Str} {q : Pos} {k : Nat} (h : clsOf Z sc o = some (y, q, k)) : o = .Name y q ∧ glB sc y = true ∧ Z.G.lookup y = some (.cls k) := by
  cases o with
  | Name x q0 =>
    simp only [clsOf] at h
    split at h
    · cases h
    · split at h
      · rename_i hg
        split at h
        · rename_i c hc
          cases h
          exact ⟨rfl, hg, hc⟩
        · cases h
      · cases h
  | _ => cases h
theorem methk_ok (c : Ctx ca fa Z T C nn lv X) (ih : ∀ e, EOk ca T C nn X e (t e)) {o : Expr} {f : PySem.Str} {apos : Pos} {args : List Expr} {kws : List Keyword} (hs : noStar args = true) (hkw : kwAll kws = true) (hl : (apos.endLine == pos.line) = true) :
    DEn ca nn X (.Call (.Attribute o f apos) args kws pos) (ev T C (toMethK Z t X.env.scope o f args kws)) := by
  have bad : DEn ca nn X (.Call (.Attribute o f apos) args kws pos) (ev T C .bad) := DEn.bad fun m => rfl
  unfold toMethK
  split
  · split
    · rename_i h
      rw [Bool.and_eq_true, decide_eq_true_eq] at h
      exact de_omet c (ih o).1 (das_ok ih args hs) (dks_ok (fun e => (ih e).1) kws) (fun e => by subst e; rfl) h.1 hs hkw hl h.2
    · exact bad
  · split
    · rename_i y q k hk
      obtain ⟨eo, hg, hG⟩ := cls_inv hk
      split
      · rename_i g hcm
        split
        · rename_i hn
          subst eo
          exact de_cmet c hG (cm_mem hcm) hg (das_ok ih args hs) (dks_ok (fun e => (ih e).1) kws) (fun e => by subst e; rfl) hs hkw hl (of_decide_eq_true hn)
        · exact bad
      · exact bad
    · split
      · split
        · rename_i a
          exact meth_ok c ih (noStar_cons hs).1 hl
        · exact bad
      · exact bad
theorem call_ok (c : Ctx ca fa Z T C nn lv X) (ih : ∀ e, EOk ca T C nn X e (t e)) {fe : Expr} {args : List Expr} {kws : List Keyword} : DEn ca nn X (.Call fe args kws pos) (ev T C (toCall Z t X.env.scope fe args kws pos)) := by
  have bad : DEn ca nn X (.Call fe args kws pos) (ev T C .bad) := DEn.bad fun m => rfl
  unfold toCall
  split
  · rename_i h0
    rw [Bool.and_eq_true] at h0
    obtain ⟨hs, hkw⟩ := h0
    split
    · rename_i x q
      split
      · unfold toCallN
        split
        · split
          · split
            · rename_i i hi hx _ k hk
              rw [Bool.and_eq_true] at hx
              exact de_makv c (by rw [c.N]; exact ixOf_get hi) (vis_of hx.2) hx.1 (das_ok ih args hs) (fun e => by subst e; rfl) hs
            · exact bad
          · exact bad
        · split
          · rename_i hg
            exact glob_ok c ih hs hg
          · exact bad
      · unfold toCallK
        split
        · exact bad
        · split
          · rename_i hg
            split
            · rename_i f hf
              exact de_kcal c hf hg (das_ok ih args hs) (dks_ok (fun e => (ih e).1) kws) (fun e => by subst e; rfl) hs hkw
            · rename_i k hk
              exact de_kmak c hk hg (das_ok ih args hs) (dks_ok (fun e => (ih e).1) kws) (fun e => by subst e; rfl) hs hkw
            · exact bad
          · exact bad
    · rename_i o f apos
      split
      · rename_i hl
        exact methk_ok c ih hs hkw hl
      · exact bad
    · exact bad
  · exact bad
theorem sub_ok (c : Ctx ca fa Z T C nn lv X) (ih : ∀ e, EOk ca T C nn X e (t e)) {a i : Expr} : DEn ca nn X (.Subscript a i pos) (ev T C (toSub t a i)) := by
  have bad : DEn ca nn X (.Subscript a i pos) (ev T C .bad) := DEn.bad fun m => rfl
  have opt : ∀ o : Option Expr, POn ca nn X o (partM (exOpt t o) (ev T C (exOpt t o))) := fun o => by
    cases o with
    | none => exact po_n
    | some e =>
      have key : DEn ca nn X e (ev T C (notNil (t e))) := by
        rcases notNil_or (t e) with ⟨_, h⟩ | ⟨h, _⟩
        · rw [h]; exact DEn.bad fun m => rfl
        · rw [h]; exact (ih e).1
      refine po_s (fun v => ?_) key
      have nn : ∀ y, partM (notNil y) v = bnd v fun x => match x with | .dat (.int i) => ret (some i) | _ => fun _ => none := fun y => by cases y <;> rfl
      exact nn (t e)
  unfold toSub
  split
  · rename_i lo hi st q
    split
    · exact de_sli (ih a).1 (opt lo) (opt hi)
    · exact bad
  · rename_i h
    exact de_ix c (ih a).1 (ih i).1 (by cases i <;> first | rfl | exact absurd rfl (h _ _ _ _))
theorem cmp_ok (c : Ctx ca fa Z T C nn lv X) (ih : ∀ e, EOk ca T C nn X e (t e)) {a : Expr} {ops : List CmpOp} {bs : List Expr} : EOk ca T C nn X (.Compare a ops bs pos) (toCmp t a ops bs) := by
  unfold toCmp
  split
  · split
    · exact eok_bad
    · rename_i h
      exact ⟨de_cmp c.hu (ih a).1 (ih _).1 (by simpa using h), dt_cmp c.hu (ih a).1 (ih _).1 (by simpa using h)⟩
  · split
    · exact eok_bad
    · rename_i h
      exact ⟨de_chn c.hu (ih a).1 (ih _).1 (ih _).1 (by simpa using h), dt_chn c.hu (ih a).1 (ih _).1 (ih _).1 (by simpa using h)⟩
  · exact eok_bad
theorem it_ok (c : Ctx ca fa Z T C nn lv X) (ih : ∀ e, EOk ca T C nn X e (t e)) : DIn ca nn X tg iter (itM (toIt Z t X.env.scope tg iter).1 (ev T C (toIt Z t X.env.scope tg iter).2.1) (ev T C (toIt Z t X.env.scope tg iter).2.2)) := by
  have pl : DIn ca nn X tg iter (itM .pl (ev T C (t iter)) (ev T C .nil)) := di_pl c.calm (ih iter).1
  have tup : tupB tg = true → ∃ es k q, tg = .Tuple es k q := fun h => by
    cases tg with
    | Tuple es k q => exact ⟨es, k, q, rfl⟩
    | _ => cases h
  unfold toIt
  split
  · rename_i x q a q2
    split
    · rename_i h
      obtain ⟨h1, h2, h3, h4, h5⟩ := h
      obtain ⟨es, k, q3, et⟩ := tup h4
      subst h1 et
      exact di_en c (Option.isNone_iff_eq_none.mp h2) h3 (ih a).1 h5
    · split
      · rename_i h
        obtain ⟨h1, h2, h3, h5⟩ := h
        subst h1
        exact di_r1 c (Option.isNone_iff_eq_none.mp h2) h3 (ih a).1 h5
      · exact pl
  · rename_i x q a b q2
    split
    · rename_i h
      obtain ⟨h1, h2, h3, h4, h5, h6⟩ := h
      obtain ⟨es, k, q3, et⟩ := tup h4
      subst h1 et
      exact di_zi c (Option.isNone_iff_eq_none.mp h2) h3 (ih a).1 (ih b).1 h5 h6
    · split
      · rename_i h
        obtain ⟨h1, h2, h3, h5, h6⟩ := h
        subst h1
        exact di_r2 c (Option.isNone_iff_eq_none.mp h2) h3 (ih a).1 (ih b).1 h5 h6
      · exact pl
  · exact pl
theorem pts_yes : PTs X [] (tT ca never (tstM false (asB (ev T C .nil)))) := ⟨fun pins s σ H Q I h => pts_nil.run pins s σ H Q I (by
  obtain ⟨F, m, R, k⟩ := h
  exact tB_ret R k)⟩
theorem comp_ok (c : Ctx ca fa Z T C nn lv X) (ih : ∀ e, EOk ca T C nn X e (t e)) {elt : Expr} {ifs : List Expr} {scope : Scope}
    (ih2 : ∀ (s : Shared) (H : Hp) (C' : Addr) (cl : List (PySem.Str × Addr)) (fp : List Addr) (e : Expr), EOk ca T C nn (X.blk s H scope (compEnvC scope cl C' X.env) fp) e (t2 e)) :
    DEn ca nn X (.ListComp elt [⟨tg, iter, ifs, 0⟩] scope pos) (ev T C (toComp Z t t2 X.env.scope (relS scope X.env.scope) elt tg iter ifs scope)) := by
  have bad : DEn ca nn X (.ListComp elt [⟨tg, iter, ifs, 0⟩] scope pos) (ev T C .bad) := DEn.bad fun m => rfl
  unfold toComp
  split
  · exact bad
  · rename_i hs
    have hs : setB iter = false := by simpa using hs
    split
    · rename_i hb
      have hg : ∀ (s : Shared) (H : Hp) (C' : Addr) (cl : List (PySem.Str × Addr)) (fp : List Addr), PG (X.blk s H scope (compEnvC scope cl C' X.env) fp) tg (gP ca (toPat Z (locB (relS scope X.env.scope)) 8 tg)) := fun s H C' cl fp => pg_pat (X := X.blk s H scope (compEnvC scope cl C' X.env) fp) (fun x h => loc_ok h) c.calm c.nd c.N 8 tg
      have he : ∀ (s : Shared) (H : Hp) (C' : Addr) (cl : List (PySem.Str × Addr)) (fp : List Addr), PE (X.blk s H scope (compEnvC scope cl C' X.env) fp) elt (tE ca never (ev T C (t2 elt))) := fun s H C' cl fp => (ih2 s H C' cl fp elt).1 never (tks_never rfl)
      rw [← c.N] at hb
      split
      · exact de_comp (cond := ev T C .nil) (hc := false) c (it_ok c ih) hb hg (fun s H C' cl fp => pts_yes) he hs
      · rename_i cd
        exact de_comp (cond := ev T C (t2 cd)) (hc := true) c (it_ok c ih) hb hg (fun s H C' cl fp => pts_one ((ih2 s H C' cl fp cd).2 never (tks_never rfl))) he hs
      · exact bad
    · exact bad
theorem toE_ok : ∀ (n : Nat) (e : Expr) {X : Cx}, Ctx ca fa Z T C nn lv X → EOk ca T C nn X e (toE Z n X.env.scope e)
  | 0, e, X, c => eok_bad
  | n + 1, e, X, c => by
    have ih := fun e => toE_ok n e c
    unfold toE
    split
    · exact eok_of (de_ret (fun F => rfl) pe_non) rfl
    · exact eok_of (de_ret (fun F => rfl) pe_bl) rfl
    · exact eok_of (de_ret (fun F => rfl) pe_int) rfl
    · exact eok_of (de_ret (fun F => rfl) pe_str) rfl
    · exact name_ok c
    · exact eok_of (de_bin (ih _).1 (ih _).1) rfl
    · exact ⟨de_not (ih _).1, dt_not (ih _).2⟩
    · exact eok_of (de_una (ih _).1) rfl
    · exact ⟨(bool_ok ih true _).1, (bool_ok ih true _).2.dt⟩
    · exact ⟨(bool_ok ih false _).1, (bool_ok ih false _).2.dt⟩
    · exact cmp_ok c ih
    · exact ⟨de_ife (ih _).2 (ih _).1 (ih _).1, dt_ife (ih _).2 (ih _).2 (ih _).2⟩
    · exact eok_of (de_tup (items_ok ih _)) rfl
    · exact eok_of (de_lst (items_ok ih _)) rfl
    · exact eok_of de_dic rfl
    · exact eok_of (sub_ok c ih) rfl
    · split
      · rename_i h
        exact eok_of (de_att c (ih _).1 h) rfl
      · exact eok_bad
    · exact eok_of (call_ok c ih) rfl
    · exact eok_of (comp_ok c ih fun s H C' cl fp e => toE_ok n e (c.blk s H _ _ fp)) rfl
    · refine eok_of ?_ rfl
      show DEn ca nn X _ (jstL (evl T C (exArgs (toE Z n X.env.scope) _)) Str.empty)
      rw [evl_map]
      exact de_jst fun e _ => (ih e).1
    · exact eok_of (de_fmt (ih _).1) rfl
    · exact eok_bad
end
end SB
set_option maxRecDepth 100000
/-! SbStm: statements: the reading, what is simple. -/
namespace SB
open PySem L2
/-- the slots that a statement writes -/
def tgIx : Tg → List Nat
  | .pat p => patIx p
  | .tup t => tgIx t
  | .cons t r => tgIx t ++ tgIx r
  | _ => []
def wr : Stm → List Nat
  | .seq s r => wr s ++ wr r
  | .asg t _ => tgIx t
  | .par i j _ _ => [i, j]
  | .hdr i j _ => [i, j]
  | .ife _ a b => wr a ++ wr b
  | .loop p _ _ _ b => patIx p ++ wr b
  | .whl _ b => wr b
  | .tryf b _ i s => wr b ++ wr s ++ i.toList
  | .tryr b _ _ _ => wr b
  | .tryq b => wr b
  | _ => []
/-- the first slot keeps what it holds -/
structure Keep (kp : Bool) (σ τ : St) : Prop where
  len : τ.length = σ.length
  fst : kp = true → τ[0]? = σ[0]?
section
variable {ca fa : Nat → Addr} {Z : Nam} {T : Tab} {C : Calls} {nn kp : Bool} {lv : Nat} {X : Cx} {F G H J : Hp} {m m1 : Frm} {σ τ : St} {W : WX} {s : Shared} {pins : List (Addr × Obj)} {x : PySem.Str} {p : Pat} {pos : Pos} {e tg iter : Expr} {sc : Scope} {t t2 : Expr → Ex}
theorem Keep.refl (σ : St) : Keep kp σ σ := ⟨rfl, fun _ => rfl⟩
theorem Keep.trans {υ : St} (h : Keep kp σ τ) (k : Keep kp τ υ) : Keep kp σ υ := ⟨k.len.trans h.len, fun z => (k.fst z).trans (h.fst z)⟩
theorem OnlyAt.keep {vs : List Nat} (h : OnlyAt vs σ τ) (k : kp = true → 0 ∉ vs) : Keep kp σ τ := ⟨h.1, fun z => h.2 0 (k z)⟩
theorem Keep.set {i : Nat} {o : Option V} (k : kp = true → i ≠ 0) : Keep kp σ (σ.set i o) := ⟨List.length_set, fun z => List.getElem?_set_ne (k z)⟩
/-- what is to be shown behind a statement -/
def OEnd (ca : Nat → Addr) (kp : Bool) (W : WX) (A : Addr → Prop) (F : Hp) (σ : St) (H : Hp) (D : Ends) : Out → Frm → Prop
  | .nxt, m' => ∀ F' H' σ', Since F H A F' H' (Own m' σ') → Rep ca F' m' σ' H' → Keep kp σ σ' → D.nx σ' H'
  | .brk, m' => ∀ F' H' σ', Since F H A F' H' (Own m' σ') → Rep ca F' m' σ' H' → Keep kp σ σ' → D.bk σ' H'
  | .cnt, m' => ∀ F' H' σ', Since F H A F' H' (Own m' σ') → Rep ca F' m' σ' H' → Keep kp σ σ' → D.ct σ' H'
  | .ret r, m' => ∀ F' H' σ' v, Since F H A F' H' (fun b => Own m' σ' b ∨ RB r v b) → Rep ca F' m' σ' H' → Keep kp σ σ' → IsR ca F' H' m' σ' r v → (∀ i, r ≠ .bor i) → D.rt v H'
  | .exc x, m' => ∀ F' H' σ' C d, Since F H A F' H' (Own m' σ') → Rep ca F' m' σ' H' → Keep kp σ σ' → IsX ca F' H' x C d → W C d σ' H'
def tO (ca : Nat → Addr) (kp : Bool) (W : WX) (A : Addr → Prop) (f : Frm → Option (Out × Frm)) (F : Hp) (m : Frm) (σ : St) (H : Hp) (D : Ends) : Prop := ∃ o m', f m = some (o, m') ∧ OEnd ca kp W A F σ H D o m'
def tS (ca : Nat → Addr) (kp : Bool) (W : WX) (f : Frm → Option (Out × Frm)) : TS := fun D σ H => ∃ F m, Rep ca F m σ H ∧ tO ca kp W (Own m σ) f F m σ H D
def DSn (ca : Nat → Addr) (kp nn : Bool) (X : Cx) (st : Stmt) (f : Frm → Option (Out × Frm)) : Prop := ∀ W, Tks nn X W → PS X st (tS ca kp W f)
def DSs (ca : Nat → Addr) (kp nn : Bool) (X : Cx) (st : List Stmt) (f : Frm → Option (Out × Frm)) : Prop := ∀ W, Tks nn X W → PSs X st (tS ca kp W f)
theorem OEnd.since {A B : Addr → Prop} {F0 H0 : Hp} {σ0 : St} {D : Ends} {o : Out} {m' : Frm} (S : Since F0 H0 A F H B) (k : Keep kp σ0 σ) (h : OEnd ca kp W A F0 σ0 H0 D o m') : OEnd ca kp W B F σ H D o m' := by
  cases o with
  | nxt => exact fun F' H' σ' S' R q => h F' H' σ' (S.trans S') R (k.trans q)
  | brk => exact fun F' H' σ' S' R q => h F' H' σ' (S.trans S') R (k.trans q)
  | cnt => exact fun F' H' σ' S' R q => h F' H' σ' (S.trans S') R (k.trans q)
  | ret r => exact fun F' H' σ' v S' R q => h F' H' σ' v (S.trans S') R (k.trans q)
  | exc x => exact fun F' H' σ' C d S' R q => h F' H' σ' C d (S.trans S') R (k.trans q)
theorem outOf_ok {α : Type} {x : M α} {g : α → Frm → Option (Out × Frm)} {o : Out} {m' : Frm} (h : outOf x g m = some (o, m')) : (∃ e, x m = some (.error e, m') ∧ o = .exc e) ∨ ∃ a m1, x m = some (.ok a, m1) ∧ g a m1 = some (o, m') := by
  unfold outOf at h
  split at h
  · cases h
  · rename_i e m1 q
    cases h
    exact .inl ⟨e, q, rfl⟩
  · rename_i a m1 q
    exact .inr ⟨a, m1, q, h⟩
/-- behind an expression, its value as it came -/
theorem tO_raw {f : M RV} {g : RV → Frm → Option (Out × Frm)} {D : Ends} (R : Rep ca F m σ H) (h : tO ca kp W (Own m σ) (outOf f g) F m σ H D) :
    tE ca W f σ H fun v H1 => ∃ r F1 m1, Since F H (Own m σ) F1 H1 (fun b => Own m1 σ b ∨ RB r v b) ∧ Rep ca F1 m1 σ H1 ∧ IsR ca F1 H1 m1 σ r v ∧ tO ca kp W (fun b => Own m1 σ b ∨ RB r v b) (g r) F1 m1 σ H1 D := by
  obtain ⟨o, m', e, k⟩ := h
  refine ⟨F, m, R, ?_⟩
  rcases outOf_ok e with ⟨x, e1, eo⟩ | ⟨a, m1, e1, e2⟩
  · subst eo
    exact ⟨.error x, m', e1, fun F' H' C d S R' q => k F' H' σ C d S R' (Keep.refl σ) q⟩
  · exact ⟨.ok a, m1, e1, fun F1 H1 v S R1 q => ⟨a, F1, m1, S, R1, q, o, m', e2, k.since S (Keep.refl σ)⟩⟩
/-- .. as it may be used -/
theorem tO_bnd {f : M RV} {g : RV → Frm → Option (Out × Frm)} {D : Ends} (R : Rep ca F m σ H) (h : tO ca kp W (Own m σ) (outOf f g) F m σ H D) :
    tE ca W f σ H fun v H1 => ∃ r F1 m1, Since F H (Own m σ) F1 H1 (Own m1 σ) ∧ Rep ca F1 m1 σ H1 ∧ IsP ca F1 σ (prj r) v ∧ tO ca kp W (Own m1 σ) (g r) F1 m1 σ H1 D :=
  tE_mono (tO_raw R h) fun v H1 ⟨r, F1, m1, S, R1, q, o, m', e, k⟩ => by
    cases r with
    | dat d => exact ⟨.dat d, F1, m1, S.less fun b z => .inl z, R1, q, o, m', e, k.since (Since.less Since.refl fun b z => .inl z) (Keep.refl σ)⟩
    | bor i => exact ⟨.bor i, F1, m1, S.less fun b z => .inl z, R1, q, o, m', e, k.since (Since.less Since.refl fun b z => .inl z) (Keep.refl σ)⟩
    | own d =>
      obtain ⟨a, ea, n, ow, na⟩ := q
      subst ea
      have S2 := (Since.refl (F := F1) (H := H1) (A := fun b => Own m1 σ b ∨ RB (.own d) (.ref a) b)).frz R1.sub (a := a) (.inr rfl)
      exact ⟨.own d, frzH F1 H1 a, m1, (S.trans S2).less fun b z => .inl z, R1.frz na, ow.frz R1.sub, o, m', e, k.since (S2.less fun b z => .inl z) (Keep.refl σ)⟩
/-- .. a test -/
theorem tO_tst {f : M Bool} {g : Bool → Frm → Option (Out × Frm)} {D : Ends} (R : Rep ca F m σ H) (h : tO ca kp W (Own m σ) (outOf f g) F m σ H D) :
    tT ca W f σ H fun v H1 => ∃ F1 m1, Since F H (Own m σ) F1 H1 (Own m1 σ) ∧ Rep ca F1 m1 σ H1 ∧ tO ca kp W (Own m1 σ) (g v) F1 m1 σ H1 D := by
  obtain ⟨o, m', e, k⟩ := h
  refine ⟨F, m, R, ?_⟩
  rcases outOf_ok e with ⟨x, e1, eo⟩ | ⟨a, m1, e1, e2⟩
  · subst eo
    exact ⟨.error x, m', e1, fun F' H' C d S R' q => k F' H' σ C d S R' (Keep.refl σ) q⟩
  · refine ⟨.ok a, m1, e1, fun F1 H1 v S R1 q => ?_⟩
    cases q
    have S1 := S.less (D := Own m1 σ) fun b z => .inl z
    exact ⟨F1, m1, S1, R1, o, m', e2, k.since S1 (Keep.refl σ)⟩
theorem OEnd.nx {A : Addr → Prop} {D : Ends} {m' : Frm} (h : OEnd ca kp W A F σ H D .nxt m') {F' H' : Hp} {σ' : St} (S : Since F H A F' H' (Own m' σ')) (R : Rep ca F' m' σ' H') (k : Keep kp σ σ') : D.nx σ' H' := h F' H' σ' S R k
/-! ### the simple ones -/
theorem ds_bad {st : Stmt} {f : Frm → Option (Out × Frm)} (hf : ∀ m, f m = none) : DSn ca kp nn X st f := fun W _ => ⟨fun _ _ _ _ _ _ ⟨F, m, _, o, m', e, _⟩ => by
  rw [hf] at e; cases e⟩
theorem dss_nil : DSs ca kp nn X [] (fun m => some (.nxt, m)) := fun W _ => PSs.imp pss_nil fun D σ H ⟨F, m, R, o, m', e, k⟩ => by
  cases e
  exact k F H σ Since.refl R (Keep.refl σ)
theorem dss_cons {st : Stmt} {rest : List Stmt} {f g : Frm → Option (Out × Frm)} (h1 : DSn ca kp nn X st f) (h2 : DSs ca kp nn X rest g) : DSs ca kp nn X (st :: rest) (seqO f g) := fun W t =>
  PSs.imp (pss_cons (h1 W t) (h2 W t)) fun D σ H ⟨F, m, R, o, m', e, k⟩ => by
    refine ⟨F, m, R, ?_⟩
    unfold seqO at e
    split at e
    · rename_i m1 e1
      exact ⟨.nxt, m1, e1, fun F1 H1 σ1 S1 R1 k1 => ⟨F1, m1, R1, o, m', e, k.since S1 k1⟩⟩
    · rename_i q h
      refine ⟨o, m', e, ?_⟩
      cases o with
      | nxt => exact absurd e (h m')
      | brk => exact k
      | cnt => exact k
      | ret r => exact k
      | exc x => exact k
theorem ds_pass : DSn ca kp nn X (.Pass pos) (fun m => some (.nxt, m)) := fun W _ => PS.imp ps_pass fun D σ H ⟨F, m, R, o, m', e, k⟩ => by
  cases e
  exact k F H σ Since.refl R (Keep.refl σ)
theorem ds_brk : DSn ca kp nn X (.Break pos) (fun m => some (.brk, m)) := fun W _ => PS.imp ps_break fun D σ H ⟨F, m, R, o, m', e, k⟩ => by
  cases e
  exact k F H σ Since.refl R (Keep.refl σ)
theorem ds_cnt : DSn ca kp nn X (.Continue pos) (fun m => some (.cnt, m)) := fun W _ => PS.imp ps_continue fun D σ H ⟨F, m, R, o, m', e, k⟩ => by
  cases e
  exact k F H σ Since.refl R (Keep.refl σ)
theorem ds_doc {st : Stmt} (h : PS X st tNext) : DSn ca kp nn X st (fun m => some (.nxt, m)) := fun W _ => PS.imp h fun D σ H ⟨F, m, R, o, m', e, k⟩ => by
  cases e
  exact k F H σ Since.refl R (Keep.refl σ)
theorem ds_exp {f : M RV} (he : DEn ca nn X e f) (hs : swapsWith e none pos.line X.env = pure false) : DSn ca kp nn X (.Expr e pos) (outOf f fun _ m => some (.nxt, m)) := fun W t =>
  PS.imp (ps_expr (he W t) hs) fun D σ H ⟨F, m, R, h⟩ => tE_mono (tO_bnd R h) fun v H1 ⟨r, F1, m1, S, R1, q, o, m', e, k⟩ => by
    cases e
    exact k F1 H1 σ Since.refl R1 (Keep.refl σ)
theorem ds_ret {f : M RV} (he : DEn ca nn X e f) : DSn ca kp nn X (.Return (some e) pos) (outOf f handO) := fun W t =>
  PS.imp (ps_ret (he W t)) fun D σ H ⟨F, m, R, h⟩ => tE_mono (tO_raw R h) fun v H1 ⟨r, F1, m1, S, R1, q, o, m', e, k⟩ => by
    unfold handO at e
    cases r with
    | dat d =>
      cases e
      exact k F1 H1 σ v Since.refl R1 (Keep.refl σ) q (fun i z => nomatch z)
    | own d =>
      cases e
      exact k F1 H1 σ v Since.refl R1 (Keep.refl σ) q (fun i z => nomatch z)
    | bor i =>
      simp only at e
      split at e
      · rename_i d hi
        cases e
        obtain ⟨a, ea, ow, n, oa⟩ := R1.owns hi
        have hv : σ[i]? = some (some v) := q
        rw [ea] at hv
        cases hv
        -- the slot is given up
        have back : ∀ {j : Nat} {y : Slo}, (m1.set i none)[j]? = some (some y) → i ≠ j ∧ m1[j]? = some (some y) := fun {j y} h => by
          by_cases hj : i = j
          · subst hj
            by_cases hl : i < m1.length
            · rw [List.getElem?_set_self hl] at h; cases h
            · rw [List.getElem?_eq_none (by rw [List.length_set]; omega)] at h; cases h
          · rw [List.getElem?_set_ne hj] at h; exact ⟨hj, h⟩
        have R2 : Rep ca F1 (m1.set i none) σ H1 := by
          refine ⟨R1.sub, by rw [List.length_set]; exact R1.len, fun j c h => R1.dat j c (back h).2, fun j c h => R1.own j c (back h).2, fun j j2 c c2 b h1 h2 h3 h4 => R1.inj j j2 c c2 b (back h1).2 (back h2).2 h3 h4⟩
        have own2 : ∀ b, Own (m1.set i none) σ b → Own m1 σ b ∧ b ≠ a := fun b ⟨j, c, h1, h2⟩ => by
          obtain ⟨n1, h3⟩ := back h1
          exact ⟨⟨j, c, h3, h2⟩, fun z => by subst z; exact n1 (R1.inj i j _ _ _ hi h3 ea h2)⟩
        refine k F1 H1 σ _ (Since.less Since.refl fun b z => ?_) R2 (Keep.refl σ) ⟨a, rfl, n, oa, fun z => (own2 a z).2 rfl⟩ (fun i z => nomatch z)
        rcases z with z | z
        · exact .inl (own2 b z).1
        · have z' : V.ref a = V.ref b := z
          cases z'
          exact .inl ow
      · rename_i d hi
        cases e
        obtain ⟨u, ea, hd⟩ := R1.dat i d hi
        have hv : σ[i]? = some (some v) := q
        rw [ea] at hv
        cases hv
        exact k F1 H1 σ _ (Since.less Since.refl fun b z => .inl (z.elim id False.elim)) R1 (Keep.refl σ) hd (fun i z => nomatch z)
      · cases e
theorem ds_retn : DSn ca kp nn X (.Return none pos) (fun m => some (.ret (.dat .non), m)) := fun W _ => PS.imp ps_retN fun D σ H ⟨F, m, R, o, m', e, k⟩ => by
  cases e
  exact k F H σ .non (Since.less Since.refl fun b z => z.elim id False.elim) R (Keep.refl σ) rfl (fun i z => nomatch z)
theorem ds_ife {c : Expr} {a b : List Stmt} {f : M RV} {g h : Frm → Option (Out × Frm)} (hc : DTn ca nn X c (asB f)) (ha : DSs ca kp nn X a g) (hb : DSs ca kp nn X b h) : DSn ca kp nn X (.If c a b pos) (outOf (asB f) fun k => if k then g else h) := fun W t =>
  PS.imp (ps_if (hc W t) (ha W t) (hb W t)) fun D σ H ⟨F, m, R, h⟩ => tT_mono (tO_tst R h) fun k H1 ⟨F1, m1, S, R1, h1⟩ => by
    cases k with
    | true => exact ⟨F1, m1, R1, h1⟩
    | false => exact ⟨F1, m1, R1, h1⟩
/-! ### while -/
theorem ds_whl {c : Expr} {body : List Stmt} {f : M RV} {g : Frm → Option (Out × Frm)} {n : Nat} (hp : PassesOwn (model X.prog X.w) X.A X.env X.xe) (hc : DTn ca nn X c (asB f)) (hb : DSs ca kp nn X body g) : DSn ca kp nn X (.While c body [] pos) (whlL (asB f) g n) := fun W t =>
  PS.imp (ps_while hp (hc W t) (hb W t)) fun D σ H ⟨F, m, R, h⟩ => by
    refine ⟨fun k σ' H' => Keep kp σ σ' ∧ ∃ F' m', Rep ca F' m' σ' H' ∧ tO ca kp W (Own m' σ') (whlL (asB f) g k) F' m' σ' H' D, ⟨n, Keep.refl σ, F, m, R, h⟩, ?_⟩
    rintro k σ1 H1 ⟨k1, F1, m1, R1, o, m', e, kk⟩
    cases k with
    | zero => cases e
    | succ k =>
      unfold whlL at e
      show tT ca W (asB f) σ1 H1 _
      refine ⟨F1, m1, R1, ?_⟩
      split at e
      · rename_i m2 e2
        refine ⟨.ok true, m2, e2, fun F3 H3 bv S3 R3 q3 => ?_⟩
        cases q3
        have S3' := S3.less (D := Own m2 σ1) fun b z => .inl z
        rw [if_pos rfl]
        refine ⟨fun σ' H' => Keep kp σ σ' ∧ ∃ F' m', Rep ca F' m' σ' H' ∧ tO ca kp W (Own m' σ') (whlL (asB f) g k) F' m' σ' H' D, fun σ' H' q => ⟨k, Nat.lt_succ_self k, q⟩, F3, m2, R3, ?_⟩
        have kk' := kk.since S3' (Keep.refl σ1)
        split at e
        · rename_i m3 e3
          exact ⟨.nxt, m3, e3, fun F4 H4 σ4 S4 R4 k4 => ⟨k1.trans k4, F4, m3, R4, o, m', e, kk'.since S4 k4⟩⟩
        · rename_i m3 e3
          exact ⟨.cnt, m3, e3, fun F4 H4 σ4 S4 R4 k4 => ⟨k1.trans k4, F4, m3, R4, o, m', e, kk'.since S4 k4⟩⟩
        · rename_i m3 e3
          cases e
          exact ⟨.brk, _, e3, kk'⟩
        · rename_i q h1 h2 h3
          refine ⟨o, m', e, ?_⟩
          cases o with
          | nxt => exact absurd e (h1 m')
          | cnt => exact absurd e (h2 m')
          | brk => exact absurd e (h3 m')
          | ret r => exact kk'
          | exc x => exact kk'
      · rename_i m2 e2
        cases e
        refine ⟨.ok false, _, e2, fun F3 H3 bv S3 R3 q3 => ?_⟩
        cases q3
        rw [if_neg (by simp)]
        exact kk F3 H3 σ1 (S3.less fun b z => .inl z) R3 (Keep.refl σ1)
      · rename_i x m2 e2
        cases e
        exact ⟨.error x, _, e2, fun F3 H3 Cc d S3 R3 q3 => kk F3 H3 σ1 Cc d S3 R3 (Keep.refl σ1) q3⟩
      · cases e
/-! ### for -/
theorem ds_for (hcal : X.calm = true) {body : List Stmt} {ds0 : M (List Dat)} {g : Frm → Option (Out × Frm)} (hp : PassesOwn (model X.prog X.w) X.A X.env X.xe) (hi : DIn ca nn X tg iter ds0) (hg : PG X tg (gP ca p)) (hb : DSs ca kp nn X body g) (hs : setB iter = false) (hk : kp = true → 0 ∉ patIx p) :
    DSn ca kp nn X (.For tg iter body [] pos) (outOf ds0 fun ds => forL p g ds) := fun W t =>
  PS.imp (ps_for hp hcal (hi W t) hg (hb W t) fun x => set_no hs x) fun D σ H ⟨F, m, R, o, m', e, k⟩ => by
    refine ⟨F, m, R, ?_⟩
    rcases outOf_ok e with ⟨x, e1, eo⟩ | ⟨ds, m1, e1, e2⟩
    · subst eo
      exact ⟨.error x, m', e1, fun F' H' Cc d S R' q => k F' H' σ Cc d S R' (Keep.refl σ) q⟩
    refine ⟨.ok ds, m1, e1, fun F1 H1 J S1 R1 wk => ?_⟩
    have S1' := S1.less (D := Own m1 σ) fun b z => .inl z
    have k1 := k.since S1' (Keep.refl σ)
    refine ⟨fun i n σ' H' => n = ds.length - i ∧ i ≤ ds.length ∧ ∃ F' m2, Same F1 F' ∧ Rep ca F' m2 σ' H' ∧ forL p g (ds.drop i) m2 = some (o, m') ∧ OEnd ca kp W (Own m2 σ') F' σ' H' D o m', ⟨ds.length, rfl, Nat.zero_le _, F1, m1, Same.refl F1, R1, e2, k1⟩, ?_⟩
    rintro i n σ2 H2 ⟨en, hi, F2, m2, s2, R2, e3, k2⟩
    have s3 : Same F1 H2 := s2.trans R2.sub
    by_cases hlt : i < ds.length
    · obtain ⟨d, hd⟩ := get_lt hlt
      have hdrop : ds.drop i = d :: ds.drop (i + 1) := by
        rw [List.drop_eq_getElem_cons hlt]
        congr 1
        rw [List.getElem?_eq_getElem hlt] at hd
        exact Option.some.inj hd
      rw [hdrop] at e3
      unfold forL at e3
      refine .inr ⟨wk.go i H2 s3 hlt, fun σ' H' => ∃ F' m3, Same F1 F' ∧ Rep ca F' m3 σ' H' ∧ forL p g (ds.drop (i + 1)) m3 = some (o, m') ∧ OEnd ca kp W (Own m3 σ') F' σ' H' D o m', fun σ' H' q => ⟨ds.length - (i + 1), by omega, rfl, hlt, q⟩, fun v H3 hy => ?_⟩
      obtain ⟨G, hG, qd⟩ := wk.yld i H2 v H3 F2 s2 R2.sub hy d hd
      have step : Since F2 H2 (Own m2 σ2) G H3 (Own m2 σ2) ∧ Rep ca G m2 σ2 H3 := by
        rcases hG with ⟨h1, h2⟩ | ⟨U, ob, hU, h1, h2⟩
        · subst h1 h2
          exact ⟨Since.refl, R2⟩
        · subst h1 h2
          exact ⟨Since.fix R2.sub hU, R2.fix hU⟩
      obtain ⟨S3, R3⟩ := step
      split at e3
      · cases e3
      rename_i m3 hbp
      refine ⟨G, m2, d, m3, R3, qd, hbp, fun σ4 R4 oa ow => ?_⟩
      have kk := k2.since (S3.less (D := Own m3 σ4) ow) (oa.keep hk)
      have sG : Same F1 G := s2.trans S3.k1
      refine ⟨G, m3, R4, ?_⟩
      split at e3
      · rename_i m5 e5
        exact ⟨.nxt, m5, e5, fun F5 H5 σ5 S5 R5 k5 => ⟨F5, m5, sG.trans S5.k1, R5, e3, kk.since S5 k5⟩⟩
      · rename_i m5 e5
        exact ⟨.cnt, m5, e5, fun F5 H5 σ5 S5 R5 k5 => ⟨F5, m5, sG.trans S5.k1, R5, e3, kk.since S5 k5⟩⟩
      · rename_i m5 e5
        cases e3
        exact ⟨.brk, _, e5, kk⟩
      · rename_i q h1 h2 h3
        refine ⟨o, m', e3, ?_⟩
        cases o with
        | nxt => exact absurd e3 (h1 m')
        | cnt => exact absurd e3 (h2 m')
        | brk => exact absurd e3 (h3 m')
        | ret r => exact kk
        | exc x => exact kk
    · have ei : i = ds.length := by omega
      subst ei
      rw [List.drop_length] at e3
      cases e3
      exact .inl ⟨wk.stop H2 s3, k2 F2 H2 σ2 Since.refl R2 (Keep.refl σ2)⟩
end
end SB
set_option maxRecDepth 100000
/-! SbAsg: assignments. -/
namespace SB
open PySem L2
section
variable {ca fa : Nat → Addr} {Z : Nam} {T : Tab} {C : Calls} {nn kp : Bool} {lv : Nat} {X : Cx} {F G H J : Hp} {m m1 : Frm} {σ τ : St} {W : WX} {s : Shared} {pins : List (Addr × Obj)} {x : PySem.Str} {p : Pat} {pos q1 q2 : Pos} {e tg iter : Expr} {sc : Scope} {t t2 : Expr → Ex}
theorem sw_no {tgt : Option Expr} {l : Nat} {env : PySem.Env} (h : compB e = false) : swapsWith e tgt l env = pure false := by
  cases e <;> first | rfl | cases h
theorem Keep.setI {i : Nat} {o : Option V} (k : kp = true → i ≠ 0) : Keep kp σ (σ.set i o) := Keep.set k
/-- a slot takes what came -/
theorem setR_at {i : Nat} {r : RV} {v : V} {m2 : Frm} {res : Except Exn Unit} {A : Addr → Prop} (R : Rep ca F m σ H) (q : IsR ca F H m σ r v) (e : setR i r m = some (res, m2)) :
    res = .ok () ∧ ∃ G, Since F H (fun b => Own m σ b ∨ RB r v b) G H (Own m2 (σ.set i (some v))) ∧ Rep ca G m2 (σ.set i (some v)) H := by
  unfold setR at e
  split at e
  · rename_i hi
    have hs : i < σ.length := by rw [← R.len]; exact hi
    cases r with
    | own d =>
      cases e
      obtain ⟨a, ea, n, o, na⟩ := q
      subst ea
      have get : ∀ {j : Nat} {c : Dat}, (m.set i (some (Slo.own d)))[j]? = some (some (.own c)) → (i = j ∧ c = d) ∨ (i ≠ j ∧ m[j]? = some (some (.own c))) := fun {j c} h => by
        by_cases hj : i = j
        · subst hj
          rw [List.getElem?_set_self hi] at h
          cases h
          exact .inl ⟨rfl, rfl⟩
        · rw [List.getElem?_set_ne hj] at h; exact .inr ⟨hj, h⟩
      refine ⟨rfl, F, Since.less Since.refl fun b ⟨j, c, h1, h2⟩ => ?_, ⟨R.sub, by rw [List.length_set, List.length_set, R.len], fun j c h => ?_, fun j c h => ?_, fun j k c c2 b h1 h2 h3 h4 => ?_⟩⟩
      · rcases get h1 with ⟨e1, e2⟩ | ⟨n1, h3⟩
        · subst e1
          rw [List.getElem?_set_self hs] at h2
          cases h2
          exact .inr rfl
        · rw [List.getElem?_set_ne n1] at h2
          exact .inl ⟨j, c, h3, h2⟩
      · by_cases hj : i = j
        · subst hj
          rw [List.getElem?_set_self hi] at h; cases h
        · rw [List.getElem?_set_ne hj] at h ⊢
          exact R.dat j c h
      · rcases get h with ⟨e1, e2⟩ | ⟨n1, h3⟩
        · subst e1 e2
          exact ⟨a, List.getElem?_set_self hs, n, o⟩
        · rw [List.getElem?_set_ne n1]
          exact R.own j c h3
      · rcases get h1 with ⟨e1, e2⟩ | ⟨n1, g1⟩ <;> rcases get h2 with ⟨e3, e4⟩ | ⟨n2, g2⟩
        · rw [← e1, ← e3]
        · subst e1
          rw [List.getElem?_set_self hs] at h3
          rw [List.getElem?_set_ne n2] at h4
          cases h3
          exact absurd ⟨k, c2, g2, h4⟩ na
        · subst e3
          rw [List.getElem?_set_self hs] at h4
          rw [List.getElem?_set_ne n1] at h3
          cases h4
          exact absurd ⟨j, c, g1, h3⟩ na
        · rw [List.getElem?_set_ne n1] at h3
          rw [List.getElem?_set_ne n2] at h4
          exact R.inj j k c c2 b g1 g2 h3 h4
    | dat d =>
      cases e
      obtain ⟨R', ow⟩ := R.setD hi q
      exact ⟨rfl, F, Since.less Since.refl fun b z => .inl (ow b z), R'⟩
    | bor j =>
      simp only at e
      cases hf : frz (.bor j) m with
      | none => rw [hf] at e; cases e
      | some w =>
        obtain ⟨rr, m1⟩ := w
        obtain ⟨d, G, ed, S, R1, qd⟩ := frz_at R (show IsP ca F σ (.bor j) v from q) hf
        subst ed
        rw [hf] at e
        cases e
        obtain ⟨R', ow⟩ := R1.setD (by rw [R1.len]; exact hs) qd
        exact ⟨rfl, G, (S.wide fun b z => .inl z).less ow, R'⟩
  · cases e
theorem outOf_bnd {α β : Type} {f : M α} {g : α → M β} {k : β → Frm → Option (Out × Frm)} : outOf (bnd f g) k = outOf f fun a => outOf (g a) k := by
  funext m
  unfold outOf bnd
  cases f m with
  | none => rfl
  | some w =>
    obtain ⟨r, m1⟩ := w
    cases r <;> rfl
def nxtO : Unit → Frm → Option (Out × Frm) := fun _ m => some (.nxt, m)
/-- name = e -/
theorem ds_set {i : Nat} {f : M RV} {py : Pos} (hN : X.N.Nodup) (hi : X.N[i]? = some x) (hx : Loc X.env.scope x ∧ (X.fn x = true ∨ X.env.scope.names.lookup x = some .local)) (he : DEn ca nn X e f) (hs : swapsWith e (some (.Name x py)) pos.line X.env = pure false) (hk : kp = true → i ≠ 0) :
    DSn ca kp nn X (.Assign [.Name x py] e pos) (outOf (bnd f fun r => setR i r) nxtO) := fun W t =>
  PS.imp (ps_set hN hi hx.1 (he W t) hs hx.2) fun D σ H ⟨F, m, R, h⟩ => by
    rw [outOf_bnd] at h
    refine tE_mono (tO_raw R h) fun v H1 ⟨r, F1, m1, S, R1, q, o, m', e, k⟩ => ?_
    rcases outOf_ok e with ⟨y, e1, eo⟩ | ⟨u, m2, e1, e2⟩
    · obtain ⟨z, _⟩ := setR_at (A := Own m1 σ) R1 q e1
      cases z
    · obtain ⟨_, G, S2, R2⟩ := setR_at (A := Own m1 σ) R1 q e1
      cases e2
      exact k G H1 _ S2 R2 (Keep.set hk)
/-- self.f = e -/
theorem fs_put {f : PySem.Str} {d : Dat} {v : V} (q : IsD ca F d v) : ∀ {fs : List (PySem.Str × Dat)} {fvs : List (PySem.Str × V)}, IsFs ca F fs fvs → IsFs ca F (putD f d fs) (putF f v fvs)
  | [], fvs, h => by
    have h' : fvs = [] := h
    subst h'
    exact ⟨v, [], rfl, q, rfl⟩
  | (g, u) :: r, fvs, ⟨x, ys, e, h1, h2⟩ => by
    subst e
    unfold putD putF
    by_cases hg : g = f
    · rw [if_pos hg, if_pos hg]
      exact ⟨v, ys, rfl, q, h2⟩
    · rw [if_neg hg, if_neg hg]
      exact ⟨x, putF f v ys, rfl, h1, fs_put q h2⟩
theorem fs_len : ∀ {fs : List (PySem.Str × Dat)} {fvs : List (PySem.Str × V)}, IsFs ca F fs fvs → fvs.length = fs.length
  | [], fvs, h => by
    have h' : fvs = [] := h
    subst h'
    rfl
  | g :: r, fvs, ⟨x, ys, e, h1, h2⟩ => by
    subst e
    rw [List.length_cons, List.length_cons, fs_len h2]
theorem sw_att {o : Expr} {f : PySem.Str} {q : Pos} {l : Nat} {env : PySem.Env} : swapsWith e (some (.Attribute o f q)) l env = pure false := by
  cases e <;> rfl
theorem ds_att (c : Ctx ca fa Z T C nn lv X) {i : Nat} {f : PySem.Str} {g : M RV} (hN : X.N[i]? = some x) (hv : visB X.env.scope x = true) (hx : okN x = true) (he : DEn ca nn X e g) :
    DSn ca kp nn X (.Assign [.Attribute (.Name x q1) f q2] e pos) (outOf (bnd g fun r => asgT T C (.att i f) r) nxtO) := fun W t => by
  obtain ⟨x1, x2⟩ := okN_2 hx
  refine PS.imp (ps_fld (f := f) (pe_var hN (vis_of hv) x1 x2) (he W t) sw_att) fun D σ H ⟨F, m, R, h⟩ => ?_
  rw [outOf_bnd] at h
  refine tE_mono (tO_bnd R h) fun v H1 ⟨r, F1, m1, S, R1, p1, o, m', e, k⟩ => ?_
  rcases outOf_ok e with ⟨y, e1, eo⟩ | ⟨u, m2, e1, e2⟩
  · exfalso
    unfold asgT at e1
    rcases bnd_ok e1 with ⟨z, m3, e3, e4⟩ | ⟨d, m3, e3, e4⟩
    · obtain ⟨_, _, z, _⟩ := frz_at R1 p1 e3
      cases z
    · split at e4
      · split at e4
        · split at e4 <;> cases e4
        · cases e4
      · cases e4
  · cases e2
    unfold asgT at e1
    rcases bnd_ok e1 with ⟨z, m3, e3, e4⟩ | ⟨d, m3, e3, e4⟩
    · obtain ⟨_, _, z, _⟩ := frz_at R1 p1 e3
      cases z
    · obtain ⟨d', G, z, S2, R2, qd⟩ := frz_at R1 p1 e3
      cases z
      split at e4
      · rename_i k0 fs hm
        split at e4
        · rename_i cd hc
          split at e4
          · rename_i hb
            cases e4
            simp only [Bool.and_eq_true, Bool.not_eq_true', decide_eq_true_eq] at hb
            obtain ⟨⟨hb1, hb2⟩, hb3⟩ := hb
            have io := c.sta.ins k0 cd hc hb1
            obtain ⟨a, ea, ow, n, dx, fvs, eH, hfs⟩ := R2.owns hm
            have oa : OwnAt ca G (upd H1 a (.ins (ca k0) dx (putF f v fvs))) a (.obj k0 (putD f d fs)) := ⟨dx, _, upd_same, fs_put qd hfs⟩
            obtain ⟨S4, R4⟩ := own_write R2 hm ea (fun b hb => upd_ne hb) oa
            exact ⟨_, ea, a, ca k0, dx, fvs, rfl, eH, io.cl, io.flds f (by simpa using hb2), by rw [fs_len hfs]; omega, k G _ σ (S2.trans S4) R4 (Keep.refl σ)⟩
          · cases e4
        · cases e4
      · cases e4
/-! ### targets that may be subscripts -/
def tU (ca : Nat → Addr) (kp : Bool) (W : WX) (A : Addr → Prop) (f : M Unit) (F : Hp) (m : Frm) (σ : St) (H : Hp) (Q : St → Hp → Prop) : Prop := ∃ r m', f m = some (r, m') ∧ match r with
  | .ok _ => ∀ F' H' σ', Since F H A F' H' (Own m' σ') → Rep ca F' m' σ' H' → Keep kp σ σ' → Q σ' H'
  | .error x => ∀ F' H' σ' C d, Since F H A F' H' (Own m' σ') → Rep ca F' m' σ' H' → Keep kp σ σ' → IsX ca F' H' x C d → W C d σ' H'
theorem tU.since {A B : Addr → Prop} {F0 H0 : Hp} {σ0 : St} {f : M Unit} {Q : St → Hp → Prop} {r : Except Exn Unit} {m' : Frm} (S : Since F0 H0 A F H B) (k : Keep kp σ0 σ) (h : match r with
  | .ok _ => ∀ F' H' σ', Since F0 H0 A F' H' (Own m' σ') → Rep ca F' m' σ' H' → Keep kp σ0 σ' → Q σ' H'
  | .error x => ∀ F' H' σ' C d, Since F0 H0 A F' H' (Own m' σ') → Rep ca F' m' σ' H' → Keep kp σ0 σ' → IsX ca F' H' x C d → W C d σ' H') (e : f m = some (r, m')) : tU ca kp W B f F m σ H Q := by
  refine ⟨r, m', e, ?_⟩
  cases r with
  | ok _ => exact fun F' H' σ' S' R q => h F' H' σ' (S.trans S') R (k.trans q)
  | error x => exact fun F' H' σ' C d S' R q => h F' H' σ' C d (S.trans S') R (k.trans q)
def gT (ca : Nat → Addr) (T : Tab) (C : Calls) (kp : Bool) (W : WX) (tt : Tg) : TG := fun v σ H Q => ∃ F m d, Rep ca F m σ H ∧ IsD ca F d v ∧ tU ca kp W (Own m σ) (asgT T C tt (.dat d)) F m σ H Q
def gTs (ca : Nat → Addr) (T : Tab) (C : Calls) (kp : Bool) (W : WX) (tt : Tg) : TGs := fun vs σ H Q => ∃ F m ds, Rep ca F m σ H ∧ IsDs ca F ds vs ∧ tU ca kp W (Own m σ) (asgTs T C tt ds) F m σ H Q
def DTg (ca : Nat → Addr) (T : Tab) (C : Calls) (kp nn : Bool) (X : Cx) (tg : Expr) (tt : Tg) : Prop := ∀ W, Tks nn X W → PG X tg (gT ca T C kp W tt)
theorem dtg_bad {tt : Tg} (h : ∀ d m, asgT T C tt (.dat d) m = none) : DTg ca T C kp nn X tg tt := fun W t => pg_never fun v σ H Q ⟨F, m, d, R, q, r, m', e, _⟩ => by
  rw [h] at e; cases e
theorem dtg_name {i : Nat} {py : Pos} (hN : X.N.Nodup) (hi : X.N[i]? = some x) (hx : Loc X.env.scope x ∧ (X.fn x = true ∨ X.env.scope.names.lookup x = some .local)) (hk : kp = true → i ≠ 0) : DTg ca T C kp nn X (.Name x py) (.pat (.nam i)) := fun W t =>
  PG.imp (pg_name hN hi hx.1 hx.2) fun v σ H Q ⟨F, m, d, R, q, r, m', e, k⟩ => by
    have e' : setR i (.dat d) m = some (r, m') := e
    obtain ⟨er, G, S, R'⟩ := setR_at (A := Own m σ) R (r := .dat d) q e'
    subst er
    exact k G H _ ⟨S.k1, fun b o h z => S.k2 b o h fun y => z (y.elim id False.elim), fun b o h => (S.k3 b o h).imp id (Or.imp id fun y => y.elim id False.elim), fun b y => (S.k4 b y).imp (fun y => y.elim id False.elim) id⟩ R' (Keep.set hk)
theorem dtgs_nil (W : WX) : PGs X [] (gTs ca T C kp W .nil) := PGs.imp pgs_nil fun vs σ H Q ⟨F, m, ds, R, q, r, m', e, k⟩ => by
  cases ds with
  | nil =>
    cases e
    exact ⟨q, k F H σ Since.refl R (Keep.refl σ)⟩
  | cons d ds => cases e
theorem dtgs_cons {es : List Expr} {t1 t2 : Tg} (h1 : PG X e (gT ca T C kp W t1)) (h2 : PGs X es (gTs ca T C kp W t2)) (hs : starB e = false) : PGs X (e :: es) (gTs ca T C kp W (.cons t1 t2)) := PGs.imp (pgs_cons h1 h2 (asg_head hs)) fun vs σ H Q ⟨F, m, ds, R, q, r, m', e, k⟩ => by
  cases ds with
  | nil => cases e
  | cons d ds =>
    obtain ⟨v, vr, ev, qa, qb⟩ := q
    refine ⟨v, vr, ev, F, m, d, R, qa, ?_⟩
    unfold asgTs at e
    rcases bnd_ok e with ⟨y, m1, e1, e2⟩ | ⟨u, m1, e1, e2⟩
    · cases e2
      exact ⟨_, _, e1, k⟩
    · refine ⟨_, _, e1, fun F1 H1 σ1 S1 R1 k1 => ⟨F1, m1, ds, R1, IsDs.mono S1.k1 _ _ qb, tU.since S1 k1 k e2⟩⟩
theorem dtg_tup {es : List Expr} {kk : Nat} {tt : Tg} (hc : X.calm = true) (h : ∀ W, Tks nn X W → PGs X es (gTs ca T C kp W tt)) (hs : noStar es = true) (hl : tgLen tt = es.length) :
    DTg ca T C kp nn X (.Tuple es kk pos) (.tup tt) := fun W t => PG.imp (pg_tup hc (h W t) asg_len (asg_plain hs)) fun v σ H Q ⟨F, m, d, R, q, r, m', e, k⟩ => by
  unfold asgT at e
  have e' : (match d with
    | .tup l => if l.length = tgLen tt then asgTs T C tt l else fun _ => none
    | _ => fun _ => none) m = some (r, m') := e
  cases d with
  | tup l =>
    simp only at e'
    split at e'
    · rename_i hlen
      obtain ⟨a, xs, ev, ea, qs⟩ := q
      exact ⟨a, xs, ev, .inl (.inl (R.sub _ _ ea)), by rw [qs.len, hlen, hl], F, m, l, R, qs, r, m', e', k⟩
    · cases e'
  | _ => cases e'
/-- o[i] = v, by values -/
def rSub (ca : Nat → Addr) : TSet := fun o i v H Q => (∃ a xs z j, o = .ref a ∧ i = .int z ∧ H a = some (.lst xs) ∧ ixN xs.length z = some j ∧ Q (upd H a (.lst (xs.set j v)))) ∨ ∃ a H', o = .ref a ∧ DPut H a i v H' ∧ Q H'
theorem set_sub (hu : X.A.units + 1 < cLine) : PSet X (rSub ca) := fun P s σ H o i v ov iv u Q I ro ri rv h => by
  rcases h with h | h
  · exact set_list P s σ H o i v ov iv u Q I ro ri rv h
  · exact set_dict hu P s σ H o i v ov iv u Q I ro ri rv h
theorem ks_any {key : L2.Key} : ∀ {l : List (L2.Key × Dat)} {kvs : List (L2.Key × V)}, IsKs ca F l kvs → (kvs.any fun kv => decide (kv.1 = key)) = l.any fun kv => decide (kv.1 = key)
  | [], kvs, h => by
    have h' : kvs = [] := h
    subst h'; rfl
  | g :: r, kvs, ⟨x, ys, e, h1, h2⟩ => by
    subst e
    rw [List.any_cons, List.any_cons, ks_any h2]
theorem ks_map {key : L2.Key} {d : Dat} {v : V} (q : IsD ca F d v) : ∀ {l : List (L2.Key × Dat)} {kvs : List (L2.Key × V)}, IsKs ca F l kvs → IsKs ca F (l.map fun kv => if kv.1 = key then (kv.1, d) else kv) (kvs.map fun kv => if kv.1 = key then (kv.1, v) else kv)
  | [], kvs, h => by
    have h' : kvs = [] := h
    subst h'; rfl
  | g :: r, kvs, ⟨x, ys, e, h1, h2⟩ => by
    subst e
    rw [List.map_cons, List.map_cons]
    by_cases hg : g.1 = key
    · rw [if_pos hg, if_pos hg]
      exact ⟨v, _, rfl, q, ks_map q h2⟩
    · rw [if_neg hg, if_neg hg]
      exact ⟨x, _, rfl, h1, ks_map q h2⟩
theorem ks_app {key : L2.Key} {d : Dat} {v : V} (q : IsD ca F d v) : ∀ {l : List (L2.Key × Dat)} {kvs : List (L2.Key × V)}, IsKs ca F l kvs → IsKs ca F (l ++ [(key, d)]) (kvs ++ [(key, v)])
  | [], kvs, h => by
    have h' : kvs = [] := h
    subst h'
    exact ⟨v, [], rfl, q, rfl⟩
  | g :: r, kvs, ⟨x, ys, e, h1, h2⟩ => by
    subst e
    exact ⟨x, _, rfl, h1, ks_app q h2⟩
theorem ks_len : ∀ {l : List (L2.Key × Dat)} {kvs : List (L2.Key × V)}, IsKs ca F l kvs → kvs.length = l.length
  | [], kvs, h => by
    have h' : kvs = [] := h
    subst h'; rfl
  | g :: r, kvs, ⟨x, ys, e, h1, h2⟩ => by
    subst e
    rw [List.length_cons, List.length_cons, ks_len h2]
theorem putK_is {key : L2.Key} {d : Dat} {v : V} (q : IsD ca F d v) {l : List (L2.Key × Dat)} {kvs : List (L2.Key × V)} (h : IsKs ca F l kvs) : IsKs ca F (putK key d l) (L2.putK kvs key v) := by
  unfold putK L2.putK
  rw [ks_any h]
  split
  · exact ks_map q h
  · exact ks_app q h
theorem sub_assign {o i : Expr} {env : PySem.Env} (h : slcB i = false) (v : Value) : assign (.Subscript o i pos) env v = (do
      let ov ← holding [v] (eval o env)
      let iv ← holding [v, ov] (eval i env)
      standAt pos
      holding [v, ov, iv] (setItem ov iv v)
      release [v, ov, iv] []) := by
  cases i <;> first | rfl | cases h
theorem dtg_sub {i : Nat} {ie : Expr} {y : Ex} {xq : Pos} (hu : X.A.units + 1 < cLine) (hN : X.N[i]? = some x) (hv : visB X.env.scope x = true) (hx : okN x = true) (he : DEn ca nn X ie (ev T C y)) (hs : slcB ie = false) :
    DTg ca T C kp nn X (.Subscript (.Name x xq) ie pos) (.sub i y) := fun W t => by
  obtain ⟨x1, x2⟩ := okN_2 hx
  refine PG.imp (pg_sub (pe_var hN (vis_of hv) x1 x2) (he W t) (set_sub (ca := ca) hu) (sub_assign hs)) fun v σ H Q ⟨F, m, d, R, q, r, m', e, k⟩ => ?_
  have e' : bnd (lft' fun m => if isOwn m[i]? then some () else none) (fun _ => bnd (ev T C y) fun y => bnd (frz (prj y)) fun k => fun m => match m[i]? with
    | some (some (.own (.lst l))) => match k with
      | .int z => match L2.ixN l.length z with
        | some j => some (Except.ok (ε := Exn) (), m.set i (some (.own (.lst (l.set j d)))))
        | none => none
      | _ => none
    | some (some (.own (.dic l))) => match keyOf k with
      | some key => if l.length < 1000 then some (.ok (), m.set i (some (.own (.dic (putK key d l))))) else none
      | none => none
    | _ => none) m = some (r, m') := by
    unfold asgT at e
    exact e
  rcases bnd_ok e' with ⟨z, m1, e1, e2⟩ | ⟨u, m1, e1, e2⟩
  · unfold lft' at e1
    split at e1 <;> cases e1
  have h1 : m1 = m ∧ isOwn m[i]? = true := by
    unfold lft' at e1
    dsimp only at e1
    cases ho : isOwn m[i]? with
    | true => rw [ho] at e1; cases e1; exact ⟨rfl, rfl⟩
    | false => rw [ho] at e1; cases e1
  obtain ⟨h1, ho⟩ := h1
  subst h1
  obtain ⟨c, hc⟩ : ∃ c, m1[i]? = some (some (.own c)) := by
    unfold isOwn at ho
    split at ho
    · rename_i c hc
      exact ⟨c, hc⟩
    · cases ho
  obtain ⟨a, ea, _⟩ := R.owns hc
  refine ⟨_, ea, ?_⟩
  show tE ca W (ev T C y) σ H _
  refine ⟨F, m1, R, ?_⟩
  rcases bnd_ok e2 with ⟨z, m2, e3, e4⟩ | ⟨yv, m2, e3, e4⟩
  · cases e4
    exact ⟨_, _, e3, fun F' H' Cc dd S R' q' => k F' H' σ Cc dd S R' (Keep.refl σ) q'⟩
  refine ⟨_, _, e3, fun F2 H2 iv S2 R2 qi => ?_⟩
  rcases bnd_ok e4 with ⟨z, m3, e5, e6⟩ | ⟨dk, m3, e5, e6⟩
  · obtain ⟨G, S3, R3, p3⟩ := res_prj S2 R2 qi
    obtain ⟨_, _, z, _⟩ := frz_at R3 p3 e5
    cases z
  obtain ⟨G, S3, R3, qk⟩ := val_dat S2 R2 qi e5
  have qd := IsD.mono S3.k1 _ _ q
  split at e6
  · rename_i l hl
    split at e6
    · rename_i z
      split at e6
      · rename_i j hj
        cases e6
        obtain ⟨a', ea', ow, n, xs, hx, qs⟩ := R3.owns hl
        rw [ea] at ea'
        cases ea'
        have oa : OwnAt ca G (upd H2 a (.lst (xs.set j v))) a (.lst (l.set j d)) := ⟨_, upd_same, IsDs.set qd j qs⟩
        obtain ⟨S4, R4⟩ := own_write R3 hl ea (fun b hb => upd_ne hb) oa
        exact .inl ⟨a, xs, z, j, rfl, qk, hx, by rw [qs.len]; exact hj, k G _ σ (S3.trans S4) R4 (Keep.refl σ)⟩
      · cases e6
    · cases e6
  · rename_i l hl
    split at e6
    · rename_i key hkey
      split at e6
      · rename_i hlen
        cases e6
        obtain ⟨a', ea', ow, n, kvs, hx, qs⟩ := R3.owns hl
        rw [ea] at ea'
        cases ea'
        have oa : OwnAt ca G (upd H2 a (.dK (L2.putK kvs key v))) a (.dic (putK key d l)) := ⟨_, upd_same, putK_is qd qs⟩
        obtain ⟨S4, R4⟩ := own_write R3 hl ea (fun b hb => upd_ne hb) oa
        have ek : iv = kV key := key_of hkey (qk.at R3.sub)
        subst ek
        refine .inr ⟨a, _, rfl, DPut.k hx ?_, k G _ σ (S3.trans S4) R4 (Keep.refl σ)⟩
        rw [ks_len qs, sizeLine_eq]
        omega
      · cases e6
    · cases e6
  · cases e6
/-- target = e, the target a tuple or a subscript -/
theorem ds_tgt {f : M RV} {tt : Tg} (he : DEn ca nn X e f) (hg : DTg ca T C kp nn X tg tt) (hf : asgT T C tt = fun r => bnd (frz (prj r)) fun d => asgT T C tt (.dat d)) (hs : swapsWithSole [tg] e pos.line X.env = pure false) (hw : swappedStores [tg] e X.env = pure none) (h1 : starB tg = false) :
    DSn ca kp nn X (.Assign [tg] e pos) (outOf (bnd f fun r => asgT T C tt r) nxtO) := fun W t =>
  PS.imp (ps_asg (he W t) (hg W t) hs hw (asg_head h1)) fun D σ H ⟨F, m, R, h⟩ => by
    rw [outOf_bnd] at h
    refine tE_mono (tO_bnd R h) fun v H1 ⟨r, F1, m1, S, R1, p1, o, m', e, k⟩ => ?_
    rw [hf] at e
    dsimp only at e
    rw [outOf_bnd] at e
    rcases outOf_ok e with ⟨z, e1, eo⟩ | ⟨d, m2, e1, e2⟩
    · obtain ⟨_, _, z, _⟩ := frz_at R1 p1 e1
      cases z
    · obtain ⟨d', G, z, S2, R2, qd⟩ := frz_at R1 p1 e1
      cases z
      refine ⟨G, m2, d, R2, qd, ?_⟩
      rcases outOf_ok e2 with ⟨z, e3, eo⟩ | ⟨u, m3, e3, e4⟩
      · subst eo
        exact ⟨_, _, e3, fun F' H' σ' Cc dd S' R' k' q' => k F' H' σ' Cc dd (S2.trans S') R' k' q'⟩
      · cases e4
        exact ⟨_, _, e3, fun F' H' σ' S' R' k' => k F' H' σ' (S2.trans S') R' k'⟩
end
end SB
set_option maxRecDepth 100000
/-! SbAsg2: a, b = x, y; name = [..]. -/
namespace SB
open PySem L2
section
variable {ca fa : Nat → Addr} {Z : Nam} {T : Tab} {C : Calls} {nn kp : Bool} {lv : Nat} {X : Cx} {F G H J : Hp} {m m' m1 : Frm} {σ τ : St} {W : WX} {s : Shared} {pins : List (Addr × Obj)} {x y : PySem.Str} {p : Pat} {pos q1 q2 : Pos} {e tg iter : Expr} {sc : Scope} {t t2 : Expr → Ex}
theorem IsR.stay {A B : Addr → Prop} {r : RV} {v : V} (S : Since F H A G J B) (h : IsR ca F H m σ r v) (hn : ∀ a, RB r v a → ¬ A a) (hB : ∀ b, Own m' τ b → B b) (hb : ∀ i, r = .bor i → τ[i]? = σ[i]?) : IsR ca G J m' τ r v := by
  cases r with
  | dat d => exact IsD.mono S.k1 d v h
  | bor i =>
    have h' : σ[i]? = some (some v) := h
    show τ[i]? = some (some v)
    rw [hb i rfl]
    exact h'
  | own d =>
    obtain ⟨a, ea, n, o, na⟩ := h
    obtain ⟨u, hu⟩ := o.there
    have nA := hn a ea
    obtain ⟨z1, z2, z3⟩ := S.stay hu nA
    exact ⟨a, ea, z3 n, o.mono S.k1 fun z hz => S.k2 a z hz nA, fun z => z2 (hB a z)⟩
theorem IsR.rb {r : RV} {v : V} {a : Addr} (h : IsR ca F H m σ r v) (k : RB r v a) : ¬ Own m σ a := by
  cases r with
  | dat d => exact False.elim k
  | bor i => exact False.elim k
  | own d =>
    obtain ⟨b, eb, n, o, na⟩ := h
    have k' : v = .ref a := k
    rw [eb] at k'
    cases k'
    exact na
theorem hold_at {r : RV} {v : V} {m2 : Frm} {res : Except Exn RV} (R : Rep ca F m σ H) (q : IsR ca F H m σ r v) (e : hold r m = some (res, m2)) :
    ∃ r2 G, res = .ok r2 ∧ Since F H (Own m σ) G H (Own m2 σ) ∧ Rep ca G m2 σ H ∧ IsR ca G H m2 σ r2 v ∧ (∀ i, r2 ≠ .bor i) ∧ ∀ b, RB r2 v b → RB r v b := by
  cases r with
  | dat d => cases e; exact ⟨.dat d, F, rfl, Since.refl, R, q, (fun i z => nomatch z), fun b z => z⟩
  | own d => cases e; exact ⟨.own d, F, rfl, Since.refl, R, q, (fun i z => nomatch z), fun b z => z⟩
  | bor i =>
    have e' : bnd (frz (.bor i)) (fun d => ret (RV.dat d)) m = some (res, m2) := e
    rcases bnd_ok e' with ⟨z, m3, e1, e2⟩ | ⟨d, m3, e1, e2⟩
    · obtain ⟨_, _, z, _⟩ := frz_at R (show IsP ca F σ (.bor i) v from q) e1
      cases z
    · obtain ⟨d', G, z, S, R1, qd⟩ := frz_at R (show IsP ca F σ (.bor i) v from q) e1
      cases z
      cases e2
      exact ⟨.dat d, G, rfl, S, R1, qd, (fun i z => nomatch z), fun b z => z⟩
/-- behind an expression, while new ones are held -/
theorem tO_rawY {Y : Addr → Prop} {f : M RV} {g : RV → Frm → Option (Out × Frm)} {D : Ends} (R : Rep ca F m σ H) (h : tO ca kp W (fun b => Own m σ b ∨ Y b) (outOf f g) F m σ H D) :
    tE ca W f σ H fun v H1 => ∃ r F1 m1, Since F H (Own m σ) F1 H1 (fun b => Own m1 σ b ∨ RB r v b) ∧ Rep ca F1 m1 σ H1 ∧ IsR ca F1 H1 m1 σ r v ∧ tO ca kp W (fun b => (Own m1 σ b ∨ RB r v b) ∨ Y b) (g r) F1 m1 σ H1 D := by
  obtain ⟨o, m', e, k⟩ := h
  refine ⟨F, m, R, ?_⟩
  rcases outOf_ok e with ⟨x, e1, eo⟩ | ⟨a, m1, e1, e2⟩
  · subst eo
    exact ⟨.error x, m', e1, fun F' H' C d S R' q => k F' H' σ C d (S.wide fun b z => .inl z) R' (Keep.refl σ) q⟩
  · exact ⟨.ok a, m1, e1, fun F1 H1 v S R1 q => ⟨a, F1, m1, S, R1, q, o, m', e2, k.since S.both (Keep.refl σ)⟩⟩
/-- two slots take two values -/
theorem par_at {i j : Nat} {r r2 : RV} {v w : V} {o : Out} (R2 : Rep ca F m σ H) (qv2 : IsR ca F H m σ r v) (qw : IsR ca F H m σ r2 w) (ne : ∀ c, RB r v c → ¬ RB r2 w c)
    (e : outOf (bnd (hold r) fun x => bnd (hold r2) fun y => bnd (setR i x) fun _ => setR j y) nxtO m = some (o, m')) :
    o = .nxt ∧ ∃ G, Since F H (fun b => (Own m σ b ∨ RB r2 w b) ∨ RB r v b) G H (Own m' ((σ.set i (some v)).set j (some w))) ∧ Rep ca G m' ((σ.set i (some v)).set j (some w)) H := by
  rw [outOf_bnd] at e
  rcases outOf_ok e with ⟨z, e1, eo⟩ | ⟨r3, m3, e1, e2⟩
  · obtain ⟨_, _, z, _⟩ := hold_at R2 qv2 e1
    cases z
  obtain ⟨r3', G3, z, S3, R3, qv3, nb3, rb3⟩ := hold_at R2 qv2 e1
  cases z
  have qw3 : IsR ca G3 H m3 σ r2 w := qw.stay S3 (fun a z => qw.rb z) (fun b z => z) fun i z => rfl
  rw [outOf_bnd] at e2
  rcases outOf_ok e2 with ⟨z, e3, eo⟩ | ⟨r4, m4, e3, e4⟩
  · obtain ⟨_, _, z, _⟩ := hold_at R3 qw3 e3
    cases z
  obtain ⟨r4', G4, z, S4, R4, qw4, nb4, rb4⟩ := hold_at R3 qw3 e3
  cases z
  have qv4 : IsR ca G4 H m4 σ r3 v := qv3.stay S4 (fun a z => qv3.rb z) (fun b z => z) fun i z => rfl
  rw [outOf_bnd] at e4
  rcases outOf_ok e4 with ⟨z, e5, eo⟩ | ⟨u, m5, e5, e6⟩
  · obtain ⟨z, _⟩ := setR_at (A := Own m σ) R4 qv4 e5
    cases z
  obtain ⟨_, G5, S5, R5⟩ := setR_at (A := Own m σ) R4 qv4 e5
  have qw5 : IsR ca G5 H m5 (σ.set i (some v)) r4 w := qw4.stay S5 (fun a z y => y.elim (fun y => qw4.rb z y) fun y => ne a (rb3 a y) (rb4 a z)) (fun b z => z) fun i z => absurd z (nb4 i)
  rcases outOf_ok e6 with ⟨z, e7, eo⟩ | ⟨u2, m6, e7, e8⟩
  · obtain ⟨z, _⟩ := setR_at (A := Own m σ) R5 qw5 e7
    cases z
  obtain ⟨_, G6, S6, R6⟩ := setR_at (A := Own m σ) R5 qw5 e7
  cases e8
  refine ⟨rfl, G6, ?_, R6⟩
  have Sa : Since F H (fun b => (Own m σ b ∨ RB r2 w b) ∨ RB r v b) G4 H (fun b => (Own m4 σ b ∨ RB r2 w b) ∨ RB r v b) := (S3.trans S4).both.both
  have Sb : Since G4 H (fun b => (Own m4 σ b ∨ RB r2 w b) ∨ RB r v b) G5 H (fun b => Own m5 (σ.set i (some v)) b ∨ RB r2 w b) := by
    have z := S5.both (Y := RB r2 w)
    exact z.wide fun b y => y.elim (fun y => y.elim (fun y => .inl (.inl y)) fun y => .inr (rb3 b y)) fun y => .inl (.inr y)
  have Sc : Since G5 H (fun b => Own m5 (σ.set i (some v)) b ∨ RB r2 w b) G6 H (Own _ _) := S6.wide fun b y => y.imp id (rb4 b)
  exact Sa.trans (Sb.trans Sc)
/-- two expressions, their values held -/
theorem par_two {i j : Nat} {f g : M RV} {D : Ends} (h : tS ca kp W (outOf (bnd f fun x => bnd g fun y => bnd (hold x) fun x => bnd (hold y) fun y => bnd (setR i x) fun _ => setR j y) nxtO) D σ H) :
    tE ca W f σ H fun v H1 => tE ca W g σ H1 fun w H2 => ∃ F2 m2 m' G B, Rep ca G m' ((σ.set i (some v)).set j (some w)) H2 ∧ Since F2 H2 B G H2 (Own m' ((σ.set i (some v)).set j (some w))) ∧ OEnd ca kp W B F2 σ H2 D .nxt m' ∧ Rep ca F2 m2 σ H2 := by
  obtain ⟨F, m, R, h⟩ := h
  rw [outOf_bnd] at h
  refine tE_mono (tO_raw R h) fun v H1 ⟨r, F1, m1, S1, R1, qv, h1⟩ => ?_
  rw [outOf_bnd] at h1
  refine tE_mono (tO_rawY R1 h1) fun w H2 ⟨r2, F2, m2, S2, R2, qw, h2⟩ => ?_
  have qv2 : IsR ca F2 H2 m2 σ r v := qv.stay S2 (fun a z => qv.rb z) (fun b z => .inl z) fun i z => rfl
  have ne : ∀ c, RB r v c → ¬ RB r2 w c := fun c h3 h4 => by
    have n1 := qv.rb h3
    cases r with
    | dat d => exact h3
    | bor i => exact h3
    | own d =>
      obtain ⟨c', ec, _, oc, _⟩ := qv
      have h3' : v = .ref c := h3
      rw [ec] at h3'
      cases h3'
      obtain ⟨u, hu⟩ := oc.there
      exact (S2.stay hu n1).2.1 (.inr h4)
  obtain ⟨o, m', e, k⟩ := h2
  obtain ⟨eo, G, S, R'⟩ := par_at R2 qv2 qw ne e
  subst eo
  exact ⟨F2, m2, m', G, _, R', S, k, R2⟩
theorem ds_par (hcal : X.calm = true) (hN : X.N.Nodup) {i j : Nat} {a b : Expr} {px py pt : Pos} {kt k2 : Nat} {pt2 : Pos} {f g : M RV} (hi : X.N[i]? = some x) (hj : X.N[j]? = some y) (hij : i ≠ j) (hx : X.env.scope.names.lookup x = some .local) (hy : X.env.scope.names.lookup y = some .local)
    (ha : DEn ca nn X a f) (hb : DEn ca nn X b g) (sa : starB a = false) (sb : starB b = false)
    (hw : swappedStores [.Tuple [.Name x px, .Name y py] kt pt] (.Tuple [a, b] k2 pt2) X.env = pure (some [x, y])) (hk : kp = true → i ≠ 0 ∧ j ≠ 0) :
    DSn ca kp nn X (.Assign [.Tuple [.Name x px, .Name y py] kt pt] (.Tuple [a, b] k2 pt2) pos) (outOf (bnd f fun x => bnd g fun y => bnd (hold x) fun x => bnd (hold y) fun y => bnd (setR i x) fun _ => setR j y) nxtO) := fun W t =>
  PS.imp (ps_par hcal hN hi hj hij hx hy (pa_cons (ha W t) (pa_cons (hb W t) pa_nil (star_no sb)) (star_no sa)) hw rfl) fun D σ H h => by
    show tE ca W f σ H fun v H1 => tE ca W g σ H1 fun w H2 => ∃ v' w', [v, w] = [v', w'] ∧ D.nx ((σ.set i (some v')).set j (some w')) H2
    refine tE_mono (par_two h) fun v H1 h1 => tE_mono h1 fun w H2 ⟨F2, m2, m', G, B, R', S, k, R2⟩ => ?_
    exact ⟨v, w, rfl, k G H2 _ S R' ((Keep.set fun z => (hk z).1).trans (Keep.set fun z => (hk z).2))⟩
/-- .. stored from the left, through a tuple -/
theorem ds_parT (hcal : X.calm = true) (hN : X.N.Nodup) {i j : Nat} {a b : Expr} {px py pt : Pos} {kt k2 : Nat} {pt2 : Pos} {f g : M RV} (hi : X.N[i]? = some x) (hj : X.N[j]? = some y) (hx : Loc X.env.scope x ∧ (X.fn x = true ∨ X.env.scope.names.lookup x = some .local)) (hy : Loc X.env.scope y ∧ (X.fn y = true ∨ X.env.scope.names.lookup y = some .local))
    (ha : DEn ca nn X a f) (hb : DEn ca nn X b g) (sa : starB a = false) (sb : starB b = false)
    (hw : swappedStores [.Tuple [.Name x px, .Name y py] kt pt] (.Tuple [a, b] k2 pt2) X.env = pure none) (hk : kp = true → i ≠ 0 ∧ j ≠ 0) :
    DSn ca kp nn X (.Assign [.Tuple [.Name x px, .Name y py] kt pt] (.Tuple [a, b] k2 pt2) pos) (outOf (bnd f fun x => bnd g fun y => bnd (hold x) fun x => bnd (hold y) fun y => bnd (setR i x) fun _ => setR j y) nxtO) := fun W t =>
  PS.imp (ps_asg (pe_tup (pa_cons (ha W t) (pa_cons (hb W t) pa_nil (star_no sb)) (star_no sa))) (pg_tup hcal (pgs_cons (pg_name hN hi hx.1 hx.2) (pgs_cons (pg_name hN hj hy.1 hy.2) pgs_nil))) rfl hw rfl) fun D σ H h => by
    show tE ca W f σ H fun v H1 => tE ca W g σ H1 fun w H2 => [v, w].length ≤ sizeLine ∧ ∀ q, H2 q = none → gTup X.K 2 (gCons (gName i) (gCons (gName j) gNil)) (.ref q) σ (upd H2 q (.tup [v, w])) D.nx
    refine tE_mono (par_two h) fun v H1 h1 => tE_mono h1 fun w H2 ⟨F2, m2, m', G, B, R', S, k, R2⟩ => ⟨by show 2 ≤ sizeLine; decide, fun q hq => ?_⟩
    refine ⟨q, [v, w], rfl, .inl (.inl upd_same), rfl, v, [w], rfl, w, [], rfl, rfl, ?_⟩
    refine k G _ _ (S.trans ((Since.new hq).less fun b z => .inl z)) (R'.new hq) ((Keep.set fun z => (hk z).1).trans (Keep.set fun z => (hk z).2))
/-- name = [..] on its line -/
def swB (sc : Scope) (y : PySem.Str) (py pos : Pos) (scope : Scope) : Bool := decide (sc.names.lookup y = some .local) && (py.line == pos.line) && !(scope.names.any fun (n, k) => n == y && (k == .local || k == .cell))
theorem sw_eq {elt : Expr} {gs : List Comprehension} {scope : Scope} {pos py : Pos} {y : PySem.Str} {l : Nat} {env : PySem.Env} (hk : env.scope.kind = .function) : swapsWith (.ListComp elt gs scope pos) (some (.Name y py)) l env = pure (swB env.scope y py pos scope) := by
  have hb : env.blockKind = .function := by unfold PySem.Env.blockKind; rw [hk]; rfl
  have hd : (env.kindOf y == some NameKind.local) = decide (env.scope.names.lookup y = some .local) := by
    show (env.scope.names.lookup y == some NameKind.local) = _
    cases env.scope.names.lookup y with
    | none => rfl
    | some k => cases k <;> rfl
  unfold swapsWith
  simp only [hb, hd]
  rfl
theorem ds_setc (c : Ctx ca fa Z T C nn lv X) (hkind : X.env.scope.kind = .function) {i : Nat} {elt : Expr} {py cp : Pos} {ifs : List Expr} {scope : Scope} {own : List (PySem.Str × Nat)} {hc : Bool} {ds0 : M (List Dat)} {cond el : M RV} (hN : X.N[i]? = some y) (hl : Loc X.env.scope y ∧ (X.fn y = true ∨ X.env.scope.names.lookup y = some .local)) (hi : DIn ca nn X tg iter ds0) (ok : blkC X.N X.env.scope scope own = true)
    (hg : ∀ (s : Shared) (H : Hp) (C : Addr) (cl : List (PySem.Str × Addr)) (fp : List Addr), PG (X.blk s H scope (compEnvC scope cl C X.env) fp) tg (gP ca p)) (ht : ∀ (s : Shared) (H : Hp) (C : Addr) (cl : List (PySem.Str × Addr)) (fp : List Addr), PTs (X.blk s H scope (compEnvC scope cl C X.env) fp) ifs (tT ca never (tstM hc (asB cond))))
    (he : ∀ (s : Shared) (H : Hp) (C : Addr) (cl : List (PySem.Str × Addr)) (fp : List Addr), PE (X.blk s H scope (compEnvC scope cl C X.env) fp) elt (tE ca never el)) (hs : setB iter = false) (hk : kp = true → i ≠ 0) :
    DSn ca kp nn X (.Assign [.Name y py] (.ListComp elt [⟨tg, iter, ifs, 0⟩] scope cp) pos) (outOf (bnd (cmpL ds0 p (own.map (·.2)) hc cond el) fun r => setR i r) nxtO) := fun W t => by
  have fin : ∀ {D : Ends} {σ : St} {H : Hp}, tS ca kp W (outOf (bnd (cmpL ds0 p (own.map (·.2)) hc cond el) fun r => setR i r) nxtO) D σ H → tE ca W (cmpL ds0 p (own.map (·.2)) hc cond el) σ H fun v H1 => D.nx (σ.set i (some v)) H1 := fun {D σ H} ⟨F, m, R, h⟩ => by
    rw [outOf_bnd] at h
    refine tE_mono (tO_raw R h) fun v H1 ⟨r, F1, m1, S, R1, q, o, m', e, k⟩ => ?_
    rcases outOf_ok e with ⟨z, e1, eo⟩ | ⟨u, m2, e1, e2⟩
    · obtain ⟨z, _⟩ := setR_at (A := Own m1 σ) R1 q e1
      cases z
    · obtain ⟨_, G, S2, R2⟩ := setR_at (A := Own m1 σ) R1 q e1
      cases e2
      exact k G H1 _ S2 R2 (Keep.set hk)
  cases hb : swB X.env.scope y py cp scope with
  | true =>
    have hl' : X.env.scope.names.lookup y = some .local := by
      unfold swB at hb
      rw [Bool.and_eq_true, Bool.and_eq_true, decide_eq_true_eq] at hb
      exact hb.1.1
    exact PS.imp (ps_setLc c.calm c.nd hN hl' (by rw [sw_eq hkind, hb]) (hi W t) (blkOk_by ok) hg ht he (fun x => set_no hs x)) fun D σ H h => comp_tLc (fin h)
  | false => exact PS.imp (ps_set c.nd hN hl.1 (pe_lc c.calm c.nd (hi W t) (blkOk_by ok) hg ht he (fun x => set_no hs x)) (by rw [sw_eq hkind, hb]) hl.2) fun D σ H h => comp_tLc (fin h)
theorem sole_no (h : compB e = false) {l : Nat} {env : PySem.Env} : swapsWithSole [tg] e l env = pure false := sw_no h
theorem stores_no {tg e : Expr} {env : PySem.Env} (h : tupB tg = true → tupB e = false) (hl : ∀ es q, tg ≠ .List es q) : swappedStores [tg] e env = pure none := by
  cases tg <;> first
    | rfl
    | exact absurd rfl (hl _ _)
    | (have := h rfl; cases e <;> first | rfl | cases this)
end
end SB
set_option maxRecDepth 100000
/-! SbHdr: head, *rest = a list. -/
namespace SB
open PySem PySem.W PySem.Calls PyProof.Rows
theorem unpack_star {prog : Program} {w : World} {A : Around} {E : Value → Shared → Prop} {s : Shared} {l : Addr} {items : Array Value} {Q : List Value → Shared → Prop} (hl : s.heap.IsList l items) (hh : A.handled = none) (h1 : 1 ≤ items.size) (hz : items.size ≤ 16384)
    (fin : ∀ (h1 : Heap) (tk : Nat), (∀ b o, s.heap.get? b = some o → h1.get? b = some o) →
      Q (items.toList.take 1 ++ [.ref h1.objs.size]) { s with heap := h1.push { cls := .type "list", data := .seq (items.toList.drop 1).toArray }, toks := tk }) : wpAny (model prog w) A (unpackItems (.ref l) 2 (some 1)) Q E s := by
  have lt : l < s.heap.objs.size := by
    obtain ⟨o, ho, _⟩ := hl
    exact Heap.lt_size ho
  have ne : l ≠ s.heap.objs.size := Nat.ne_of_lt lt
  unfold unpackItems notIterableAtAll
  refine wpAny_bind (wpAny_bind (wpAny_specialOf hl.typeIs slot_list_iter.lookup (wpAny_pure ?_)))
  simp only [Bool.false_eq_true, if_false]
  refine wpAny_bind (wpAny_holding (wpAny_pyIter_list hl ?_))
  refine wpAny_bind (wpAny_holding (kun_draw ne 1 0 _ _ ⟨_, Heap.get?_push_size _ rfl, rfl, rfl⟩ (hl.push _) (by omega) fun h2 it2 sb => ?_))
  have hl2 : h2.IsList l items := (hl.push _).extBut sb.extBut ne
  rw [Nat.zero_add] at it2
  obtain ⟨oi, hoi, _⟩ := id it2
  obtain ⟨ol, hol, _⟩ := id hl2
  rw [List.drop_zero]
  have l1 : (items.toList.take 1).length = 1 := by rw [List.length_take, Array.length_toList]; omega
  rw [if_neg (show ¬ ((items.toList.take 1).length < 1) by rw [l1]; omega)]
  have W := Walks.list (prog := prog) (w := w) (A := A.in1) hh s.heap.objs.size l ne items
  refine wpAny_bind (wpAny_holding (kun_collect (s := { s with heap := h2 }) (T := "list_iterator") (.inr (.inr (.inl rfl))) W (fun j u st => st.1.typeIs) (k := 1) (by omega) ⟨it2, hl2⟩ (Heap.lt_size hoi) (Heap.lt_size hol) (fun h3 tk hk => ?_) (by rw [sizeLine_eq]; omega)))
  have l2 : (items.toList.drop 1).length = items.size - 1 := by rw [List.length_drop, Array.length_toList]
  show wpAny _ _ (if (items.toList.drop 1).length < 2 - 1 - 1 then _ else _) _ _ _
  rw [if_neg (by omega)]
  have e1 : (items.toList.drop 1).length - (2 - 1 - 1) = (items.toList.drop 1).length := by omega
  show wpAny _ _ (newList ((items.toList.drop 1).take ((items.toList.drop 1).length - (2 - 1 - 1))) >>= fun d => pure (items.toList.take 1 ++ [d] ++ (items.toList.drop 1).drop ((items.toList.drop 1).length - (2 - 1 - 1)))) _ _ _
  rw [e1, List.take_length, List.drop_length]
  have kept : ∀ b o, s.heap.get? b = some o → h3.get? b = some o := fun b o e => hk b o (Nat.ne_of_lt (Heap.lt_size e)) (sb.2 b (Nat.ne_of_lt (Heap.lt_size e)) |>.trans (Heap.get?_push_of_some _ e))
  refine wpAny_bind (wpAny_newObj_type (wpAny_pure ?_) (by show _ ≤ sizeLine; rw [sizeLine_eq, List.size_toArray, l2]; omega))
  rw [List.append_nil]
  exact fin h3 tk kept
end SB
namespace SB
open PySem L2
section
variable {ca fa : Nat → Addr} {Z : Nam} {T : Tab} {C : Calls} {nn kp : Bool} {lv : Nat} {X : Cx} {F G H J : Hp} {m m' m1 : Frm} {σ τ : L2.St} {W : WX} {x y : PySem.Str} {pos : Pos} {e : Expr}
def gHdr (K : PySem.W.Frag) (i j : Nat) : TG := fun v σ H Q => ∃ a z xs, v = .ref a ∧ SqL K H a (z :: xs) ∧ xs.length < 16384 ∧ ∀ p, H p = none → Q ((σ.set i (some z)).set j (some (.ref p))) (upd H p (.lst xs))
theorem pg_hdr {i j : Nat} {px py q pt : Pos} {kt : Nat} (hc : X.calm = true) (hN : X.N.Nodup) (hi : X.N[i]? = some x) (hj : X.N[j]? = some y) (hx : Loc X.env.scope x ∧ (X.fn x = true ∨ X.env.scope.names.lookup x = some .local)) (hy : Loc X.env.scope y ∧ (X.fn y = true ∨ X.env.scope.names.lookup y = some .local)) :
    PG X (.Tuple [.Name x px, .Starred (.Name y py) q] kt pt) (gHdr X.K i j) := by
  refine ⟨fun pins s σ H v u Q I r hw => ?_⟩
  obtain ⟨a, z, xs, e1, hq, hl, hw⟩ := hw
  subst e1
  obtain rfl : u = Value.ref a := r
  obtain ⟨its, rv, pl, hz⟩ := I.list hq
  have len := rv.length
  have two := pgs_cons (es := [.Name y py]) (pg_name (pos := px) hN hi hx.1 hx.2) (pgs_cons (es := []) (pg_name (pos := py) hN hj hy.1 hy.2) pgs_nil)
  rw [PyProof.Rows.assign_Tuple]
  refine wpAny_bind (wpAny_standAt ?_)
  show wpAny _ _ (unpack (.ref a) [(false, assign (.Name x px) X.env), (true, assign (.Name y py) X.env)]) _ _ _
  unfold unpack
  refine wpAny_bind (wpAny_holding ?_)
  rw [List.length_cons] at len
  refine unpack_star pl.isList (I.ok.hd hc) (by rw [List.size_toArray]; omega) (by rw [List.size_toArray]; omega) fun h1 tk kept => ?_
  have I1 : Inv X pins σ H { s with heap := h1, toks := tk } := I.kept kept
  cases rv with
  | cons rz rx =>
    rename_i uz ux
    have I2 := I1.lnew (t' := tk) rx (by rw [sizeLine_eq]; omega)
    have hq := hw h1.objs.size (I1.hok.fresh (Nat.le_refl _))
    exact two.run pins _ σ _ [z, .ref h1.objs.size] [uz, .ref h1.objs.size] Q I2 (.cons rz (.cons rfl .nil)) ⟨z, _, rfl, _, [], rfl, rfl, hq⟩
theorem ds_hdr {i j : Nat} {f : M RV} {px py q pt : Pos} {kt : Nat} (hc : X.calm = true) (hN : X.N.Nodup) (hi : X.N[i]? = some x) (hj : X.N[j]? = some y) (hx : Loc X.env.scope x ∧ (X.fn x = true ∨ X.env.scope.names.lookup x = some .local)) (hy : Loc X.env.scope y ∧ (X.fn y = true ∨ X.env.scope.names.lookup y = some .local))
    (he : DEn ca nn X e f) (hs : compB e = false) (ht : tupB e = false) (hk : kp = true → i ≠ 0 ∧ j ≠ 0) :
    DSn ca kp nn X (.Assign [.Tuple [.Name x px, .Starred (.Name y py) q] kt pt] e pos) (outOf (bnd f fun r => bnd (look (prj r)) fun d => match d with
      | .lst (x :: l) => if l.length < 16384 then bnd (setR i (.dat x)) fun _ => setR j (.own (.lst l)) else fun _ => none
      | _ => fun _ => none) nxtO) := fun W t =>
  PS.imp (ps_asg (he W t) (pg_hdr hc hN hi hj hx hy) (sole_no hs) (stores_no (fun _ => ht) fun es q z => by cases z) rfl) fun D σ H ⟨F, m, R, h⟩ => by
    rw [outOf_bnd] at h
    refine tE_mono (tO_bnd R h) fun v H1 ⟨r, F1, m1, S, R1, p1, o, m', e, k⟩ => ?_
    rw [outOf_bnd] at e
    rcases outOf_ok e with ⟨z, e1, eo⟩ | ⟨d, m2, e1, e2⟩
    · unfold look at e1
      split at e1 <;> cases e1
    have hd : peek m1 (prj r) = some d ∧ m2 = m1 := by
      unfold look at e1
      split at e1
      · cases e1
      · rename_i d' q
        cases e1
        exact ⟨q, rfl⟩
    obtain ⟨hd, em⟩ := hd
    subst em
    have q := peek_at R1 p1 hd
    split at e2
    case h_2 => cases e2
    rename_i dx l
    split at e2
    case isFalse => cases e2
    rename_i hlen
    obtain ⟨a, zs, ev, ha, qx, ys, ezs, q1, q2⟩ := q
    subst ev ezs
    have sq : SqL X.K H1 a (qx :: ys) := by
      rcases ha with z | ⟨ob, z⟩
      · exact .inl (.inl z)
      · exact .inl (.inr ⟨ob, z⟩)
    refine ⟨a, qx, ys, rfl, sq, by rw [q2.len]; exact hlen, fun p hp => ?_⟩
    rw [outOf_bnd] at e2
    -- the first name
    rcases outOf_ok e2 with ⟨z, e3, eo⟩ | ⟨u, m3, e3, e4⟩
    · obtain ⟨z, _⟩ := setR_at (A := Own m2 σ) R1 (r := .dat dx) q1 e3
      cases z
    have nF : F1 p = none := by
      cases z : F1 p with
      | none => rfl
      | some ob => have := R1.sub _ _ z; rw [hp] at this; cases this
    have nO : ¬ Own m2 σ p := fun z => by
      obtain ⟨⟨ob, eo⟩, _⟩ := R1.ownH z
      rw [hp] at eo; cases eo
    have R2 := R1.new (o := .lst ys) hp
    obtain ⟨_, G3, S3, R3⟩ := setR_at (A := Own m2 σ) R2 (r := .dat dx) q1 e3
    have S3' : Since F1 (upd H1 p (.lst ys)) (Own m2 σ) G3 (upd H1 p (.lst ys)) (Own m3 (σ.set i (some qx))) := S3.wide fun b z => z.elim id False.elim
    obtain ⟨h7, n7, f7⟩ := S3'.stay (a := p) upd_same nO
    have qr : IsR ca G3 (upd H1 p (.lst ys)) m3 (σ.set i (some qx)) (.own (.lst l)) (.ref p) := ⟨p, rfl, f7 nF, ⟨ys, upd_same, IsDs.mono S3.k1 _ _ q2⟩, n7⟩
    rcases outOf_ok e4 with ⟨z, e5, eo⟩ | ⟨u2, m4, e5, e6⟩
    · obtain ⟨z, _⟩ := setR_at (A := Own m2 σ) R3 qr e5
      cases z
    obtain ⟨_, G4, S4, R4⟩ := setR_at (A := Own m2 σ) R3 qr e5
    cases e6
    have Sa : Since F1 H1 (Own m2 σ) G3 (upd H1 p (.lst ys)) (fun b => Own m3 (σ.set i (some qx)) b ∨ p = b) := (Since.new hp).trans S3'.both
    refine k G4 _ _ (Sa.trans (S4.wide fun b z => z.imp id fun (z : V.ref p = V.ref b) => by cases z; rfl)) R4 ((Keep.set fun z => (hk z).1).trans (Keep.set fun z => (hk z).2))
end
end SB
set_option maxRecDepth 100000
/-! SbToS: every statement that is served does what its translation says. -/
namespace SB
open PySem L2
section
variable {ca fa : Nat → Addr} {Z : Nam} {T : Tab} {C : Calls} {nn kp : Bool} {lv fuel : Nat} {X : Cx} {F G H J : Hp} {m m' m1 : Frm} {σ τ : St} {W : WX} {s : Shared} {pins : List (Addr × Obj)} {x y : PySem.Str} {p : Pat} {pos q1 q2 : Pos} {e tg iter : Expr} {sc : Scope} {t t2 : Expr → Ex}
/-- a body's context -/
structure SCtx (ca fa : Nat → Addr) (Z : Nam) (T : Tab) (C : Calls) (nn : Bool) (lv : Nat) (X : Cx) : Prop where
  c : Ctx ca fa Z T C nn lv X
  kind : X.env.scope.kind = .function
  own : PassesOwn (model X.prog X.w) X.A X.env X.xe
  fn : ∀ x, X.fn x = true
theorem tg_ok (c : Ctx ca fa Z T C nn lv X) (hfn : ∀ x, X.fn x = true) (ih : ∀ e, EOk ca T C nn X e (t e)) : ∀ (n : Nat) (tg : Expr), (kp = true → 0 ∉ tgIx (toTg Z t X.env.scope n tg)) → DTg ca T C kp nn X tg (toTg Z t X.env.scope n tg)
  | 0, tg, _ => dtg_bad fun d m => rfl
  | n + 1, tg, hk => by
    have bad : DTg ca T C kp nn X tg .bad := dtg_bad fun d m => rfl
    cases tg with
    | Name x q =>
      unfold toTg at hk ⊢
      simp only at hk ⊢
      split
      · rename_i hx
        rw [if_pos hx] at hk
        split
        · rename_i i hi
          rw [hi] at hk
          exact dtg_name c.nd (by rw [c.N]; exact ixOf_get hi) (st_ok hfn hx) fun z => fun e => hk z (by subst e; exact List.mem_cons_self)
        · exact bad
      · exact bad
    | Tuple es k q =>
      unfold toTg at hk ⊢
      simp only at hk ⊢
      split
      · rename_i hs
        rw [if_pos hs] at hk
        have hlen : ∀ es : List Expr, tgLen (es.foldr (fun e r => .cons (toTg Z t X.env.scope n e) r) .nil) = es.length := fun es => by
          induction es with
          | nil => rfl
          | cons e r ih => rw [List.foldr_cons, List.length_cons, ← ih]; rfl
        refine dtg_tup c.calm (fun W tk => ?_) hs (hlen es)
        have key : ∀ es : List Expr, noStar es = true → (kp = true → 0 ∉ tgIx (es.foldr (fun e r => Tg.cons (toTg Z t X.env.scope n e) r) .nil)) → PGs X es (gTs ca T C kp W (es.foldr (fun e r => .cons (toTg Z t X.env.scope n e) r) .nil)) := fun es => by
          induction es with
          | nil => exact fun _ _ => dtgs_nil W
          | cons e r ih2 =>
            intro hs hk
            obtain ⟨h1, h2⟩ := noStar_cons hs
            rw [List.foldr_cons] at hk
            exact dtgs_cons (tg_ok c hfn ih n e (fun z w => hk z (List.mem_append_left _ w)) W tk) (ih2 h2 fun z w => hk z (List.mem_append_right _ w)) h1
        exact key es hs hk
      · exact bad
    | Subscript o ie q =>
      unfold toTg
      simp only
      split
      · exact bad
      · rename_i hs
        split
        · rename_i i hi
          obtain ⟨x, q', eo, hx, hv, hN⟩ := slot_inv hi
          subst eo
          have hu := c.hu
          exact dtg_sub (by omega) (by rw [c.N]; exact ixOf_get hN) hv hx (ih ie).1 (by simpa using hs)
        · exact bad
    | _ => exact bad
theorem par_stores {a b : Expr} {px py pt pt2 : Pos} {kt k2 : Nat} {env : PySem.Env} (hkind : env.scope.kind = .function) (h : parB env.scope x y px py a b = true) : swappedStores [.Tuple [.Name x px, .Name y py] kt pt] (.Tuple [a, b] k2 pt2) env = pure (some [x, y]) := by
  unfold parB at h
  simp only [Bool.and_eq_true, Bool.not_eq_true', decide_eq_false_iff_not] at h
  obtain ⟨⟨⟨⟨⟨⟨⟨h1, h2⟩, h3⟩, h4⟩, h5⟩, h6⟩, h7⟩, h8⟩ := h
  have hb : env.blockKind = .function := by unfold PySem.Env.blockKind; rw [hkind]; rfl
  have k1 : env.kindOf x = some .local := loc_of h1
  have k2 : env.kindOf y = some .local := loc_of h2
  have s1 : (match a with | .Starred .. => true | _ => false) = false := by cases a <;> first | rfl | cases h5
  have s2 : (match b with | .Starred .. => true | _ => false) = false := by cases b <;> first | rfl | cases h6
  have hl : (Expr.Name x px).pos.line = px.line := rfl
  have hne : ¬ (x == y) = true := fun z => h4 (eq_of_beq z)
  have hne' : (y == x) = false := by
    cases q : y == x with
    | false => rfl
    | true => exact absurd (eq_of_beq q).symm h4
  have h3' : (py.line == px.line) = true := h3
  have e0 : ∀ F : Expr → Option PySem.Str, F (.Name x px) = some x → F (.Name y py) = some y → [Expr.Name x px, Expr.Name y py].filterMap F = [x, y] := fun F f1 f2 => by
    rw [List.filterMap_cons_some f1, List.filterMap_cons_some f2]
    rfl
  have e2 : [x, y].eraseDups.length = 2 := by
    simp [List.eraseDups_cons, hne']
  unfold swappedStores
  dsimp only
  have n1 : (if (env.kindOf x == some NameKind.local && px.line == px.line) = true then some x else none) = some x := by rw [k1]; simp
  have n2 : (if (env.kindOf y == some NameKind.local && py.line == px.line) = true then some y else none) = some y := by rw [k2, h3']; simp
  refine (if_neg ?_).trans ?_
  · rw [hb]; simp
  refine (if_neg ?_).trans ?_
  · intro z
    obtain ⟨w, hw, hF⟩ := List.any_eq_true.mp z
    rcases List.mem_cons.mp hw with e | hw
    · subst e
      cases w <;> first | (cases h5; done) | cases hF
    · rcases List.mem_cons.mp hw with e | hw
      · subst e
        cases w <;> first | (cases h6; done) | cases hF
      · cases hw
  rw [e0 _ n1 n2]
  refine (if_neg ?_).trans ?_
  · rw [e2]; simp
  refine (if_neg ?_).trans ?_
  · simp only [List.all_cons, List.all_nil, Bool.and_true, h7]; decide
  refine (if_neg ?_).trans rfl
  simp only [List.all_cons, List.all_nil, Bool.and_true, h8]
  decide
theorem par_none {a b : Expr} {px py pt pt2 : Pos} {kt k2 : Nat} {env : PySem.Env} (h : (locB env.scope x && locB env.scope y && (py.line == px.line)) = false) : swappedStores [.Tuple [.Name x px, .Name y py] kt pt] (.Tuple [a, b] k2 pt2) env = pure none := by
  have loc : ∀ z, (env.kindOf z == some NameKind.local) = locB env.scope z := fun z => by
    show (env.scope.names.lookup z == some NameKind.local) = decide (env.scope.names.lookup z = some .local)
    cases env.scope.names.lookup z with
    | none => rfl
    | some k => cases k <;> rfl
  unfold swappedStores
  dsimp only
  split
  · rfl
  split
  · rfl
  split
  · rfl
  rename_i h3
  exfalso
  apply h3
  have e1 : ∀ F : Expr → Option PySem.Str, F (.Name x px) = (if (env.kindOf x == some NameKind.local && px.line == px.line) = true then some x else none) → F (.Name y py) = (if (env.kindOf y == some NameKind.local && py.line == px.line) = true then some y else none) → ([Expr.Name x px, Expr.Name y py].filterMap F).length ≠ 2 := fun F f1 f2 => by
    rw [loc] at f1 f2
    cases h1 : locB env.scope x with
    | false =>
      rw [h1] at f1
      have f1' : F (.Name x px) = none := by rw [f1]; rfl
      rw [List.filterMap_cons_none f1']
      intro z
      have := List.length_filterMap_le F [Expr.Name y py]
      rw [z] at this
      simp at this
    | true =>
      rw [h1] at f1
      have f1' : F (.Name x px) = some x := by rw [f1]; simp
      rw [List.filterMap_cons_some f1']
      have f3 : F (.Name y py) = none := by
        rw [f2]
        rw [h1, Bool.true_and] at h
        rw [h]
        rfl
      rw [List.filterMap_cons_none f3]
      simp
  rw [Bool.or_eq_true]
  left
  refine bne_iff_ne.mpr ?_
  refine e1 _ ?_ ?_
  · rfl
  · rfl
def notPat : Tg → Prop
  | .pat _ => False
  | _ => True
theorem frz_err {r : RV} {x : Exn} (h : frz r m = some (.error x, m')) : False := by
  cases r with
  | dat d => cases h
  | own d => cases h
  | bor i =>
    simp only [frz] at h
    split at h <;> cases h
theorem frz_none {r : RV} : (bnd (frz r) fun _ => fun _ => none : M Unit) = fun _ => none := by
  funext m
  unfold bnd
  cases h : frz r m with
  | none => rfl
  | some w =>
    obtain ⟨y, m1⟩ := w
    cases y with
    | error x => exact (frz_err h).elim
    | ok d => rfl
theorem asgT_frz {tt : Tg} (h : notPat tt) : asgT T C tt = fun r => bnd (frz (prj r)) fun d => asgT T C tt (.dat d) := by
  funext r
  cases tt with
  | pat p => exact h.elim
  | tup t => rfl
  | sub i e => rfl
  | att i f => rfl
  | nil => exact frz_none.symm
  | cons a b => exact frz_none.symm
  | bad => exact frz_none.symm
theorem asg_ok (c : SCtx ca fa Z T C nn lv X) (ih : ∀ e, EOk ca T C nn X e (t e))
    (hcomp : ∀ {elt : Expr} {gs : List Comprehension} {scope : Scope} {cp : Pos} {i : Nat} {y : PySem.Str} {py : Pos}, X.N[i]? = some y → (Loc X.env.scope y ∧ (X.fn y = true ∨ X.env.scope.names.lookup y = some .local)) → (kp = true → i ≠ 0) → DSn ca kp nn X (.Assign [.Name y py] (.ListComp elt gs scope cp) pos) (outOf (bnd (ev T C (t (.ListComp elt gs scope cp))) fun r => setR i r) nxtO))
    (hbad : ∀ e, compB e = true → (∀ elt gs scope cp, e ≠ .ListComp elt gs scope cp) → t e = .bad) (hk : kp = true → 0 ∉ wr (toAsg Z t X.env.scope tg e)) : DSn ca kp nn X (.Assign [tg] e pos) (es T C fuel (toAsg Z t X.env.scope tg e)) := by
  have bad : DSn ca kp nn X (.Assign [tg] e pos) (es T C fuel .bad) := ds_bad fun m => rfl
  unfold toAsg at hk ⊢
  split
  · rename_i x q
    simp only at hk
    split
    · rename_i hx
      rw [if_pos hx] at hk
      split
      · rename_i i hi
        rw [hi] at hk
        have hk' : kp = true → i ≠ 0 := fun z w => hk z (by subst w; exact List.mem_cons_self)
        have hN : X.N[i]? = some x := by rw [c.c.N]; exact ixOf_get hi
        show DSn ca kp nn X _ (outOf (bnd (ev T C (t e)) fun r => setR i r) nxtO)
        cases hc : compB e with
        | false => exact ds_set c.c.nd hN (st_ok c.fn hx) (ih e).1 (sw_no hc) hk'
        | true =>
          cases e with
          | ListComp elt gs scope cp => exact hcomp hN (st_ok c.fn hx) hk'
          | SetComp a b d f =>
            rw [hbad (.SetComp a b d f) rfl fun _ _ _ _ z => by cases z]
            exact ds_bad fun m => rfl
          | DictComp a b d f g =>
            rw [hbad (.DictComp a b d f g) rfl fun _ _ _ _ z => by cases z]
            exact ds_bad fun m => rfl
          | _ => cases hc
      · exact bad
    · exact bad
  · rename_i o f q
    split
    · rename_i i hi
      obtain ⟨x, q', eo, hx, hv, hN⟩ := slot_inv hi
      subst eo
      exact ds_att c.c (by rw [c.c.N]; exact ixOf_get hN) hv hx (ih e).1
    · exact bad
  · rename_i o ie q
    simp only at hk
    split
    · exact bad
    · rename_i hc
      rw [if_neg hc] at hk
      have hc' : compB e = false := by simpa using hc
      have hg := tg_ok (kp := kp) c.c c.fn ih 8 (.Subscript o ie q) hk
      refine ds_tgt (ih e).1 hg ?_ (sole_no hc') (stores_no (fun z => nomatch z) fun es q z => nomatch z) rfl
      refine asgT_frz ?_
      unfold toTg
      simp only
      split
      · trivial
      · split <;> trivial
  · rename_i ts k q
    simp only at hk
    split
    · exact bad
    · rename_i hc
      rw [if_neg hc] at hk
      have hc' : compB e = false := by simpa using hc
      split
      · rename_i x px y py q0
        simp only at hk
        split
        · rename_i hb
          rw [if_pos hb] at hk
          simp only [Bool.and_eq_true, Bool.not_eq_true'] at hb
          obtain ⟨⟨h1, h2⟩, h3⟩ := hb
          split
          · rename_i i j hi hj
            rw [hi, hj] at hk
            exact ds_hdr c.c.calm c.c.nd (by rw [c.c.N]; exact ixOf_get hi) (by rw [c.c.N]; exact ixOf_get hj) (st_ok c.fn h1) (st_ok c.fn h2) (ih e).1 hc' h3 fun z => ⟨fun w => hk z (by subst w; exact List.mem_cons_self), fun w => hk z (by subst w; exact List.mem_cons_of_mem _ List.mem_cons_self)⟩
          · exact bad
        · exact bad
      rename_i hnh
      split
      · rename_i a b q1 q2
        split
        · rename_i x px y py
          split
          · rename_i hp
            split
            · rename_i i j hi hj
              simp only at hk
              rw [if_pos hp, hi, hj] at hk
              simp only at hk
              split
              · exact bad
              · rename_i hij
                rw [if_neg hij] at hk
                have hp' := hp
                unfold parB at hp'
                simp only [Bool.and_eq_true, Bool.not_eq_true', decide_eq_false_iff_not] at hp'
                obtain ⟨⟨⟨⟨⟨⟨⟨h1, h2⟩, h3⟩, h4⟩, h5⟩, h6⟩, h7⟩, h8⟩ := hp'
                exact ds_par c.c.calm c.c.nd (by rw [c.c.N]; exact ixOf_get hi) (by rw [c.c.N]; exact ixOf_get hj) hij (loc_of h1) (loc_of h2) (ih a).1 (ih b).1 h5 h6 (par_stores c.kind hp) fun z => ⟨fun w => hk z (by subst w; exact List.mem_cons_self), fun w => hk z (by subst w; exact List.mem_cons_of_mem _ List.mem_cons_self)⟩
            · exact bad
          · rename_i hnp
            split
            · rename_i hp
              split
              · rename_i i j hi hj
                simp only at hk
                rw [if_neg hnp, if_pos hp, hi, hj] at hk
                have hp' := hp
                unfold parT at hp'
                simp only [Bool.and_eq_true, Bool.not_eq_true'] at hp'
                obtain ⟨⟨⟨⟨h1, h2⟩, h3⟩, h5⟩, h6⟩ := hp'
                exact ds_parT c.c.calm c.c.nd (by rw [c.c.N]; exact ixOf_get hi) (by rw [c.c.N]; exact ixOf_get hj) (st_ok c.fn h1) (st_ok c.fn h2) (ih a).1 (ih b).1 h5 h6 (par_none h3) fun z => ⟨fun w => hk z (by subst w; exact List.mem_cons_self), fun w => hk z (by subst w; exact List.mem_cons_of_mem _ List.mem_cons_self)⟩
              · exact bad
            · exact bad
        · exact bad
      · exact bad
      · rename_i e' hn1 hn2
        have ht : tupB e = false := by
          cases e <;> first | rfl | exact absurd rfl (hn2 _ _ _)
        have hk' : kp = true → 0 ∉ tgIx (toTg Z t X.env.scope 8 (.Tuple ts k q)) := by
          have hk3 : kp = true → 0 ∉ wr (.asg (toTg Z t X.env.scope 8 (.Tuple ts k q)) (t e)) := by
            split at hk
            · exact absurd rfl (hnh _ _ _ _ _)
            · cases e <;> first | exact hk | exact absurd rfl (hn2 _ _ _)
          exact hk3
        have hg := tg_ok (kp := kp) c.c c.fn ih 8 (.Tuple ts k q) hk'
        refine ds_tgt (ih e).1 hg ?_ (sole_no hc') (stores_no (fun _ => ht) fun es q z => nomatch z) rfl
        refine asgT_frz ?_
        unfold toTg
        simp only
        split <;> trivial
  · exact bad
theorem setc_ok (c : SCtx ca fa Z T C nn lv X) (n : Nat) {elt : Expr} {gs : List Comprehension} {scope : Scope} {cp : Pos} {i : Nat} {y : PySem.Str} {py : Pos} (hN : X.N[i]? = some y) (hl : Loc X.env.scope y ∧ (X.fn y = true ∨ X.env.scope.names.lookup y = some .local)) (hk : kp = true → i ≠ 0) :
    DSn ca kp nn X (.Assign [.Name y py] (.ListComp elt gs scope cp) pos) (outOf (bnd (ev T C (toE Z (n + 1) X.env.scope (.ListComp elt gs scope cp))) fun r => setR i r) nxtO) := by
  have bad : DSn ca kp nn X (.Assign [.Name y py] (.ListComp elt gs scope cp) pos) (outOf (bnd (ev T C .bad) fun r => setR i r) nxtO) := ds_bad fun m => rfl
  have ih := fun e => toE_ok (Z := Z) (nn := nn) n e c.c
  have key : (∃ tg it ifs, gs = [⟨tg, it, ifs, 0⟩]) ∨ toE Z (n + 1) X.env.scope (.ListComp elt gs scope cp) = .bad := by
    rcases gs with _ | ⟨g, _ | ⟨g2, r⟩⟩
    · exact .inr rfl
    · obtain ⟨tg, it, ifs, a⟩ := g
      rcases a with (_ | k) | k
      · exact .inl ⟨tg, it, ifs, rfl⟩
      · exact .inr rfl
      · exact .inr rfl
    · exact .inr (by
        obtain ⟨a1, a2, a3, a4⟩ := g
        rcases a4 with (_ | k) | k <;> rfl)
  rcases key with ⟨tg, it, ifs, eg⟩ | eb
  case inr => rw [eb]; exact bad
  subst eg
  show DSn ca kp nn X _ (outOf (bnd (ev T C (toComp Z (toE Z n X.env.scope) (toE Z n (relS scope X.env.scope)) X.env.scope (relS scope X.env.scope) elt tg it ifs scope)) fun r => setR i r) nxtO)
  have ih2 : ∀ (s : Shared) (H : Hp) (C' : Addr) (cl : List (PySem.Str × Addr)) (fp : List Addr) (e : Expr), EOk ca T C nn (X.blk s H scope (compEnvC scope cl C' X.env) fp) e (toE Z n (relS scope X.env.scope) e) := fun s H C' cl fp e => toE_ok n e (c.c.blk s H _ _ fp)
  unfold toComp
  split
  · exact bad
  · rename_i hs
    have hs : setB it = false := by simpa using hs
    split
    · rename_i hb
      rw [← c.c.N] at hb
      split
      · exact ds_setc (cond := ev T C .nil) (hc := false) c.c c.kind hN hl (it_ok c.c ih) hb (fun s H C' cl fp => pg_pat (X := X.blk s H scope (compEnvC scope cl C' X.env) fp) (fun x h => loc_ok h) c.c.calm c.c.nd c.c.N 8 _) (fun s H C' cl fp => pts_yes) (fun s H C' cl fp => (ih2 s H C' cl fp elt).1 never (tks_never rfl)) hs hk
      · rename_i cd
        exact ds_setc (cond := ev T C (toE Z n (relS scope X.env.scope) cd)) (hc := true) c.c c.kind hN hl (it_ok c.c ih) hb (fun s H C' cl fp => pg_pat (X := X.blk s H scope (compEnvC scope cl C' X.env) fp) (fun x h => loc_ok h) c.c.calm c.c.nd c.c.N 8 _) (fun s H C' cl fp => pts_one ((ih2 s H C' cl fp cd).2 never (tks_never rfl))) (fun s H C' cl fp => (ih2 s H C' cl fp elt).1 never (tks_never rfl)) hs hk
      · exact bad
    · exact bad
theorem SCtx.tr (c : SCtx ca fa Z T C nn lv X) (pn : List (Addr × Obj)) : SCtx ca fa Z T C nn lv (X.tr pn fun _ _ => False) :=
  ⟨⟨c.c.sta, c.c.ok, c.c.gp, c.c.hnn, c.c.N, c.c.nd, c.c.calm, c.c.gd, c.c.room⟩, c.kind, PassesOwn.never, c.fn⟩
/-- a try whose body raises nothing -/
theorem ds_tryq {body : List Stmt} {h0 : ExceptHandler} {hs : List ExceptHandler} {f : Frm → Option (Out × Frm)} (hb : ∀ pn, PSs (X.tr pn fun _ _ => False) body (tS ca kp never f)) :
    DSn ca kp nn X (.Try body (h0 :: hs) [] [] pos) (fun m => match f m with
      | some (.exc _, _) => none
      | q => q) := fun W t => ⟨fun pins s σ H D I ⟨F, m, R, o, m', e, k⟩ => by
  have ok := I.ok
  have e' : f m = some (o, m') ∧ ∀ x, o ≠ .exc x := by
    dsimp only at e
    split at e
    · cases e
    · rename_i q h
      exact ⟨e, fun x z => by subst z; exact h x m' e⟩
  have k' : OEnd ca kp never (Own m σ) F σ H D o m' := by
    cases o with
    | nxt => exact k
    | brk => exact k
    | cnt => exact k
    | ret r => exact k
    | exc x => exact absurd rfl (e'.2 x)
  refine wpAny_Try_except (wpAny_mono ((hb (X.pn ++ pins)).run [] s σ H D (I.toTry _) ⟨F, m, R, o, m', e'.1, k'⟩) (fun fl s1 hsp => ?_) fun e s1 he => he.elim)
  cases fl with
  | next =>
    obtain ⟨σ', H', J', q⟩ := hsp
    exact wpAny_execs_nil ⟨σ', H', J'.ofTry ok, q⟩
  | brk =>
    obtain ⟨σ', H', J', q⟩ := hsp
    exact ⟨σ', H', J'.ofTry ok, q⟩
  | cont =>
    obtain ⟨σ', H', J', q⟩ := hsp
    exact ⟨σ', H', J'.ofTry ok, q⟩
  | ret u =>
    obtain ⟨v, σ', H', J', r, q⟩ := hsp
    exact ⟨v, σ', H', J'.ofTry ok, r, q⟩⟩
theorem toSs_ok {t : Stmt → Stm} (h : ∀ st, (kp = true → 0 ∉ wr (t st)) → DSn ca kp nn X st (es T C fuel (t st))) : ∀ l : List Stmt, (kp = true → 0 ∉ wr (toSs t l)) → DSs ca kp nn X l (es T C fuel (toSs t l))
  | [], _ => dss_nil
  | s :: r, hk => dss_cons (h s fun z w => hk z (List.mem_append_left _ w)) (toSs_ok h r fun z w => hk z (List.mem_append_right _ w))
theorem comp_bad {n : Nat} {sc : Scope} : ∀ e, compB e = true → (∀ elt gs scope cp, e ≠ .ListComp elt gs scope cp) → toE Z n sc e = .bad := fun e h1 h2 => by
  cases n with
  | zero => rfl
  | succ n =>
    cases e with
    | ListComp a b d f => exact absurd rfl (h2 a b d f)
    | SetComp a b d f => rfl
    | DictComp a b d f g => rfl
    | _ => cases h1
theorem toS_ok : ∀ (n : Nat) (st : Stmt) {X : Cx}, SCtx ca fa Z T C nn lv X → (kp = true → 0 ∉ wr (toS Z n X.env.scope st)) → DSn ca kp nn X st (es T C fuel (toS Z n X.env.scope st))
  | 0, st, X, c, _ => ds_bad fun m => rfl
  | n + 1, st, X, c, hk => by
    have ih := fun e => toE_ok (nn := nn) dep e c.c
    unfold toS at hk ⊢
    split
    · exact ds_doc ps_doc
    · rename_i e q hn
      split
      · exact ds_bad fun m => rfl
      · rename_i hc
        exact ds_exp (ih e).1 (sw_no (by simpa using hc))
    · exact ds_ret (ih _).1
    · exact ds_retn
    · exact ds_ife (ih _).2 (toSs_ok (fun st h => toS_ok n st c h) _ fun z w => hk z (List.mem_append_left _ w)) (toSs_ok (fun st h => toS_ok n st c h) _ fun z w => hk z (List.mem_append_right _ w))
    · simp only at hk
      split
      · exact ds_bad fun m => rfl
      · rename_i hs
        rw [if_neg hs] at hk
        exact ds_for c.c.calm c.own (it_ok c.c ih) (pg_pat (fun x h => st_ok c.fn h) c.c.calm c.c.nd c.c.N 8 _) (toSs_ok (fun st h => toS_ok n st c h) _ fun z w => hk z (List.mem_append_right _ w)) (by simpa using hs) fun z w => hk z (List.mem_append_left _ w)
    · exact ds_whl c.own (ih _).2 (toSs_ok (fun st h => toS_ok n st c h) _ hk)
    · exact asg_ok c ih (fun h1 h2 h3 => setc_ok c 39 h1 h2 h3) comp_bad hk
    · exact ds_tryq fun pn => toSs_ok (fun st h => toS_ok n st (c.tr pn) h) _ hk never (tks_never (nn := nn) rfl)
    · exact ds_pass
    · exact ds_brk
    · exact ds_cnt
    · exact ds_bad fun m => rfl
end
end SB
set_option maxRecDepth 100000
/-! SbFun: a def keeps its promise. -/
namespace SB
open PySem PySem.Spec PyProof.Rows L2
section
variable {ca fa : Nat → Addr} {Z : Nam} {T : Tab} {C : Calls} {nn kp : Bool} {lv fuel : Nat} {F H : Hp} {m m' : Frm} {σ : L2.St}
theorem get_app {α : Type} {l : List (Option α)} {k j : Nat} {x : α} (h : (l ++ List.replicate k none)[j]? = some (some x)) : l[j]? = some (some x) := by
  by_cases hj : j < l.length
  · rwa [List.getElem?_append_left hj] at h
  · rw [List.getElem?_append_right (by omega), List.getElem?_replicate] at h
    split at h <;> cases h
theorem app_get {α : Type} {l : List (Option α)} {k j : Nat} {x : α} (h : l[j]? = some (some x)) : (l ++ List.replicate k none)[j]? = some (some x) := by
  rw [List.getElem?_append_left (List.getElem?_eq_some_iff.mp h).1]
  exact h
theorem Rep.app (R : Rep ca F m σ H) (k : Nat) : Rep ca F (m ++ List.replicate k none) (σ ++ List.replicate k none) H :=
  ⟨R.sub, by rw [List.length_append, List.length_append, R.len]; simp, fun i d e => let ⟨v, h, q⟩ := R.dat i d (get_app e); ⟨v, app_get h, q⟩, fun i d e => let ⟨a, h, q⟩ := R.own i d (get_app e); ⟨a, app_get h, q⟩,
    fun i j d e a h1 h2 h3 h4 => R.inj i j d e a (get_app h1) (get_app h2) (get_app h3) (get_app h4)⟩
theorem own_app {k : Nat} {b : Addr} (h : Own (m ++ List.replicate k none) (σ ++ List.replicate k none) b) : Own m σ b := by
  obtain ⟨i, d, h1, h2⟩ := h
  exact ⟨i, d, get_app h1, get_app h2⟩
theorem runF_inv {d : Fd} {avs : List Slo} {r : Except Exn RV} {mo : Option Dat} (h : runF T C fuel d avs = some (r, mo)) : avs.length = d.np ∧ d.np ≤ d.n ∧ ∃ o m', es T C fuel d.body (avs.map some ++ List.replicate (d.n - d.np) none) = some (o, m') ∧
    ((o = .nxt ∧ r = .ok (.dat .non)) ∨ (∃ rv, o = .ret rv ∧ r = .ok rv) ∨ ∃ x, o = .exc x ∧ r = .error x) ∧ ((d.mt = false ∧ mo = none) ∨ (d.mt = true ∧ ∃ dd, mo = some dd ∧ m'[0]? = some (some (.own dd)))) := by
  unfold runF at h
  split at h
  · rename_i hl
    refine ⟨hl.1, hl.2, ?_⟩
    split at h
    · rename_i o m' he
      refine ⟨o, m', he, ?_⟩
      split at h
      · rename_i r0 hr
        have hr' : (o = .nxt ∧ r0 = .ok (.dat .non)) ∨ (∃ rv, o = .ret rv ∧ r0 = .ok rv) ∨ ∃ x, o = .exc x ∧ r0 = .error x := by
          cases o with
          | nxt => cases hr; exact .inl ⟨rfl, rfl⟩
          | ret rv => cases hr; exact .inr (.inl ⟨rv, rfl, rfl⟩)
          | exc x => cases hr; exact .inr (.inr ⟨x, rfl, rfl⟩)
          | brk => cases hr
          | cnt => cases hr
        cases hm : d.mt with
        | false =>
          rw [hm] at h
          simp only [Bool.false_eq_true, if_false] at h
          cases h
          exact ⟨hr', .inl ⟨rfl, rfl⟩⟩
        | true =>
          rw [hm] at h
          simp only [if_true] at h
          split at h
          · rename_i dd h0
            cases h
            exact ⟨hr', .inr ⟨rfl, dd, rfl, h0⟩⟩
          · cases h
      · cases h
    · cases h
  · cases h
/-- behind a body -/
theorem body_end {avs : List Slo} {vs : List V} {k : Nat} {o : Out} {r : Except Exn RV} {mo : Option Dat} {Q : VK} {E : XK} (hl : avs.length = vs.length)
    (ho : (o = .nxt ∧ r = .ok (.dat .non)) ∨ (∃ rv, o = .ret rv ∧ r = .ok rv) ∨ ∃ x, o = .exc x ∧ r = .error x) (hm : (kp = false ∧ mo = none) ∨ (kp = true ∧ ∃ dd, mo = some dd ∧ m'[0]? = some (some (.own dd)))) (hv : kp = true → 0 < vs.length)
    (g : GEnd ca F H avs vs r mo Q E) : OEnd ca kp (fun cls d _ H => E cls d H) (Own (avs.map some ++ List.replicate k none) (vs.map some ++ List.replicate k none)) F (vs.map some ++ List.replicate k none) H { nx := fun _ H' => Q .non H', rt := Q } o m' := by
  have first : ∀ {F' H' : Hp} {σ' : L2.St}, Rep ca F' m' σ' H' → Keep kp (vs.map some ++ List.replicate k none) σ' → MutAt ca F' H' mo vs ∧ ∀ b, MutB mo vs b → Own m' σ' b := fun {F' H' σ'} R K => by
    rcases hm with ⟨h1, h2⟩ | ⟨h1, dd, h2, h3⟩
    · subst h2
      exact ⟨(fun d z => by cases z), fun b z => by cases z.1⟩
    · subst h2
      obtain ⟨a, e1, n, oa⟩ := R.own 0 dd h3
      have e2 := K.fst h1
      rw [e1] at e2
      have hv' := hv h1
      have e3 : vs[0]? = some (.ref a) := by
        have e4 := get_app e2.symm
        rw [List.getElem?_map] at e4
        cases q : vs[0]? with
        | none => rw [q] at e4; cases e4
        | some v => rw [q] at e4; cases e4; rfl
      refine ⟨fun d z => ?_, fun b z => ?_⟩
      · cases z
        exact ⟨a, e3, n, oa⟩
      · have := z.2
        rw [e3] at this
        cases this
        exact ⟨0, dd, h3, e1⟩
  have wide : ∀ {F' H' : Hp} {B : Addr → Prop}, Since F H (Own (avs.map some ++ List.replicate k none) (vs.map some ++ List.replicate k none)) F' H' B → Since F H (Own (frm avs) (sts vs)) F' H' B := fun S => S.wide fun b z => own_app z
  rcases ho with ⟨e1, e2⟩ | ⟨rv, e1, e2⟩ | ⟨x, e1, e2⟩
  · subst e1 e2
    intro F' H' σ' S R K
    obtain ⟨h1, h2⟩ := first R K
    exact g F' H' .non ((wide S).less fun b z => z.elim (h2 b) False.elim) R.sub h1 rfl
  · subst e1 e2
    intro F' H' σ' v S R K q nb
    obtain ⟨h1, h2⟩ := first R K
    refine g F' H' v ((wide S).less fun b z => z.imp (h2 b) id) R.sub h1 ?_
    cases rv with
    | dat d => exact q
    | bor i => exact absurd rfl (nb i)
    | own d =>
      obtain ⟨a, ea, n, oa, na⟩ := q
      exact ⟨a, ea, n, oa, fun z => na (h2 a z)⟩
  · subst e1 e2
    intro F' H' σ' Cc d S R K q
    obtain ⟨h1, h2⟩ := first R K
    exact g F' H' Cc d ((wide S).less fun b z => h2 b z) R.sub h1 q
variable {P : Program} {w : World} {K : PySem.W.Frag} {mg : PySem.Str → Option Value} {base : Heap}
/-- THE RULE: a def -/
theorem gp_of {x qual : PySem.Str} {st : Stmt} {f : Addr} {fd : FuncData} {ps : List PySem.Str} {d : Fd} {n : Nat} (Fu : Fun K x qual st f fd) (S : FnScope Z.N ps (defScope st)) (hb : Binds K fd ps []) (sta : Sta ca fa Z.G Z.cm T K mg) (ok : CallsOk T C)
    (gp : ∀ (f : Nat) (fd : Fd), T.fns[f]? = some fd → GP ca P w K mg base fd.nn fd.kws lv (fa f) (C f)) (hnn : ∀ (f : Nat) (fd : Fd), T.fns[f]? = some fd → fd.nn = true ∨ d.nn = false)
    (hp : d.np = ps.length) (hn : d.n = Z.N.length) (hbody : d.body = toSs (toS Z n (defScope st)) (defBody st)) (hk : d.mt = true → 0 ∉ wr d.body) (hv : d.mt = true → 0 < d.np) (hkw : ∀ n ks ix, (n, ks, ix) ∈ d.kws → ∀ (s : Shared) (u1 ws us : List Value), K.In s.heap → u1.length = n → ws.length = ks.length → permL ix (u1 ++ ws) = some us → us.length = ps.length → BindsTo s fd ⟨u1, ks.zip ws⟩ (ps.zip us)) : GP ca P w K mg base d.nn d.kws (lv + 4) f (runF T C fuel d) := by
  intro A outer s H args us vs F0 avs r mo Q E hg hr e0 to rv R e k
  obtain ⟨oc, od, kV, doc, pm, an, cdv, ct, osl, rfl, lk, hcd⟩ := Fu.ex
  obtain ⟨ha, hle, o, m', he, ho, hm⟩ := runF_inv e
  have hl0 : avs.length = vs.length := by
    have := R.len
    simpa [frm, sts] using this
  have hl : vs.length = ps.length := by rw [← hl0, ha, hp]
  have KX : K.In s.heap := e0.mod.kin.keeps fun b o e => (e0.bs b o e).1
  have lim : s.heap.NoLimit := e0.mod.nolimit.keeps fun b o e => (e0.bs b o e).1
  have hkind : ∀ y ∈ ps.zip us, (defScope st).names.lookup y.1 = some .local ∨ ((defScope st).names.lookup y.1 = some .cell ∧ ((cellsFrom (s.heap.objs.size + 1) (defScope st).names []).lookup y.1).isSome = true) := fun ⟨n, v⟩ hy => by
    rcases S.par n (List.of_mem_zip hy).1 with q | q
    · exact .inl q
    · exact .inr ⟨q, PySem.W.cellsFrom_some _ _ _ (.inl q)⟩
  have hbs : BindsTo s (PySem.W.fnOf x qual (defArgs st) (defBody st) (defScope st) .none kV doc pm an cdv ct) args (ps.zip us) := by
    rcases to with e | ⟨n', ks, ix, u1, ws, h1, h2, h3, e, h5⟩
    · subst e
      have := hb s us KX (by rw [List.append_nil, ← rv.length]; exact hl)
      rwa [List.append_nil] at this
    · subst e
      exact hkw n' ks ix h1 s u1 ws us KX h2 h3 h5 (by rw [← rv.length]; exact hl)
  refine codeAny_call_function hr.depth (KX _ _ lk) rfl S.co S.gen rfl (PySem.W.codeRec_of KX hcd) (hbs _ _ _ _ ?_)
  refine wpAny_newFunctionEnv_cells S.kind hkind fun env he s1 x1 => ?_
  subst he
  refine ⟨lim.keeps x1.toInCall.keep, codeAny_func ?_⟩
  have I : Inv (cxOf (CXn d.nn P w) P w K mg base Z.N qual (defScope st) f cdv A outer s H E) [] (L2.start Z.N vs) H s1 := inv_start S hr.hd e0 hl rv x1
  have sc : SCtx ca fa Z T C d.nn lv (cxOf (CXn d.nn P w) P w K mg base Z.N qual (defScope st) f cdv A outer s H E) :=
    ⟨⟨sta, ok, gp, hnn, rfl, S.nd, rfl, hg, (hr.deeper _ : Room (lv + 3) _)⟩, S.kind, passes_of (X := cxOf (CXn d.nn P w) P w K mg base Z.N qual (defScope st) f cdv A outer s H E) (K := fun e s'' => CXn d.nn P w outer H s E e s'') (E₁ := fun e s'' => CXn d.nn P w outer H s E e s'') rfl, fun _ => rfl⟩
  have tk : Tks d.nn (cxOf (CXn d.nn P w) P w K mg base Z.N qual (defScope st) f cdv A outer s H E) (fun cls d _ H => E cls d H) := by
    generalize d.nn = nn
    cases nn with
    | true => exact L2N.takes_of (X := cxOf (L2N.CX P w) P w K mg base Z.N qual (defScope st) f cdv A outer s H E) rfl rfl rfl rfl
    | false => exact L2.takes_of (X := cxOf (L2.CX P w) P w K mg base Z.N qual (defScope st) f cdv A outer s H E) rfl rfl rfl rfl
  have run := toSs_ok (kp := d.mt) (fuel := fuel) (fun st h => toS_ok (kp := d.mt) (fuel := fuel) n st sc h) (defBody st) (show d.mt = true → 0 ∉ wr (toSs (toS Z n (defScope st)) (defBody st)) from by rw [← hbody]; exact hk)
  have e1 : L2.start Z.N vs = vs.map some ++ List.replicate (d.n - d.np) none := by
    unfold L2.start
    rw [hn, hp, hl]
  have hq : tS ca d.mt (fun cls d _ H => E cls d H) (es T C fuel (toSs (toS Z n (defScope st)) (defBody st))) { nx := fun _ H' => Q .non H', rt := Q } (L2.start Z.N vs) H := by
    rw [e1, ← hbody]
    exact ⟨F0, _, R.app (d.n - d.np), o, m', he, body_end hl0 ho hm (fun z => by rw [← hl0, ha]; exact hv z) k⟩
  refine wpAny_mono ((run _ tk).run [] s1 (L2.start Z.N vs) H _ I hq) (fun fl s' hs => ?_) fun e s' hs => hs
  have fin : ∀ {σ' : L2.St} {H' : Hp} {v : V} {u : Value}, Inv (cxOf (CXn d.nn P w) P w K mg base Z.N qual (defScope st) f cdv A outer s H E) [] σ' H' s' → RelV v u → Q v H' → CE outer P w H s Q u s' :=
    fun {σ' H' v u} J rv q => ⟨v, H', J.os, J.bare, J.base, J.hok, rv, q⟩
  cases fl with
  | ret u =>
    obtain ⟨v, σ', H', J, rv, q⟩ := hs
    exact fin J rv q
  | next =>
    obtain ⟨σ', H', J, q⟩ := hs
    exact fin (v := V.non) (u := Value.none) J rfl q
  | brk =>
    obtain ⟨_, _, _, q⟩ := hs
    exact False.elim q
  | cont =>
    obtain ⟨_, _, _, q⟩ := hs
    exact False.elim q
/-- what stands of every def of the table -/
structure DefOk (ca fa : Nat → Addr) (G : List (PySem.Str × GK)) (cm : List (Nat × PySem.Str × Nat)) (T : Tab) (K : PySem.W.Frag) (f : Nat) (d : Fd) : Prop where
  ex : ∃ (Z : Nam) (x qual : PySem.Str) (st : Stmt) (fd : FuncData) (ps : List PySem.Str) (n : Nat), Z.G = G ∧ Z.cm = cm ∧ Fun K x qual st (fa f) fd ∧ FnScope Z.N ps (defScope st) ∧ Binds K fd ps [] ∧ d.np = ps.length ∧ d.n = Z.N.length ∧ d.body = toSs (toS Z n (defScope st)) (defBody st) ∧
    ∀ n ks ix, (n, ks, ix) ∈ d.kws → ∀ (s : Shared) (u1 ws us : List Value), K.In s.heap → u1.length = n → ws.length = ks.length → permL ix (u1 ++ ws) = some us → us.length = ps.length → BindsTo s fd ⟨u1, ks.zip ws⟩ (ps.zip us)
  mt : d.mt = true → 0 ∉ wr d.body ∧ 0 < d.np
  nn : d.nn = false
theorem calls_ok : ∀ n, CallsOk T (callN T fuel n)
  | 0 => ⟨fun f fd avs r mo _ _ h => by cases h⟩
  | n + 1 => ⟨fun f fd avs r mo hf hm h => by
    unfold callN at h
    rw [hf] at h
    obtain ⟨_, _, _, _, _, _, h2⟩ := runF_inv h
    rcases h2 with ⟨_, h3⟩ | ⟨h3, _⟩
    · exact h3
    · rw [hm] at h3; cases h3⟩
/-- every def keeps its promise, to any depth -/
theorem gp_all {G : List (PySem.Str × GK)} {cm : List (Nat × PySem.Str × Nat)} (sta : Sta ca fa G cm T K mg) (defs : ∀ (f : Nat) (d : Fd), T.fns[f]? = some d → DefOk ca fa G cm T K f d) : ∀ (n : Nat) (f : Nat) (d : Fd), T.fns[f]? = some d → GP ca P w K mg base d.nn d.kws (4 * n) (fa f) (callN T fuel n f)
  | 0, f, d, hf => fun A outer s H args us vs F0 avs r mo Q E _ _ _ _ _ _ e _ => by cases e
  | n + 1, f, d, hf => by
    obtain ⟨⟨Z, x, qual, st, fd, ps, k, hG, hcm, Fu, S, hb, hp, hn, hbody, hkw⟩, hmt, hnn⟩ := defs f d hf
    subst hG hcm
    have e : callN T fuel (n + 1) f = runF T (callN T fuel n) fuel d := by
      funext avs
      show (match T.fns[f]? with
        | some fd => runF T (callN T fuel n) fuel fd avs
        | none => none) = _
      rw [hf]
    rw [e]
    exact gp_of Fu S hb sta (calls_ok n) (gp_all sta defs n) (fun f d hf => .inr (by rw [hnn])) hp hn hbody (fun z => (hmt z).1) (fun z => (hmt z).2) hkw
end
end SB
set_option maxRecDepth 100000
/-! SbTop: from the law's promise to its row. -/
namespace SB
open PySem PySem.Spec PyProof.Rows L2
/-- the script's place, known to the object -/
def scrH (a : Addr) (o : Obj) (ns : List Int) : Hp := fun b => if b = a then some (.frz o (.lst (ns.map V.int))) else none
theorem ints_isds {ca : Nat → Addr} {F : Hp} : ∀ ns : List Int, IsDs ca F (ns.map Dat.int) (ns.map V.int)
  | [] => rfl
  | i :: r => ⟨.int i, r.map V.int, rfl, rfl, ints_isds r⟩
theorem law_callG {ca : Nat → Addr} {P : Program} {w : World} {K : PySem.W.Frag} {mg mb : PySem.Str → Option Value} {nn : Bool} {kws : List (Nat × List PySem.Str × List Nat)} {k : Nat} {fa a : Addr} {s1 : Shared} {vs : List Value} {ns : List Int} {g : List Slo → Option (Except Exn RV × Option Dat)}
    (KX : K.In s1.heap) (hns : s1.heap.Ns mainGlobals mg) (hb : s1.heap.Ns builtinsNs mb) (hbb : ∀ x : PySem.Str, x ≠ "__name__" → mb x = bootBuiltins x) (hlim : s1.heap.NoLimit) (hgen : s1.gens = #[])
    (ha : s1.heap.get? a = some { cls := .type "list", data := .seq vs.toArray }) (hi : IntsAre vs ns) (hl : ns.length ≤ sizeLine) (hr : Room k callerA) (hno : K.lookup a = none)
    (G : ∀ base : Heap, K.In base → base.Ns mainGlobals mg → GP ca P w K mg base nn kws k fa g) (hg : g [.dat (.lst (ns.map .int))] = some (.ok (.dat (.bl true)), none)) :
    codeAny (model P w) callerA (.call (.ref fa) ⟨[.ref a], []⟩) (fun r s' => r = .ok (.ret (.bool true)) ∧ OldK s1.heap s'.heap ∧ s'.os = s1.os ∧ AllBare s'.gens) s1 := by
  have rv := vals_ints hi
  have sH : scrH a { cls := .type "list", data := .seq vs.toArray } ns a = some (.frz { cls := .type "list", data := .seq vs.toArray } (.lst (ns.map V.int))) := if_pos rfl
  have nH : ∀ {b : Addr}, b ≠ a → scrH a { cls := .type "list", data := .seq vs.toArray } ns b = none := fun {b} h => if_neg h
  have hok : HOk P w (scrH a { cls := .type "list", data := .seq vs.toArray } ns) s1.heap := fun b u z => by
    by_cases hb : b = a
    · subst hb
      rw [sH] at z
      cases z
      exact ⟨ha, by rw [List.length_map]; exact hl, vs, _, rv, ha⟩
    · rw [nH hb] at z; cases z
  have keepN : ∀ {b : Addr} {m : PySem.Str → Option Value}, s1.heap.Ns b m → (hidT s1.heap (scrH a { cls := .type "list", data := .seq vs.toArray } ns)).Ns b m := fun {b m} ⟨o, es, ep, e, d, r⟩ => by
    refine ⟨o, es, ep, hidT_get e (nH fun z => ?_), d, r⟩
    subst z
    rw [ha] at e
    cases e
    have d' : Data.seq vs.toArray _ = Data.dict es ep := d
    cases d'
  have hKb : K.In (hidT s1.heap (scrH a { cls := .type "list", data := .seq vs.toArray } ns)) := fun b o e => hidT_get (KX b o e) (nH fun z => by
    subst z
    rw [hno] at e; cases e)
  have hM : Mod K mg (hidT s1.heap (scrH a { cls := .type "list", data := .seq vs.toArray } ns)) := ⟨hKb, keepN hns, ⟨mb, keepN hb, hbb⟩, let ⟨mc, h1, h2⟩ := hlim; ⟨mc, keepN h1, h2⟩⟩
  have e0 : Env0 P w K mg (hidT s1.heap (scrH a { cls := .type "list", data := .seq vs.toArray } ns)) callerA [] s1 (scrH a { cls := .type "list", data := .seq vs.toArray } ns) :=
    ⟨rfl, hM, fun b o e => of_hidT e, Nat.le_of_eq (hidT_size _ _), trivial, fun b hb => absurd (show b ∈ ([] : List Addr) from hb) (by simp), hok, .of_eq hgen⟩
  have R : Rep ca (scrH a { cls := .type "list", data := .seq vs.toArray } ns) (frm [.dat (.lst (ns.map .int))]) (sts [.ref a]) (scrH a { cls := .type "list", data := .seq vs.toArray } ns) := by
    refine rep_args (ds := [.lst (ns.map .int)]) (vs := [.ref a]) (Same.refl _) ⟨.ref a, [], rfl, ⟨a, ns.map V.int, rfl, .inr ⟨_, sH⟩, ints_isds ns⟩, rfl⟩
  refine codeAny_mono (G _ hKb (keepN hns) callerA [] s1 (scrH a { cls := .type "list", data := .seq vs.toArray } ns) ⟨[.ref a], []⟩ [.ref a] [.ref a] (scrH a { cls := .type "list", data := .seq vs.toArray } ns) _ _ _ (fun v _ => v = .bl true) (fun _ _ _ => False) rfl hr e0 (.inl rfl) (.cons rfl .nil) R hg (fun F' H' v _ _ _ q => q)) fun r s' h => ?_
  cases r with
  | error e => exact (cx_never h).elim
  | ok fl =>
    cases fl with
    | next => exact False.elim h
    | brk => exact False.elim h
    | cont => exact False.elim h
    | ret u =>
      obtain ⟨v, H', os, bare, un, hok', r', q⟩ := h
      have q' : v = .bl true := q
      subst q'
      obtain rfl : u = Value.bool true := r'
      refine ⟨rfl, OldK.of_keep fun b o e => ?_, os, bare⟩
      by_cases hb : b = a
      · subst hb
        have z2 := un.frzs b _ _ sH
        obtain ⟨e2, _⟩ := hok' b _ z2
        rw [ha] at e; cases e
        exact e2
      · exact un.keep b o e (nH hb) (by intro z; exact absurd (show b ∈ ([] : List Addr) from z) (by simp)) (by simp)
end SB
set_option maxRecDepth 100000
/-! SbHead: what stands behind the top, looked at by one Bool; from it Sta and DefOk. -/
namespace SB
open PySem PySem.Spec PyProof.Rows L2
/-- where a def stands: a name of the module, a class's method, property, classmethod -/
inductive At where
  | glo (x : PySem.Str)
  | met (c m : PySem.Str)
  | prp (c m : PySem.Str)
  | cme (c m : PySem.Str)
def headA : Option (List Value) → Addr
  | some (.ref g :: _) => g
  | _ => 0
def At.adr (K : PySem.W.Frag) : At → Addr
  | .glo x => He.ga K x
  | .met c m => He.ma K (He.ga K c) m
  | .prp c m => headA (PySem.W.recIn K (He.ma K (He.ga K c) m) "property")
  | .cme c m => headA (PySem.W.recIn K (He.ma K (He.ga K c) m) "classmethod")
/-- a def of the text -/
structure DefI where
  at_ : At
  name : PySem.Str
  qual : PySem.Str
  st : Stmt
  ps : List PySem.Str
  N : List PySem.Str
  mt : Bool
  C : List (PySem.Str × Nat) := []
  kws : List (Nat × List PySem.Str × List Nat) := []
/-- a law's tables -/
structure Lt where
  G : List (PySem.Str × GK)
  defs : List DefI
  cn : List PySem.Str
  T : Tab
  cm : List (Nat × PySem.Str × Nat)
  om : List PySem.Str
  kp : List ((Nat × List PySem.Str) × List Nat)
def Lt.Z (L : Lt) (d : DefI) : Nam := ⟨d.N, L.G, d.C, L.cm, L.om, L.kp⟩
def stDep : Nat := 20
def Lt.fd (L : Lt) (d : DefI) : Fd := { np := d.ps.length, n := d.N.length, mt := d.mt, nn := false, body := toSs (toS (L.Z d) stDep (defScope d.st)) (defBody d.st), kws := d.kws }
def Lt.ca (L : Lt) (K : PySem.W.Frag) (c : Nat) : Addr := match L.cn[c]? with
  | some x => He.ga K x
  | none => 0
def Lt.fa (L : Lt) (K : PySem.W.Frag) (f : Nat) : Addr := match L.defs[f]? with
  | some d => d.at_.adr K
  | none => 0
/-! ### looks -/
def mtIs (L : Lt) (f : Nat) (b : Bool) : Bool := match L.T.fns[f]? with
  | some fd => fd.mt == b
  | none => false
def namB (L : Lt) (K : PySem.W.Frag) (x : PySem.Str) : GK → Bool
  | .con (.int i) => (He.Fa.int x i).ok K
  | .con (.str z) => (He.Fa.str x z).ok K
  | .con _ => false
  | .fn f => He.eqO (PySem.W.nsIn K mainGlobals x) (some (some (.ref (L.fa K f)))) && (PySem.W.keepIn K (.ref (L.fa K f)) && mtIs L f false)
  | .fnm f => He.eqO (PySem.W.nsIn K mainGlobals x) (some (some (.ref (L.fa K f)))) && (PySem.W.keepIn K (.ref (L.fa K f)) && mtIs L f true)
  | .cls c => He.eqO (PySem.W.nsIn K mainGlobals x) (some (some (.ref (L.ca K c)))) && PySem.W.keepIn K (.ref (L.ca K c))
  | .exc c => He.eqO (PySem.W.nsIn K mainGlobals x) (some (some (.ref (L.ca K c))))
def clsB (K : PySem.W.Frag) (C : Addr) : Bool := PySem.W.plainGet K C Str.empty && (PySem.W.hasDictIn K C && (PySem.W.plainOver K C && He.eqO (PySem.W.findIn K (.ref C) "__setattr__") (some (some (.builtin "object.__setattr__")))))
def mkB (K : PySem.W.Frag) (C f : Addr) : Bool := PySem.W.makesIn K C && (He.eqO (PySem.W.findIn K (.ref C) "__init__") (some (some (.ref f))) && (PySem.W.isFn K (.ref f) && PySem.W.keepIn K (.ref C)))
def metB (K : PySem.W.Frag) (C : Addr) (m : PySem.Str) (f : Addr) : Bool := He.eqO (PySem.W.findIn K (.ref C) m) (some (some (.ref f))) && (PySem.W.isFn K (.ref f) && (PySem.W.keepIn K (.ref f) && PySem.W.fnIn K f))
def headIs (r : Option (List Value)) (g : Addr) : Bool := match r with
  | some (.ref a :: _) => decide (a = g)
  | _ => false
def prpB (K : PySem.W.Frag) (C : Addr) (f : PySem.Str) (p g : Addr) : Bool := He.eqO (PySem.W.findIn K (.ref C) f) (some (some (.ref p))) && (He.eqO (PySem.W.specialIn K (.ref p) "__get__") (some (some (.builtin "property.__get__"))) &&
  (decide (PySem.W.takesIn K (.ref p) = some true) && headIs (PySem.W.recIn K p "property") g))
def isbB (L : Lt) (K : PySem.W.Frag) (C : Addr) (cd : Cd) : Bool := He.eqO (PySem.W.findIn K (.ref C) "__class__") (some (some (.builtin "object.__class__"))) && (He.eqO (PySem.W.specialIn K (.builtin "object.__class__") "__get__") (some (some (.builtin "getset_descriptor.__get__"))) &&
  (decide (PySem.W.takesIn K (.builtin "object.__class__") = some true) && (decide (PySem.W.mroIn K C (.type "object") = some true) && (isiNames.all (fun n => decide (PySem.W.kitOne K (.ref C) (.type n) = some false)) && cd.iss.all fun q => decide (PySem.W.kitOne K (.ref C) (.ref (L.ca K q.1)) = some q.2)))))
def insB (L : Lt) (K : PySem.W.Frag) (c : Nat) (cd : Cd) : Bool := clsB K (L.ca K c) && (PySem.W.keepIn K (.ref (L.ca K c)) && (cd.flds.all (fun f => He.eqO (PySem.W.findIn K (.ref (L.ca K c)) f) (some none)) &&
  ((match cd.init with
    | some g => mkB K (L.ca K c) (L.fa K g) && mtIs L g true
    | none => true) && (cd.props.all (fun q => prpB K (L.ca K c) q.1 (He.ma K (L.ca K c) q.1) (L.fa K q.2) && mtIs L q.2 false) && (cd.mets.all (fun q => metB K (L.ca K c) q.1 (L.fa K q.2) && mtIs L q.2 false) &&
    (PySem.W.noSeq K (L.ca K c) && (!cd.isb || isbB L K (L.ca K c) cd)))))))
def allIx {α : Type} (f : Nat → α → Bool) : Nat → List α → Bool
  | _, [] => true
  | i, a :: r => f i a && allIx f (i + 1) r
theorem allIx_ok {α : Type} {f : Nat → α → Bool} : ∀ {l : List α} {i j : Nat} {a : α}, allIx f i l = true → l[j]? = some a → f (i + j) a = true
  | [], i, j, a, h, e => by simp at e
  | b :: r, i, 0, a, h, e => by
    have e' : b = a := by simpa using e
    subst e'
    exact (He.ba h).1
  | b :: r, i, j + 1, a, h, e => by
    have := allIx_ok (He.ba h).2 (show r[j]? = some a by simpa using e)
    rwa [show i + (j + 1) = i + 1 + j by omega]
theorem head_of {r : Option (List Value)} {g : Addr} (h : headIs r g = true) : ∃ rest, r = some (.ref g :: rest) := by
  unfold headIs at h
  split at h
  · rename_i a rest
    rw [of_decide_eq_true h]
    exact ⟨rest, rfl⟩
  · cases h
/-- what a class holds, read off it -/
def mcOf (K : PySem.W.Frag) (C : Addr) : Value := (PySem.W.typeIn K (.ref C)).getD .none
def isCm (r : Option PySem.W.CFound) (p C : Addr) : Bool := match r with
  | some (.get (.builtin n) (.ref a) .none (.ref b)) => decide (n = "classmethod.__get__") && (decide (a = p) && decide (b = C))
  | _ => false
def cmB (K : PySem.W.Frag) (C : Addr) (m : PySem.Str) (p g : Addr) : Bool := PySem.W.readsIn K C (mcOf K C) && (He.eqO (PySem.W.specialIn K (.ref C) "__getattribute__") (some (some (.builtin "type.__getattribute__"))) &&
  (isCm (PySem.W.findCls K (.ref C) (mcOf K C) m) p C && (headIs (PySem.W.recIn K p "classmethod") g && PySem.W.fnIn K g)))
theorem cm_of {K : PySem.W.Frag} {C p g : Addr} {m : PySem.Str} (c : cmB K C m p g = true) : ClX.CRead K C (mcOf K C) ∧ ClX.CMet K C (mcOf K C) m p g := by
  obtain ⟨c1, c⟩ := He.ba c
  obtain ⟨c2, c⟩ := He.ba c
  obtain ⟨c3, c⟩ := He.ba c
  obtain ⟨c4, c5⟩ := He.ba c
  refine ⟨⟨c1, He.eqO_ok c2⟩, ?_, head_of c4, c5⟩
  unfold isCm at c3
  split at c3
  · rename_i n a b q
    obtain ⟨d1, d⟩ := He.ba c3
    obtain ⟨d2, d3⟩ := He.ba d
    rw [of_decide_eq_true d1, of_decide_eq_true d2, of_decide_eq_true d3] at q
    exact q
  · cases c3
def staB (L : Lt) (K : PySem.W.Frag) : Bool := L.cm.all (fun q => cmB K (L.ca K q.1) q.2.1 (He.ma K (L.ca K q.1) q.2.1) (L.fa K q.2.2) && mtIs L q.2.2 false) && (L.G.all (fun q => namB L K q.1 q.2) && (bltNames.all (fun x => !(L.G.lookup x).isNone || He.eqO (PySem.W.nsIn K mainGlobals x) (some none)) &&
  (allIx (fun c cd => cd.exc || insB L K c cd) 0 L.T.cls && (allIx (fun c cd => !cd.isn || tyNames.all fun n => decide (PySem.W.kitOne K (.type n) (.ref (L.ca K c)) = some false)) 0 L.T.cls &&
    K.all fun q => decide (q.2.cls ≠ .type "list")))))
theorem con_nam {K : PySem.W.Frag} {h : Heap} {mg : PySem.Str → Option Value} {L : Lt} {x : PySem.Str} {k : GK} (X : K.In h) (G : h.Ns mainGlobals mg) (c : namB L K x k = true) : NamOk (L.ca K) (L.fa K) L.T K mg x k := by
  have mt : ∀ {f b}, mtIs L f b = true → ∃ fd, L.T.fns[f]? = some fd ∧ fd.mt = b := fun {f b} h => by
    unfold mtIs at h
    cases e : L.T.fns[f]? with
    | none => rw [e] at h; cases h
    | some fd => rw [e] at h; exact ⟨fd, rfl, eq_of_beq h⟩
  cases k with
  | con d =>
    cases d with
    | int i =>
      obtain ⟨t, e⟩ := He.int_ok X G (show (He.Fa.int x i).ok K = true from c)
      exact ⟨_, .int i, e, ⟨t, rfl⟩, fun F => rfl⟩
    | str z =>
      obtain ⟨t, e⟩ := He.str_ok X G (show (He.Fa.str x z).ok K = true from c)
      exact ⟨_, .str z, e, ⟨t, rfl⟩, fun F => rfl⟩
    | _ => cases c
  | fn f =>
    obtain ⟨c1, c2⟩ := He.ba c
    obtain ⟨c3, c4⟩ := He.ba c2
    exact ⟨PySem.W.mg_of X G (He.eqO_ok c1), c3, mt c4⟩
  | fnm f =>
    obtain ⟨c1, c2⟩ := He.ba c
    obtain ⟨c3, c4⟩ := He.ba c2
    exact ⟨PySem.W.mg_of X G (He.eqO_ok c1), c3, mt c4⟩
  | cls k =>
    obtain ⟨c1, c2⟩ := He.ba c
    exact ⟨PySem.W.mg_of X G (He.eqO_ok c1), c2⟩
  | exc k => exact PySem.W.mg_of X G (He.eqO_ok c)
theorem cls_of {K : PySem.W.Frag} {C : Addr} (c : clsB K C = true) : Cls K C := by
  obtain ⟨c1, c⟩ := He.ba c
  obtain ⟨c2, c⟩ := He.ba c
  obtain ⟨c3, c4⟩ := He.ba c
  exact ⟨c1, c2, c3, He.eqO_ok c4⟩
theorem mk_of {K : PySem.W.Frag} {C f : Addr} (c : mkB K C f = true) : Mk K C f := by
  obtain ⟨c1, c⟩ := He.ba c
  obtain ⟨c2, c⟩ := He.ba c
  obtain ⟨c3, c4⟩ := He.ba c
  exact ⟨c1, He.eqO_ok c2, c3, c4⟩
theorem met_of {K : PySem.W.Frag} {C f : Addr} {m : PySem.Str} (c : metB K C m f = true) : Meth K C m f ∧ PySem.W.fnIn K f = true := by
  obtain ⟨c1, c⟩ := He.ba c
  obtain ⟨c2, c⟩ := He.ba c
  obtain ⟨c3, c4⟩ := He.ba c
  exact ⟨⟨He.eqO_ok c1, c2, c3⟩, c4⟩
theorem prp_of {K : PySem.W.Frag} {C p g : Addr} {f : PySem.Str} (c : prpB K C f p g = true) : PropOf K C f p g := by
  obtain ⟨c1, c⟩ := He.ba c
  obtain ⟨c2, c⟩ := He.ba c
  obtain ⟨c3, c4⟩ := He.ba c
  exact ⟨He.eqO_ok c1, He.eqO_ok c2, of_decide_eq_true c3, head_of c4⟩
theorem ins_of {K : PySem.W.Frag} {L : Lt} {c : Nat} {cd : Cd} (h : insB L K c cd = true) : InsOk (L.ca K) (L.fa K) L.T K c cd := by
  have mt : ∀ {f b}, mtIs L f b = true → ∃ fd, L.T.fns[f]? = some fd ∧ fd.mt = b := fun {f b} h => by
    unfold mtIs at h
    cases e : L.T.fns[f]? with
    | none => rw [e] at h; cases h
    | some fd => rw [e] at h; exact ⟨fd, rfl, eq_of_beq h⟩
  obtain ⟨h1, h⟩ := He.ba h
  obtain ⟨h2, h⟩ := He.ba h
  obtain ⟨h3, h⟩ := He.ba h
  obtain ⟨h4, h⟩ := He.ba h
  obtain ⟨h5, h⟩ := He.ba h
  obtain ⟨h6, h⟩ := He.ba h
  obtain ⟨h7, h8⟩ := He.ba h
  refine ⟨cls_of h1, h2, fun f hf => He.eqO_ok (List.all_eq_true.mp h3 f hf), fun g hg => ?_, fun f g hq => ?_, fun f g hq => ?_, h7, fun hb => ?_⟩
  · rw [hg] at h4
    obtain ⟨a, b⟩ := He.ba h4
    exact ⟨mk_of a, mt b⟩
  · obtain ⟨a, b⟩ := He.ba (List.all_eq_true.mp h5 (f, g) hq)
    exact ⟨⟨_, prp_of a⟩, mt b⟩
  · obtain ⟨a, b⟩ := He.ba (List.all_eq_true.mp h6 (f, g) hq)
    obtain ⟨a1, a2⟩ := met_of a
    exact ⟨a1, a2, mt b⟩
  · rw [hb] at h8
    obtain ⟨a1, h8⟩ := He.ba (show isbB L K (L.ca K c) cd = true from by simpa using h8)
    obtain ⟨a2, h8⟩ := He.ba h8
    obtain ⟨a3, h8⟩ := He.ba h8
    obtain ⟨a4, h8⟩ := He.ba h8
    obtain ⟨a5, a6⟩ := He.ba h8
    exact ⟨⟨He.eqO_ok a1, He.eqO_ok a2, of_decide_eq_true a3, of_decide_eq_true a4⟩, fun n hn => of_decide_eq_true (List.all_eq_true.mp a5 n hn), fun k b hq => of_decide_eq_true (List.all_eq_true.mp a6 (k, b) hq)⟩
theorem sta_of {K : PySem.W.Frag} {h : Heap} {mg : PySem.Str → Option Value} {L : Lt} (X : K.In h) (G : h.Ns mainGlobals mg) (c : staB L K = true) : Sta (L.ca K) (L.fa K) L.G L.cm L.T K mg ∧ ∀ a o, K.lookup a = some o → o.cls ≠ .type "list" := by
  obtain ⟨c0, c⟩ := He.ba c
  obtain ⟨c1, c⟩ := He.ba c
  obtain ⟨c2, c⟩ := He.ba c
  obtain ⟨c3, c⟩ := He.ba c
  obtain ⟨c4, c5⟩ := He.ba c
  refine ⟨⟨fun x k hq => con_nam X G (List.all_eq_true.mp c1 (x, k) hq), fun x hx hn => ?_, fun k cd hc he => ?_, fun k cd hc hi n hn => ?_, fun k m g hq => ?_⟩, fun a o e => ?_⟩
  · have := List.all_eq_true.mp c2 x hx
    rw [hn] at this
    exact PySem.W.mg_none_of X G (He.eqO_ok (by simpa using this))
  · have := allIx_ok c3 hc
    rw [he, Nat.zero_add] at this
    exact ins_of (by simpa using this)
  · have := allIx_ok c4 hc
    rw [hi, Nat.zero_add] at this
    exact (show ∀ x ∈ tyNames, PySem.W.kitOne K (.type x) (.ref (L.ca K k)) = some false from by simpa using this) n hn
  · obtain ⟨d1, d2⟩ := He.ba (List.all_eq_true.mp c0 (k, m, g) hq)
    obtain ⟨d3, d4⟩ := cm_of d1
    refine ⟨_, _, d3, d4, ?_⟩
    unfold mtIs at d2
    dsimp only at d2
    cases e : L.T.fns[g]? with
    | none => rw [e] at d2; cases d2
    | some fd => rw [e] at d2; exact ⟨fd, rfl, eq_of_beq d2⟩
  · have := List.all_eq_true.mp c5 (a, o) (mem_lookup e)
    exact of_decide_eq_true this
/-! ### the defs, as the look tells them -/
def fnWa (K : PySem.W.Frag) (a : Addr) : He.FnW := match K.lookup a with
  | some ⟨_, _, .func fd, _⟩ => some (fd.name, fd.qualname, fd.params, fd.body, fd.scope, fd.globals, fd.closure, fd.builtins)
  | _ => none
def DefI.val (d : DefI) : He.FnW := some (d.name, d.qual, defArgs d.st, .stmts (defBody d.st), defScope d.st, mainGlobals, [], builtinsNs)
def DefI.ok (K : PySem.W.Frag) (d : DefI) : Bool := PySem.W.keepIn K (.ref (d.at_.adr K)) && (match K.lookup (d.at_.adr K) with
  | some ⟨_, _, .func fd, _⟩ => PySem.W.codeIn K fd.code d.qual && He.dflB K fd.defaults []
  | _ => false)
theorem DefI.fun_ {K : PySem.W.Frag} {d : DefI} (e : fnWa K (d.at_.adr K) = d.val) (c : d.ok K = true) : ∃ fd, Fun K d.name d.qual d.st (d.at_.adr K) fd := by
  obtain ⟨kp, c2⟩ := He.ba c
  unfold fnWa at e
  cases q : K.lookup (d.at_.adr K) with
  | none =>
    rw [q] at c2
    cases c2
  | some o =>
    obtain ⟨oc, od, dt, osl⟩ := o
    rw [q] at c2 e
    cases dt with
    | func fd =>
      obtain ⟨n1, n2, n3, n4, n5, n6, n7, n8, n9, n10, n11, n12, n13, n14, n15⟩ := fd
      have e2 : (some (n1, n2, n3, n4, n5, n6, n7, n15) : He.FnW) = some (d.name, d.qual, defArgs d.st, .stmts (defBody d.st), defScope d.st, mainGlobals, [], builtinsNs) := e
      simp only [Option.some.injEq, Prod.mk.injEq] at e2
      obtain ⟨h1, h2, h3, h4, h5, h6, h7, h8⟩ := e2
      subst h1 h2 h3 h4 h5 h6 h7 h8
      have c3 : (PySem.W.codeIn K n13 d.qual && He.dflB K n8 []) = true := c2
      obtain ⟨k1, k2⟩ := He.ba c3
      have e8 : n8 = Value.none := by
        cases n8 with
        | none => rfl
        | _ => cases k2
      subst e8
      exact ⟨_, ⟨oc, od, n9, n10, n11, n12, n13, n14, osl, rfl, q, k1⟩, kp⟩
    | _ => cases c2
abbrev AlS : Type := Bool × List He.FnW
def obsS (L : Lt) (K : PySem.W.Frag) : AlS := (staB L K && L.defs.all fun d => d.ok K, L.defs.map fun d => fnWa K (d.at_.adr K))
def valS (L : Lt) : AlS := (true, L.defs.map DefI.val)
def obsSG (n : Nat) (L : Lt) (g : Addr → Option Obj) : AlS := obsS L (He.frG g (cStatics :: He.asD g n))
def hookS (n : Nat) (L : Lt) : PySem.W.Hook where
  α := AlS
  obs := fun s => obsSG n L s.heap.get?
  val := fun _ => valS L
  says := fun _ h => ∃ K : PySem.W.Frag, K.In h ∧ obsS L K = valS L
  of := fun _ _ e => ⟨_, He.frG_in, e⟩
  keeps := fun _ _ _ ⟨K, hK, c⟩ k => ⟨K, PySem.W.Frag.In.keeps hK k, c⟩
theorem obsSG_eq {n : Nat} {L : Lt} {g : Addr → Option Obj} {s : Shared} (h : ∀ a, g a = s.heap.get? a) : obsSG n L g = (hookS n L).obs s := by
  have e : g = s.heap.get? := funext h
  rw [e] <;> rfl
theorem saysS_sta {L : Lt} {K : PySem.W.Frag} (c : obsS L K = valS L) : staB L K = true := (He.ba (show (staB L K && L.defs.all fun d => d.ok K) = true from congrArg (fun z : AlS => z.1) c)).1
theorem saysS_def {L : Lt} {K : PySem.W.Frag} (c : obsS L K = valS L) {i : Nat} {d : DefI} (h : L.defs[i]? = some d) : ∃ fd, Fun K d.name d.qual d.st (L.fa K i) fd := by
  have c1 := (He.ba (show (staB L K && L.defs.all fun d => d.ok K) = true from congrArg (fun z : AlS => z.1) c)).2
  have e : L.defs.map (fun d => fnWa K (d.at_.adr K)) = L.defs.map DefI.val := congrArg (fun z : AlS => z.2) c
  have e2 : (L.defs.map fun d => fnWa K (d.at_.adr K))[i]? = (L.defs.map DefI.val)[i]? := by rw [e]
  rw [List.getElem?_map, List.getElem?_map, h] at e2
  have := DefI.fun_ (Option.some.inj e2) (List.all_eq_true.mp c1 d (List.mem_of_getElem? h))
  have ea : L.fa K i = d.at_.adr K := by unfold Lt.fa; rw [h]
  rw [ea]
  exact this
/-! ### what is plain of each def -/
structure DefP (d : DefI) (f : Fd) : Prop where
  sc : FnScope d.N d.ps (defScope d.st)
  bd : ∀ (kV doc pm : Value) (an : Option Addr) (cdv ct : Value) (us : List Value), us.length = d.ps.length → bindArgs (PySem.W.fnOf d.name d.qual (defArgs d.st) (defBody d.st) (defScope d.st) .none kV doc pm an cdv ct) ⟨us, []⟩ = pure (d.ps.zip us)
  mt : d.mt = true → 0 ∉ wr f.body ∧ 0 < d.ps.length
  kw : ∀ n ks ix, (n, ks, ix) ∈ d.kws → ∀ (kV doc pm : Value) (an : Option Addr) (cdv ct : Value) (u1 ws us : List Value), u1.length = n → ws.length = ks.length → permL ix (u1 ++ ws) = some us → us.length = d.ps.length →
    bindArgs (PySem.W.fnOf d.name d.qual (defArgs d.st) (defBody d.st) (defScope d.st) .none kV doc pm an cdv ct) ⟨u1, ks.zip ws⟩ = pure (d.ps.zip us)
def Plain (L : Lt) : Prop := L.T.fns = L.defs.map L.fd ∧ ∀ (i : Nat) (d : DefI) (f : Fd), L.defs[i]? = some d → L.T.fns[i]? = some f → DefP d f
theorem defs_ok {L : Lt} {K : PySem.W.Frag} (c : obsS L K = valS L) (P : Plain L) (f : Nat) (d : Fd) (h : L.T.fns[f]? = some d) : DefOk (L.ca K) (L.fa K) L.G L.cm L.T K f d := by
  obtain ⟨e, P2⟩ := P
  have h' := h
  rw [e, List.getElem?_map] at h'
  cases hd : L.defs[f]? with
  | none => rw [hd] at h'; cases h'
  | some di =>
    rw [hd] at h'
    have ed : L.fd di = d := Option.some.inj h'
    obtain ⟨fd, Fu⟩ := saysS_def c hd
    have p := P2 f di d hd h
    refine ⟨⟨L.Z di, di.name, di.qual, di.st, fd, di.ps, stDep, rfl, rfl, Fu, p.sc, Fu.binds p.bd, ?_, ?_, ?_, fun n ks ix hm s u1 ws us X l1 l2 l3 l4 => ?_⟩, ?_, ?_⟩
    · rw [← ed]; rfl
    · rw [← ed]; rfl
    · rw [← ed]; rfl
    · obtain ⟨oc, od, kV, doc, pm, an, cdv, ct, osl, rfl, lk, hcd⟩ := Fu.ex
      exact .of_eq (p.kw n ks ix (by rw [← ed] at hm; exact hm) kV doc pm an cdv ct u1 ws us l1 l2 l3 l4)
    · intro hm
      have : di.mt = true := by rw [← hm, ← ed]; rfl
      obtain ⟨a, b⟩ := p.mt this
      refine ⟨a, ?_⟩
      rw [← ed]
      exact b
    · rw [← ed]; rfl
/-- the goal that the head leaves -/
theorem walk_ofS {l : PySem.W.OpenLaw} {n k lawi fuel nh : Nat} {q : Program} {loose : List PySem.Str} {XP : (PySem.Str → Option Value) → Heap → Prop} {d : DefRec} {L : Lt} {fd : Fd} (P : Plain L)
    (hn : l.most = some n) (hn2 : n ≤ sizeLine) (hdf : d.params.defaults = []) (hr : Room (4 * k) callerA) (hl : L.T.fns[lawi]? = some fd) (hname : L.G.lookup d.name = some (.fn lawi))
    (hg : ∀ ns : List Int, ns.length ≤ n → callN L.T fuel k lawi [.dat (.lst (ns.map .int))] = some (.ok (.dat (.bl true)), none)) :
    PySem.W.WalkO q loose XP (hookS nh L).says l.row.toRowW d [] (fun f vs => PySem.call f vs) := by
  refine Att.attach_call hn hdf fun w s₀ s₁ mg mb fa o pm cd doc a vs ns G Y ho hd hcd hmg hobj hints hlen hg2 => ?_
  obtain ⟨K, KX, c⟩ := Y
  obtain ⟨sta, hno⟩ := sta_of KX G.T.g (saysS_sta c)
  have hna : K.lookup a = none := by
    cases e : K.lookup a with
    | none => rfl
    | some ob =>
      have e1 := KX a ob e
      rw [hobj] at e1
      cases e1
      exact absurd rfl (hno a _ e)
  have hfa : fa = L.fa K lawi := by
    obtain ⟨e, _⟩ := sta.nam _ _ (mem_lookup hname)
    rw [hmg] at e
    cases e
    rfl
  subst hfa
  exact law_callG KX G.T.g G.T.b G.T.builtins G.T.nolimit hg2 hobj hints (Nat.le_trans hlen hn2) hr hna (fun base hb hN => gp_all sta (defs_ok c P) k lawi fd hl) (hg ns hlen)
end SB
set_option maxRecDepth 100000
set_option maxHeartbeats 0
namespace SB
open PySem PySem.Spec PyProof.Rows L2
abbrev pw : Program := PySem.Challenge.pw_salebids_k02_rules_made
def topS (i : Nat) : Stmt := pw.main.body.getD i (.Pass ⟨0, 0, 0, 0⟩)
def G : List (PySem.Str × GK) := [
  (("is_integer" : PySem.Str), GK.fn 0),
  (("is_name" : PySem.Str), GK.fn 1),
  (("written" : PySem.Str), GK.fn 2),
  (("is_part" : PySem.Str), GK.fn 5),
  (("parsed_term" : PySem.Str), GK.fn 6),
  (("parsed_who" : PySem.Str), GK.fn 7),
  (("parsed_deed" : PySem.Str), GK.fn 8),
  (("parsed_row" : PySem.Str), GK.fn 9),
  (("check_seats" : PySem.Str), GK.fn 10),
  (("check_lines" : PySem.Str), GK.fn 11),
  (("is_line" : PySem.Str), GK.fn 12),
  (("check_rows" : PySem.Str), GK.fn 13),
  (("check_bids" : PySem.Str), GK.fn 14),
  (("worth_of" : PySem.Str), GK.fn 30),
  (("_law_source" : PySem.Str), GK.fn 31),
  (("_law_take" : PySem.Str), GK.fnm 32),
  (("_law_names" : PySem.Str), GK.fnm 33),
  (("_law_piece" : PySem.Str), GK.fnm 34),
  (("_law_line" : PySem.Str), GK.fnm 35),
  (("_law_row" : PySem.Str), GK.fnm 36),
  (("_law_plan" : PySem.Str), GK.fnm 37),
  (("_law_term" : PySem.Str), GK.fn 38),
  (("_law_deed" : PySem.Str), GK.fn 39),
  (("_law_triple" : PySem.Str), GK.fn 40),
  (("_law_whole" : PySem.Str), GK.fn 41),
  (("_law_is_right" : PySem.Str), GK.fn 42),
  (("_law_right" : PySem.Str), GK.fnm 43),
  (("law" : PySem.Str), GK.fn 44),
  (("BadValue" : PySem.Str), GK.exc 0),
  (("BadName" : PySem.Str), GK.exc 1),
  (("InvalidText" : PySem.Str), GK.exc 2),
  (("InvalidSeats" : PySem.Str), GK.exc 3),
  (("InvalidLines" : PySem.Str), GK.exc 4),
  (("InvalidRows" : PySem.Str), GK.exc 5),
  (("InvalidBids" : PySem.Str), GK.exc 6),
  (("UnknownName" : PySem.Str), GK.exc 7),
  (("Term" : PySem.Str), GK.cls 8),
  (("Row" : PySem.Str), GK.cls 9),
  (("Rule" : PySem.Str), GK.cls 10),
  (("MOST_SEATS" : PySem.Str), GK.con (Dat.int 4)),
  (("MOST_LINES" : PySem.Str), GK.con (Dat.int 8)),
  (("MOST_ROWS" : PySem.Str), GK.con (Dat.int 6)),
  (("MOST_PARTS" : PySem.Str), GK.con (Dat.int 6)),
  (("MOST_INTEGER" : PySem.Str), GK.con (Dat.int 1000000000000)),
  (("LETTERS" : PySem.Str), GK.con (Dat.str ("abcdefghijklmnopqrstuvwxyz" : PySem.Str))),
  (("DIGITS" : PySem.Str), GK.con (Dat.str ("0123456789" : PySem.Str))),
  (("LONGEST_NAME" : PySem.Str), GK.con (Dat.int 8)),
  (("LONGEST_NUMBER" : PySem.Str), GK.con (Dat.int 13))]
def defs0 : List DefI := [
  { at_ := .glo ("is_integer" : PySem.Str), name := "is_integer", qual := "is_integer", st := topS 20, ps := ["value"], N := ["value"], mt := false, C := [] },
  { at_ := .glo ("is_name" : PySem.Str), name := "is_name", qual := "is_name", st := topS 21, ps := ["value"], N := ["value", "sign"], mt := false, C := [] },
  { at_ := .glo ("written" : PySem.Str), name := "written", qual := "written", st := topS 22, ps := ["word"], N := ["word", "sign", "number"], mt := false, C := [] },
  { at_ := .met ("Term" : PySem.Str) ("__init__" : PySem.Str), name := "__init__", qual := "Term.__init__", st := inClass (topS 24) 0, ps := ["self", "rank", "parts"], N := ["self", "rank", "parts"], mt := true, C := [] },
  { at_ := .met ("Row" : PySem.Str) ("__init__" : PySem.Str), name := "__init__", qual := "Row.__init__", st := inClass (topS 25) 0, ps := ["self", "condition", "who", "part"], N := ["self", "condition", "who", "part"], mt := true, C := [] },
  { at_ := .glo ("is_part" : PySem.Str), name := "is_part", qual := "is_part", st := topS 26, ps := ["word", "known"], N := ["word", "known"], mt := false, C := [] },
  { at_ := .glo ("parsed_term" : PySem.Str), name := "parsed_term", qual := "parsed_term", st := topS 27, ps := ["text", "known"], N := ["text", "known", "words", "parts", "number", "word"], mt := false, C := [] },
  { at_ := .glo ("parsed_who" : PySem.Str), name := "parsed_who", qual := "parsed_who", st := topS 28, ps := ["word", "seats"], N := ["word", "seats", "number"], mt := false, C := [] },
  { at_ := .glo ("parsed_deed" : PySem.Str), name := "parsed_deed", qual := "parsed_deed", st := topS 29, ps := ["words", "condition", "seats", "known"], N := ["words", "condition", "seats", "known", "who"], mt := false, C := [] },
  { at_ := .glo ("parsed_row" : PySem.Str), name := "parsed_row", qual := "parsed_row", st := topS 30, ps := ["text", "is_last", "seats", "known"], N := ["text", "is_last", "seats", "known", "words", "condition"], mt := false, C := [] },
  { at_ := .glo ("check_seats" : PySem.Str), name := "check_seats", qual := "check_seats", st := topS 32, ps := ["value"], N := ["value", "index", "seat"], mt := false, C := [] },
  { at_ := .glo ("check_lines" : PySem.Str), name := "check_lines", qual := "check_lines", st := topS 33, ps := ["seats", "value"], N := ["seats", "value", "known", "index", "line", "terms", "name", "text", "term"], mt := false, C := [] },
  { at_ := .glo ("is_line" : PySem.Str), name := "is_line", qual := "is_line", st := topS 34, ps := ["value"], N := ["value"], mt := false, C := [] },
  { at_ := .glo ("check_rows" : PySem.Str), name := "check_rows", qual := "check_rows", st := topS 35, ps := ["seats", "known", "value"], N := ["seats", "known", "value", "found", "index", "text", "row"], mt := false, C := [] },
  { at_ := .glo ("check_bids" : PySem.Str), name := "check_bids", qual := "check_bids", st := topS 36, ps := ["rule", "value"], N := ["rule", "value", "index", "bid"], mt := false, C := [] },
  { at_ := .met ("Rule" : PySem.Str) ("__init__" : PySem.Str), name := "__init__", qual := "Rule.__init__", st := inClass (topS 37) 0, ps := ["self", "seats", "lines", "rows"], N := ["self", "seats", "lines", "rows", "name", "text"], mt := true, C := [], kws := [(1, [("rows" : PySem.Str), ("seats" : PySem.Str), ("lines" : PySem.Str)], [0, 2, 3, 1])] },
  { at_ := .cme ("Rule" : PySem.Str) ("read" : PySem.Str), name := "read", qual := "Rule.read", st := inClass (topS 37) 1, ps := ["cls", "text"], N := ["cls", "text", "head", "rest", "words", "lines", "name", "sign", "term", "rule"], mt := false, C := [("cls", 10)], kws := [(1, [("text" : PySem.Str)], [0, 1])] },
  { at_ := .prp ("Rule" : PySem.Str) ("seats" : PySem.Str), name := "seats", qual := "Rule.seats", st := inClass (topS 37) 2, ps := ["self"], N := ["self"], mt := false, C := [] },
  { at_ := .prp ("Rule" : PySem.Str) ("lines" : PySem.Str), name := "lines", qual := "Rule.lines", st := inClass (topS 37) 3, ps := ["self"], N := ["self"], mt := false, C := [] },
  { at_ := .prp ("Rule" : PySem.Str) ("rows" : PySem.Str), name := "rows", qual := "Rule.rows", st := inClass (topS 37) 4, ps := ["self"], N := ["self"], mt := false, C := [] }]
def defs1 : List DefI := [
  { at_ := .met ("Rule" : PySem.Str) ("__getitem__" : PySem.Str), name := "__getitem__", qual := "Rule.__getitem__", st := inClass (topS 37) 5, ps := ["self", "name"], N := ["self", "name", "own", "text"], mt := false, C := [] },
  { at_ := .met ("Rule" : PySem.Str) ("__len__" : PySem.Str), name := "__len__", qual := "Rule.__len__", st := inClass (topS 37) 6, ps := ["self"], N := ["self"], mt := false, C := [] },
  { at_ := .met ("Rule" : PySem.Str) ("__bool__" : PySem.Str), name := "__bool__", qual := "Rule.__bool__", st := inClass (topS 37) 7, ps := ["self"], N := ["self"], mt := false, C := [] },
  { at_ := .met ("Rule" : PySem.Str) ("__iter__" : PySem.Str), name := "__iter__", qual := "Rule.__iter__", st := inClass (topS 37) 8, ps := ["self"], N := ["self"], mt := false, C := [] },
  { at_ := .met ("Rule" : PySem.Str) ("__str__" : PySem.Str), name := "__str__", qual := "Rule.__str__", st := inClass (topS 37) 9, ps := ["self"], N := ["self", "lines", "name", "text"], mt := false, C := [] },
  { at_ := .met ("Rule" : PySem.Str) ("__eq__" : PySem.Str), name := "__eq__", qual := "Rule.__eq__", st := inClass (topS 37) 10, ps := ["self", "other"], N := ["self", "other"], mt := false, C := [] },
  { at_ := .met ("Rule" : PySem.Str) ("worths" : PySem.Str), name := "worths", qual := "Rule.worths", st := inClass (topS 37) 11, ps := ["self", "bids"], N := ["self", "bids", "found", "name", "text", "term", "row", "part"], mt := false, C := [] },
  { at_ := .met ("Rule" : PySem.Str) ("value" : PySem.Str), name := "value", qual := "Rule.value", st := inClass (topS 37) 12, ps := ["self", "name", "bids"], N := ["self", "name", "bids", "own", "text"], mt := false, C := [] },
  { at_ := .met ("Rule" : PySem.Str) ("outcome" : PySem.Str), name := "outcome", qual := "Rule.outcome", st := inClass (topS 37) 13, ps := ["self", "bids"], N := ["self", "bids"], mt := false, C := [] },
  { at_ := .met ("Rule" : PySem.Str) ("changed" : PySem.Str), name := "changed", qual := "Rule.changed", st := inClass (topS 37) 14, ps := ["self", "change"], N := ["self", "change"], mt := false, C := [] },
  { at_ := .glo ("worth_of" : PySem.Str), name := "worth_of", qual := "worth_of", st := topS 38, ps := ["part", "found"], N := ["part", "found"], mt := false, C := [] },
  { at_ := .glo ("_law_source" : PySem.Str), name := "_law_source", qual := "_law_source", st := topS 40, ps := ["_law_script", "_law_k"], N := ["_law_script", "_law_k", "_law_seed", "_law_cell", "_law_digits"], mt := false, C := [] },
  { at_ := .glo ("_law_take" : PySem.Str), name := "_law_take", qual := "_law_take", st := topS 41, ps := ["_law_source_here", "_law_size"], N := ["_law_source_here", "_law_size", "_law_seed", "_law_by", "_law_digit"], mt := true, C := [] },
  { at_ := .glo ("_law_names" : PySem.Str), name := "_law_names", qual := "_law_names", st := topS 42, ps := ["_law_source_here", "_law_size"], N := ["_law_source_here", "_law_size", "_law_signs", "_law_found", "_law_words_here", "_law_k", "_law_way", "_law_letter", "_law_label", "_law_j", "_law_spare"], mt := true, C := [] },
  { at_ := .glo ("_law_piece" : PySem.Str), name := "_law_piece", qual := "_law_piece", st := topS 43, ps := ["_law_source_here", "_law_known"], N := ["_law_source_here", "_law_known", "_law_way", "_law_number"], mt := true, C := [] },
  { at_ := .glo ("_law_line" : PySem.Str), name := "_law_line", qual := "_law_line", st := topS 44, ps := ["_law_source_here", "_law_label", "_law_known", "_law_seats_here"], N := ["_law_source_here", "_law_label", "_law_known", "_law_seats_here", "_law_pieces", "_law_j"], mt := true, C := [] },
  { at_ := .glo ("_law_row" : PySem.Str), name := "_law_row", qual := "_law_row", st := topS 45, ps := ["_law_source_here", "_law_is_last", "_law_known", "_law_seats_here"], N := ["_law_source_here", "_law_is_last", "_law_known", "_law_seats_here", "_law_way", "_law_place", "_law_who", "_law_price", "_law_sides"], mt := true, C := [] },
  { at_ := .glo ("_law_plan" : PySem.Str), name := "_law_plan", qual := "_law_plan", st := topS 46, ps := ["_law_source_here", "_law_size", "_law_many", "_law_last_one"], N := ["_law_source_here", "_law_size", "_law_many", "_law_last_one", "_law_names_here", "_law_found", "_law_seats_here", "_law_k", "_law_deeds"], mt := true, C := [] },
  { at_ := .glo ("_law_term" : PySem.Str), name := "_law_term", qual := "_law_term", st := topS 47, ps := ["_law_line_here_here"], N := ["_law_line_here_here", "_law_piece_here"], mt := false, C := [] },
  { at_ := .glo ("_law_deed" : PySem.Str), name := "_law_deed", qual := "_law_deed", st := topS 48, ps := ["_law_row_here"], N := ["_law_row_here", "_law_sides", "_law_who", "_law_price", "_law_deed_here"], mt := false, C := [] }]
def defs2 : List DefI := [
  { at_ := .glo ("_law_triple" : PySem.Str), name := "_law_triple", qual := "_law_triple", st := topS 49, ps := ["_law_plan_here"], N := ["_law_plan_here", "_law_pairs", "_law_line_here_here", "_law_row_here"], mt := false, C := [] },
  { at_ := .glo ("_law_whole" : PySem.Str), name := "_law_whole", qual := "_law_whole", st := topS 50, ps := ["_law_plan_here"], N := ["_law_plan_here", "_law_found", "_law_line_here_here", "_law_row_here"], mt := false, C := [] },
  { at_ := .glo ("_law_is_right" : PySem.Str), name := "_law_is_right", qual := "_law_is_right", st := topS 51, ps := ["_law_mine", "_law_plan_here"], N := ["_law_mine", "_law_plan_here", "_law_seats_here", "_law_pairs", "_law_deeds", "_law_label", "_law_line_here_here"], mt := false, C := [] },
  { at_ := .glo ("_law_right" : PySem.Str), name := "_law_right", qual := "_law_right", st := topS 52, ps := ["_law_source_here"], N := ["_law_source_here", "_law_plan_here", "_law_seats_here", "_law_pairs", "_law_deeds", "_law_line_here", "_law_found", "_law_mine"], mt := true, C := [] },
  { at_ := .glo ("law" : PySem.Str), name := "law", qual := "law", st := topS 53, ps := ["_law_script"], N := ["_law_script", "_law_k"], mt := false, C := [] }]
def defs : List DefI := defs0 ++ defs1 ++ defs2
def cn : List PySem.Str := [("BadValue" : PySem.Str), ("BadName" : PySem.Str), ("InvalidText" : PySem.Str), ("InvalidSeats" : PySem.Str), ("InvalidLines" : PySem.Str), ("InvalidRows" : PySem.Str), ("InvalidBids" : PySem.Str), ("UnknownName" : PySem.Str), ("Term" : PySem.Str), ("Row" : PySem.Str), ("Rule" : PySem.Str)]
def cls : List Cd := [
  { exc := true, attr := "", init := none, flds := [], props := [], mets := [], ups := [0], isb := false, iss := [], isn := false },
  { exc := true, attr := "", init := none, flds := [], props := [], mets := [], ups := [1], isb := false, iss := [], isn := false },
  { exc := true, attr := "given", init := none, flds := ["given"], props := [], mets := [], ups := [2], isb := false, iss := [], isn := false },
  { exc := true, attr := "index", init := none, flds := ["index"], props := [], mets := [], ups := [3], isb := false, iss := [], isn := false },
  { exc := true, attr := "index", init := none, flds := ["index"], props := [], mets := [], ups := [4], isb := false, iss := [], isn := false },
  { exc := true, attr := "index", init := none, flds := ["index"], props := [], mets := [], ups := [5], isb := false, iss := [], isn := false },
  { exc := true, attr := "index", init := none, flds := ["index"], props := [], mets := [], ups := [6], isb := false, iss := [], isn := false },
  { exc := true, attr := "given", init := none, flds := ["given"], props := [], mets := [], ups := [7], isb := false, iss := [], isn := false },
  { exc := false, attr := "", init := some 3, flds := ["rank", "parts"], props := [], mets := [], ups := [8], isb := true, iss := [(8, true), (9, false), (10, false)], isn := true },
  { exc := false, attr := "", init := some 4, flds := ["condition", "who", "part"], props := [], mets := [], ups := [9], isb := true, iss := [(8, false), (9, true), (10, false)], isn := true },
  { exc := false, attr := "", init := some 15, flds := ["terms", "deeds", "held_seats", "held_lines", "held_rows"], props := [(("seats" : PySem.Str), 17), (("lines" : PySem.Str), 18), (("rows" : PySem.Str), 19)], mets := [(("__getitem__" : PySem.Str), 20), (("__len__" : PySem.Str), 21), (("__bool__" : PySem.Str), 22), (("__iter__" : PySem.Str), 23), (("__str__" : PySem.Str), 24), (("__eq__" : PySem.Str), 25), (("worths" : PySem.Str), 26), (("value" : PySem.Str), 27), (("outcome" : PySem.Str), 28), (("changed" : PySem.Str), 29)], ups := [10], isb := true, iss := [(8, false), (9, false), (10, true)], isn := true }]
def cm : List (Nat × PySem.Str × Nat) := [(10, ("read" : PySem.Str), 16)]
def om : List PySem.Str := [("changed" : PySem.Str), ("outcome" : PySem.Str), ("value" : PySem.Str), ("worths" : PySem.Str)]
def kp : List ((Nat × List PySem.Str) × List Nat) := [((0, [("rows" : PySem.Str), ("seats" : PySem.Str), ("lines" : PySem.Str)]), [1, 2, 0]), ((0, [("text" : PySem.Str)]), [0])]
def loose : List PySem.Str := ([("_wall" : PySem.Str), ("BadValue" : PySem.Str), ("BadName" : PySem.Str), ("InvalidText" : PySem.Str), ("InvalidSeats" : PySem.Str), ("InvalidLines" : PySem.Str), ("InvalidRows" : PySem.Str), ("InvalidBids" : PySem.Str), ("UnknownName" : PySem.Str), ("MOST_SEATS" : PySem.Str), ("MOST_LINES" : PySem.Str), ("MOST_ROWS" : PySem.Str), ("MOST_PARTS" : PySem.Str), ("MOST_INTEGER" : PySem.Str), ("LETTERS" : PySem.Str), ("DIGITS" : PySem.Str), ("LONGEST_NAME" : PySem.Str), ("LONGEST_NUMBER" : PySem.Str), ("is_integer" : PySem.Str), ("is_name" : PySem.Str), ("written" : PySem.Str), ("Term" : PySem.Str), ("Row" : PySem.Str), ("is_part" : PySem.Str), ("parsed_term" : PySem.Str), ("parsed_who" : PySem.Str), ("parsed_deed" : PySem.Str), ("parsed_row" : PySem.Str), ("check_seats" : PySem.Str), ("check_lines" : PySem.Str), ("is_line" : PySem.Str), ("check_rows" : PySem.Str), ("check_bids" : PySem.Str), ("Rule" : PySem.Str), ("worth_of" : PySem.Str), ("_law_source" : PySem.Str), ("_law_take" : PySem.Str), ("_law_names" : PySem.Str)] : List PySem.Str) ++ ([("_law_piece" : PySem.Str), ("_law_line" : PySem.Str), ("_law_row" : PySem.Str), ("_law_plan" : PySem.Str), ("_law_term" : PySem.Str), ("_law_deed" : PySem.Str), ("_law_triple" : PySem.Str), ("_law_whole" : PySem.Str), ("_law_is_right" : PySem.Str), ("_law_right" : PySem.Str)] : List PySem.Str)
def L0 : Lt := { G := G, defs := defs, cn := cn, T := { fns := [], cls := cls }, cm := cm, om := om, kp := kp }
def L1 : Lt := { L0 with T := { fns := defs.map L0.fd, cls := cls } }
abbrev R : PySem.W.OpenRow := PySem.W.OpenLaw.row PySem.Challenge.rw_salebids_k02_rules_made
abbrev hk : PySem.W.Hook := hookS 6 L1
def ob (s : PySem.W.SharedT) : AlS := obsSG 6 L1 (HandSHeadRun.getT s)
theorem ob_eq (s : PySem.W.SharedT) : ob s = hk.obs s.abs := obsSG_eq (HandSHeadRun.getT_eq s)
theorem run (w : World) : HandSHeadRun.RunEq R (PySem.W.view R.prog [53]) hk ob 200000 loose w := by
  intro os
  kernel_rfl
end SB
/-! PuWp: what must hold ahead of an expression, a statement, a call. -/
namespace SB.P
open PySem L2
def wM {α : Type} (f : M α) (m : Frm) (Q : Except Exn α → Frm → Prop) : Prop := ∃ r m', f m = some (r, m') ∧ Q r m'
def wS (f : Frm → Option (Out × Frm)) (m : Frm) (Q : Out → Frm → Prop) : Prop := ∃ o m', f m = some (o, m') ∧ Q o m'
def wC (C : Calls) (f : Nat) (a : List Slo) (Q : Except Exn RV → Option Dat → Prop) : Prop := ∃ r mo, C f a = some (r, mo) ∧ Q r mo
def okQ {α β : Type} (Q : Except Exn β → Frm → Prop) (k : α → Frm → Prop) : Except Exn α → Frm → Prop := fun r m => match r with
  | .ok a => k a m
  | .error e => Q (.error e) m
theorem ex_run {α : Type} {x : α} {y : Frm} {Q : α → Frm → Prop} : (∃ r m', some (x, y) = some (r, m') ∧ Q r m') ↔ Q x y := ⟨fun ⟨_, _, h, q⟩ => by cases h; exact q, fun q => ⟨_, _, rfl, q⟩⟩
theorem ex_no {α : Type} {Q : α → Frm → Prop} : (∃ r m', none = some (r, m') ∧ Q r m') ↔ False := ⟨fun ⟨_, _, h, _⟩ => (nomatch h), False.elim⟩
section
variable {α β : Type} {Q : Except Exn α → Frm → Prop} {m : Frm}
@[simp] theorem okQ_ok {k : β → Frm → Prop} {a : β} : okQ Q k (.ok a) m ↔ k a m := Iff.rfl
@[simp] theorem okQ_er {k : β → Frm → Prop} {e : Exn} : okQ Q k (.error e : Except Exn β) m ↔ Q (.error e) m := Iff.rfl
@[simp] theorem wM_ret {a : α} : wM (ret a) m Q ↔ Q (.ok a) m := ⟨fun ⟨r, m', h, q⟩ => by cases h; exact q, fun q => ⟨_, _, rfl, q⟩⟩
@[simp] theorem wM_bnd {f : M β} {g : β → M α} : wM (bnd f g) m Q ↔ wM f m (okQ Q fun a m1 => wM (g a) m1 Q) := by
  constructor
  · rintro ⟨r, m', h, q⟩
    unfold bnd at h
    split at h
    · cases h
    · rename_i e m1 h1
      cases h
      exact ⟨_, _, h1, q⟩
    · rename_i a m1 h1
      exact ⟨_, _, h1, _, _, h, q⟩
  · rintro ⟨r, m', h, q⟩
    cases r with
    | error e => exact ⟨_, _, by unfold bnd; rw [h], q⟩
    | ok a =>
      obtain ⟨r2, m2, h2, q2⟩ := q
      exact ⟨r2, m2, by unfold bnd; rw [h]; exact h2, q2⟩
@[simp] theorem wM_some {a : α} : wM (lft (some a)) m Q ↔ Q (.ok a) m := ⟨fun ⟨r, m', h, q⟩ => by cases h; exact q, fun q => ⟨_, _, rfl, q⟩⟩
@[simp] theorem wM_none : wM (lft (none : Option α)) m Q ↔ False := ⟨fun ⟨_, _, h, _⟩ => (nomatch h), False.elim⟩
@[simp] theorem wM_no : wM (fun _ => none : M α) m Q ↔ False := ⟨fun ⟨_, _, h, _⟩ => (nomatch h), False.elim⟩
theorem wM_fun {f : M α} : wM (fun m => f m) m Q ↔ wM f m Q := Iff.rfl
@[simp] theorem wM_lft' {o : Frm → Option α} : wM (lft' o) m Q ↔ ∃ a, o m = some a ∧ Q (.ok a) m := by
  constructor
  · rintro ⟨r, m', h, q⟩
    unfold lft' at h
    split at h
    · cases h
    · rename_i a h1
      cases h
      exact ⟨a, h1, q⟩
  · rintro ⟨a, h, q⟩
    exact ⟨_, _, by unfold lft'; rw [h], q⟩
@[simp] theorem wM_ite {c : Prop} [Decidable c] {f g : M α} : wM (if c then f else g) m Q ↔ if c then wM f m Q else wM g m Q := by split <;> rfl
theorem wM_mono {f : M α} {Q' : Except Exn α → Frm → Prop} (h : wM f m Q') (k : ∀ r m', Q' r m' → Q r m') : wM f m Q := let ⟨r, m', e, q⟩ := h; ⟨r, m', e, k r m' q⟩
end
section
variable {Q : Except Exn Dat → Frm → Prop} {m : Frm}
@[simp] theorem wM_look_dat {d : Dat} : wM (look (.dat d)) m Q ↔ Q (.ok d) m := ⟨fun ⟨r, m', h, q⟩ => by cases h; exact q, fun q => ⟨_, _, rfl, q⟩⟩
@[simp] theorem wM_look_own {d : Dat} : wM (look (.own d)) m Q ↔ Q (.ok d) m := ⟨fun ⟨r, m', h, q⟩ => by cases h; exact q, fun q => ⟨_, _, rfl, q⟩⟩
/-- what a slot holds -/
def sloD (m : Frm) (i : Nat) : Option Dat := match m[i]? with
  | some (some (.own d)) => some d
  | some (some (.dat d)) => some d
  | _ => none
@[simp] theorem wM_look_bor {i : Nat} : wM (look (.bor i)) m Q ↔ ∃ d, sloD m i = some d ∧ Q (.ok d) m := by
  unfold wM look peek sloD
  dsimp only
  cases m[i]? with
  | none => simp
  | some o =>
    cases o with
    | none => simp
    | some s => cases s <;> exact ex_run.trans ⟨fun q => ⟨_, rfl, q⟩, fun ⟨_, h, q⟩ => by cases h; exact q⟩
@[simp] theorem wM_frz_dat {d : Dat} : wM (frz (.dat d)) m Q ↔ Q (.ok d) m := ⟨fun ⟨r, m', h, q⟩ => by cases h; exact q, fun q => ⟨_, _, rfl, q⟩⟩
@[simp] theorem wM_frz_own {d : Dat} : wM (frz (.own d)) m Q ↔ Q (.ok d) m := ⟨fun ⟨r, m', h, q⟩ => by cases h; exact q, fun q => ⟨_, _, rfl, q⟩⟩
@[simp] theorem wM_frz_bor {i : Nat} : wM (frz (.bor i)) m Q ↔ match m[i]? with
    | some (some (.own d)) => Q (.ok d) (m.set i (some (.dat d)))
    | some (some (.dat d)) => Q (.ok d) m
    | _ => False := by
  unfold wM frz
  dsimp only
  cases m[i]? with
  | none => exact ex_no
  | some o =>
    cases o with
    | none => exact ex_no
    | some s => cases s <;> exact ex_run
@[simp] theorem prj_dat {d : Dat} : prj (.dat d) = .dat d := rfl
@[simp] theorem prj_own {d : Dat} : prj (.own d) = .dat d := rfl
@[simp] theorem prj_bor {i : Nat} : prj (.bor i) = .bor i := rfl
@[simp] theorem asBl_bl {b : Bool} : asBl (.dat (.bl b)) = some b := rfl
end
section
variable {Q : Except Exn (List Dat) → Frm → Prop} {m : Frm}
@[simp] theorem wM_frzs_nil : wM (frzs []) m Q ↔ Q (.ok []) m := wM_ret
@[simp] theorem wM_frzs_cons {r : RV} {rs : List RV} : wM (frzs (r :: rs)) m Q ↔ wM (frz r) m (okQ Q fun d m1 => wM (frzs rs) m1 (okQ Q fun ds m2 => Q (.ok (d :: ds)) m2)) := by
  show wM (bnd _ _) m Q ↔ _
  simp
@[simp] theorem wM_looks_nil : wM (looks []) m Q ↔ Q (.ok []) m := wM_ret
@[simp] theorem wM_looks_cons {r : RV} {rs : List RV} : wM (looks (r :: rs)) m Q ↔ wM (look r) m (okQ Q fun d m1 => wM (looks rs) m1 (okQ Q fun ds m2 => Q (.ok (d :: ds)) m2)) := by
  show wM (bnd _ _) m Q ↔ _
  simp
end
section
variable {T : Tab} {C : Calls} {Q : Except Exn RV → Frm → Prop} {m : Frm}
@[simp] theorem wM_callF {f : Nat} {ds : List Dat} : wM (callF C f ds) m Q ↔ wC C f (ds.map .dat) fun r _ => Q r m := by
  constructor
  · rintro ⟨r, m', h, q⟩
    unfold callF at h
    split at h
    · rename_i r0 mo h0
      cases h
      exact ⟨_, _, h0, q⟩
    · cases h
  · rintro ⟨r, mo, h, q⟩
    exact ⟨r, m, by unfold callF; rw [h], q⟩
@[simp] theorem wM_callM_own {f : Nat} {d : Dat} {ds : List Dat} : wM (callM C f (.own d) ds) m Q ↔ wC C f (.own d :: ds.map .dat) fun r _ => Q r m := by
  constructor
  · rintro ⟨r, m', h, q⟩
    simp only [callM] at h
    split at h
    · rename_i r0 mo h0
      cases h
      exact ⟨_, _, h0, q⟩
    · cases h
  · rintro ⟨r, mo, h, q⟩
    exact ⟨r, m, by simp only [callM]; rw [h], q⟩
@[simp] theorem wM_callM_bor {f i : Nat} {ds : List Dat} : wM (callM C f (.bor i) ds) m Q ↔ match m[i]? with
    | some (some (.own d)) => wC C f (.own d :: ds.map .dat) fun r mo => ∃ d', mo = some d' ∧ Q r (m.set i (some (.own d')))
    | _ => False := by
  unfold wM callM
  dsimp only
  cases m[i]? with
  | none => simp
  | some o =>
    cases o with
    | none => simp
    | some s =>
      cases s with
      | dat d => simp
      | own d =>
        dsimp only
        constructor
        · rintro ⟨r, m', h, q⟩
          split at h
          · rename_i r0 d' h0
            cases h
            exact ⟨_, _, h0, d', rfl, q⟩
          · cases h
        · rintro ⟨r, mo, h, d', rfl, q⟩
          exact ⟨r, _, by rw [h], q⟩
theorem wC_mono {f : Nat} {a : List Slo} {R R' : Except Exn RV → Option Dat → Prop} (h : wC C f a R) (k : ∀ r mo, R r mo → R' r mo) : wC C f a R' := let ⟨r, mo, e, q⟩ := h; ⟨r, mo, e, k r mo q⟩
/-! ### expressions -/
@[simp] theorem wM_var {i : Nat} : wM (ev T C (.var i)) m Q ↔ match m[i]? with
    | some (some (.dat d)) => Q (.ok (.dat d)) m
    | some (some (.own _)) => Q (.ok (.bor i)) m
    | _ => False := by
  unfold wM
  rw [ev]
  dsimp only
  cases m[i]? with
  | none => exact ex_no
  | some o =>
    cases o with
    | none => exact ex_no
    | some s => cases s <;> exact ex_run
end
end SB.P
/-! PuWp2: the rules, expression by expression, statement by statement. -/
namespace SB.P
open PySem L2
theorem wM_congr {α : Type} {f : M α} {m : Frm} {Q Q' : Except Exn α → Frm → Prop} (h : ∀ r m', Q r m' ↔ Q' r m') : wM f m Q ↔ wM f m Q' :=
  ⟨fun ⟨r, m', e, q⟩ => ⟨r, m', e, (h r m').mp q⟩, fun ⟨r, m', e, q⟩ => ⟨r, m', e, (h r m').mpr q⟩⟩
theorem okQ_congr {α β : Type} {Q : Except Exn β → Frm → Prop} {k k' : α → Frm → Prop} (h : ∀ a m', k a m' ↔ k' a m') : ∀ r m', okQ Q k r m' ↔ okQ Q k' r m'
  | .ok a, m' => h a m'
  | .error e, m' => Iff.rfl
def appM (i : Nat) (d : Dat) : M RV := fun m => match m[i]? with
    | some (some (.own (.lst l))) => if l.length < sizeLine then some (.ok (.dat .non), m.set i (some (.own (.lst (l ++ [d]))))) else none
    | _ => none
def popM (i : Nat) (x : RV) : M RV := fun m => match x, m[i]? with
    | .dat (.int 0), some (some (.own (.lst (d :: r)))) => some (.ok (.dat d), m.set i (some (.own (.lst r))))
    | _, _ => none
section
variable {T : Tab} {C : Calls} {fuel : Nat} {m : Frm}
section
variable {Q : Except Exn RV → Frm → Prop}
@[simp] theorem wM_cst {d : Dat} : wM (ev T C (.cst d)) m Q ↔ Q (.ok (.dat d)) m := by rw [ev]; simp
@[simp] theorem wM_bin {op : Operator} {a b : Ex} : wM (ev T C (.bin op a b)) m Q ↔ wM (ev T C a) m (okQ Q fun x m1 => wM (ev T C b) m1 (okQ Q fun y m2 => wM (look (prj x)) m2 (okQ Q fun dx m3 => wM (look (prj y)) m3 (okQ Q fun dy m4 => wM (lft (binV op dx dy)) m4 Q)))) := by rw [ev]; simp
@[simp] theorem wM_una {op : UnaryOp} {a : Ex} : wM (ev T C (.una op a)) m Q ↔ wM (ev T C a) m (okQ Q fun x m1 => wM (look (prj x)) m1 (okQ Q fun dx m3 => wM (lft (unaV op dx)) m3 Q)) := by rw [ev]; simp
@[simp] theorem wM_cmp {op : CmpOp} {a b : Ex} : wM (ev T C (.cmp op a b)) m Q ↔ wM (ev T C a) m (okQ Q fun x m1 => wM (ev T C b) m1 (okQ Q fun y m2 => wM (look (prj x)) m2 (okQ Q fun dx m3 => wM (look (prj y)) m3 (okQ Q fun dy m4 => wM (lft ((cmpV op dx dy).map fun b => RV.dat (.bl b))) m4 Q)))) := by rw [ev]; simp
@[simp] theorem wM_chn {o1 o2 : CmpOp} {a b c : Ex} : wM (ev T C (.chn o1 o2 a b c)) m Q ↔ wM (ev T C a) m (okQ Q fun x m1 => wM (ev T C b) m1 (okQ Q fun y m2 => wM (look (prj x)) m2 (okQ Q fun dx m3 => wM (look (prj y)) m3 (okQ Q fun dy m4 => wM (lft (cmpV o1 dx dy)) m4 (okQ Q fun k m5 =>
    if k = true then wM (ev T C c) m5 (okQ Q fun z m6 => wM (look (prj y)) m6 (okQ Q fun dy2 m7 => wM (look (prj z)) m7 (okQ Q fun dz m8 => wM (lft ((cmpV o2 dy2 dz).map fun b => RV.dat (.bl b))) m8 Q))) else Q (.ok (.dat (.bl false))) m5))))) := by rw [ev]; simp
@[simp] theorem wM_and {a b : Ex} : wM (ev T C (.and a b)) m Q ↔ wM (ev T C a) m (okQ Q fun x m1 => wM (lft (asBl x)) m1 (okQ Q fun k m2 => if k = true then wM (ev T C b) m2 Q else Q (.ok (.dat (.bl false))) m2)) := by rw [ev]; simp
@[simp] theorem wM_or {a b : Ex} : wM (ev T C (.or a b)) m Q ↔ wM (ev T C a) m (okQ Q fun x m1 => wM (lft (asBl x)) m1 (okQ Q fun k m2 => if k = true then Q (.ok (.dat (.bl true))) m2 else wM (ev T C b) m2 Q)) := by rw [ev]; simp
@[simp] theorem wM_not {a : Ex} : wM (ev T C (.not a)) m Q ↔ wM (ev T C a) m (okQ Q fun x m1 => wM (lft (asBl x)) m1 (okQ Q fun k m2 => Q (.ok (.dat (.bl (!k)))) m2)) := by rw [ev]; simp
@[simp] theorem wM_ife {c a b : Ex} : wM (ev T C (.ife c a b)) m Q ↔ wM (ev T C c) m (okQ Q fun x m1 => wM (lft (asBl x)) m1 (okQ Q fun k m2 => if k = true then wM (ev T C a) m2 Q else wM (ev T C b) m2 Q)) := by rw [ev]; simp
@[simp] theorem wM_tup {es : Ex} : wM (ev T C (.tup es)) m Q ↔ wM (evs T C es) m (okQ Q fun rs m1 => wM (frzs rs) m1 (okQ Q fun ds m2 => if ds.length ≤ sizeLine then Q (.ok (.dat (.tup ds))) m2 else False)) := by rw [ev]; simp
@[simp] theorem wM_lst {es : Ex} : wM (ev T C (.lst es)) m Q ↔ wM (evs T C es) m (okQ Q fun rs m1 => wM (frzs rs) m1 (okQ Q fun ds m2 => if ds.length ≤ sizeLine then Q (.ok (.own (.lst ds))) m2 else False)) := by rw [ev]; simp
@[simp] theorem wM_dic0 : wM (ev T C .dic0) m Q ↔ Q (.ok (.own (.dic []))) m := by rw [ev]; simp
@[simp] theorem wM_idx {a b : Ex} : wM (ev T C (.idx a b)) m Q ↔ wM (ev T C a) m (okQ Q fun x m1 => wM (ev T C b) m1 (okQ Q fun y m2 => wM (look (prj x)) m2 (okQ Q fun dx m3 => wM (look (prj y)) m3 (okQ Q fun dy m4 => wM (idxM T C (prj x) (prj y) dx dy) m4 Q)))) := by rw [ev]; simp
@[simp] theorem wM_partM_nil {v : M RV} {Q : Except Exn (Option Int) → Frm → Prop} : wM (partM .nil v) m Q ↔ Q (.ok none) m := wM_ret
def partQ (Q : Except Exn (Option Int) → Frm → Prop) : RV → Frm → Prop := fun x m1 => match x with
    | .dat (.int i) => Q (.ok (some i)) m1
    | _ => False
theorem wM_partM {e : Ex} (h : e ≠ .nil) {v : M RV} {Q : Except Exn (Option Int) → Frm → Prop} : wM (partM e v) m Q ↔ wM v m (okQ Q (partQ Q)) := by
  have : partM e v = bnd v fun x => match x with | .dat (.int i) => ret (some i) | _ => fun _ => none := by cases e <;> first | rfl | exact absurd rfl h
  rw [this, wM_bnd]
  refine wM_congr (okQ_congr fun a m' => ?_)
  unfold partQ
  split
  · exact wM_ret
  · exact wM_no
@[simp] theorem wM_part_var {i : Nat} {v : M RV} {Q : Except Exn (Option Int) → Frm → Prop} : wM (partM (.var i) v) m Q ↔ wM v m (okQ Q (partQ Q)) := wM_partM (by intro h; cases h)
@[simp] theorem wM_part_cst {i : Dat} {v : M RV} {Q : Except Exn (Option Int) → Frm → Prop} : wM (partM (.cst i) v) m Q ↔ wM v m (okQ Q (partQ Q)) := wM_partM (by intro h; cases h)
@[simp] theorem wM_part_bin {op : Operator} {a b : Ex} {v : M RV} {Q : Except Exn (Option Int) → Frm → Prop} : wM (partM (.bin op a b) v) m Q ↔ wM v m (okQ Q (partQ Q)) := wM_partM (by intro h; cases h)
@[simp] theorem wM_part_una {op : UnaryOp} {a : Ex} {v : M RV} {Q : Except Exn (Option Int) → Frm → Prop} : wM (partM (.una op a) v) m Q ↔ wM v m (okQ Q (partQ Q)) := wM_partM (by intro h; cases h)
@[simp] theorem wM_sli {a lo hi : Ex} : wM (ev T C (.sli a lo hi)) m Q ↔ wM (ev T C a) m (okQ Q fun x m1 => wM (partM lo (ev T C lo)) m1 (okQ Q fun l m2 => wM (partM hi (ev T C hi)) m2 (okQ Q fun h m3 => wM (look (prj x)) m3 (okQ Q fun dx m4 => wM (lft (sliV dx (partD l) (partD h))) m4 Q)))) := by rw [ev]; simp
@[simp] theorem wM_att {a : Ex} {f : PySem.Str} : wM (ev T C (.att a f)) m Q ↔ wM (ev T C a) m (okQ Q fun x m1 => wM (look (prj x)) m1 (okQ Q fun d m2 => wM (attV T C (prj x) d f) m2 Q)) := by rw [ev]; simp
@[simp] theorem wM_cal {f : Nat} {es : Ex} : wM (ev T C (.cal f es)) m Q ↔ wM (evs T C es) m (okQ Q fun rs m1 => wM (frzs rs) m1 (okQ Q fun ds m2 => wC C f (ds.map .dat) fun r _ => Q r m2)) := by rw [ev]; simp
@[simp] theorem wM_calm {f : Nat} {e es : Ex} : wM (ev T C (.calm f e es)) m Q ↔ wM (ev T C e) m (okQ Q fun r0 m0 => wM (evs T C es) m0 (okQ Q fun rs m1 => wM (frzs rs) m1 (okQ Q fun ds m2 => wM (callM C f r0 ds) m2 Q))) := by rw [ev]; simp
@[simp] theorem wM_mak {c : Nat} {es : Ex} : wM (ev T C (.mak c es)) m Q ↔ wM (evs T C es) m (okQ Q fun rs m1 => wM (frzs rs) m1 (okQ Q fun ds m2 => wM (makeM T C c ds) m2 Q)) := by rw [ev]; simp
@[simp] theorem wM_makv {i c : Nat} {es : Ex} : wM (ev T C (.makv i c es)) m Q ↔ wM (clsM T i c) m (okQ Q fun _ m0 => wM (evs T C es) m0 (okQ Q fun rs m1 => wM (frzs rs) m1 (okQ Q fun ds m2 => wM (makeM T C c ds) m2 Q))) := by rw [ev]; simp
@[simp] theorem wM_blt {f : Bf} {es : Ex} : wM (ev T C (.blt f es)) m Q ↔ wM (evs T C es) m (okQ Q fun rs m1 => wM (looks rs) m1 (okQ Q fun ds m2 => wM (bltM T C f rs ds) m2 Q)) := by rw [ev]; simp
@[simp] theorem wM_isi {e : Ex} {c : Cl} : wM (ev T C (.isi e c)) m Q ↔ wM (ev T C e) m (okQ Q fun x m1 => wM (look (prj x)) m1 (okQ Q fun d m2 => wM (lft ((isiV T d c).map fun b => RV.dat (.bl b))) m2 Q)) := by rw [ev]; simp
@[simp] theorem wM_kmak {c : Nat} {ks : List PySem.Str} {ix : List Nat} {es kv : Ex} : wM (ev T C (.kmak c ks ix es kv)) m Q ↔ wM (evs T C es) m (okQ Q fun rs m1 => wM (evs T C kv) m1 (okQ Q fun zs m2 => wM (frzs (rs ++ zs)) m2 (okQ Q fun ds m3 => wM (lft (kwC T c rs.length ks ix ds)) m3 (okQ Q fun ds m4 => wM (makeM T C c ds) m4 Q)))) := by rw [ev]; simp
@[simp] theorem wM_kcal {f : Nat} {ks : List PySem.Str} {ix : List Nat} {es kv : Ex} : wM (ev T C (.kcal f ks ix es kv)) m Q ↔ wM (evs T C es) m (okQ Q fun rs m1 => wM (evs T C kv) m1 (okQ Q fun zs m2 => wM (frzs (rs ++ zs)) m2 (okQ Q fun ds m3 => wM (lft (kwD T f 0 rs.length ks ix ds)) m3 (okQ Q fun ds m4 => wC C f (ds.map .dat) fun r _ => Q r m4)))) := by rw [ev]; simp
@[simp] theorem wM_omet {o : Ex} {f : PySem.Str} {ks : List PySem.Str} {ix : List Nat} {es kv : Ex} : wM (ev T C (.omet o f ks ix es kv)) m Q ↔ wM (ev T C o) m (okQ Q fun x m0 => wM (frz (prj x)) m0 (okQ Q fun d m1 => wM (lft (metI T d f)) m1 (okQ Q fun g m2 => wM (evs T C es) m2 (okQ Q fun rs m3 => wM (evs T C kv) m3 (okQ Q fun zs m4 => wM (frzs (rs ++ zs)) m4 (okQ Q fun ds m5 => wM (lft (kwD T g 1 rs.length ks ix ds)) m5 (okQ Q fun ds m6 => wC C g (.dat d :: ds.map .dat) fun r _ => Q r m6))))))) := by rw [ev]; simp
@[simp] theorem wM_cmet {f c : Nat} {ks : List PySem.Str} {ix : List Nat} {es kv : Ex} : wM (ev T C (.cmet f c ks ix es kv)) m Q ↔ wM (evs T C es) m (okQ Q fun rs m3 => wM (evs T C kv) m3 (okQ Q fun zs m4 => wM (frzs (rs ++ zs)) m4 (okQ Q fun ds m5 => wM (lft (kwD T f 1 rs.length ks ix ds)) m5 (okQ Q fun ds m6 => wC C f (.dat (.cls c) :: ds.map .dat) fun r _ => Q r m6)))) := by rw [ev]; simp
@[simp] theorem wM_met {f : Mf} {o es : Ex} : wM (ev T C (.met f o es)) m Q ↔ wM (ev T C o) m (okQ Q fun x m0 => wM (look (prj x)) m0 (okQ Q fun d0 m1 => wM (lft (metK f d0)) m1 (okQ Q fun _ m2 => wM (evs T C es) m2 (okQ Q fun rs m3 => wM (look (prj x)) m3 (okQ Q fun d m4 => wM (looks rs) m4 (okQ Q fun ds m5 => wM (lft (metV f d ds)) m5 Q)))))) := by rw [ev]; simp
@[simp] theorem wM_app {i : Nat} {e : Ex} : wM (ev T C (.app i e)) m Q ↔ (∃ l, m[i]? = some (some (.own (.lst l)))) ∧ wM (ev T C e) m (okQ Q fun x m1 => wM (frz (prj x)) m1 (okQ Q fun d m2 => match m2[i]? with
    | some (some (.own (.lst l))) => l.length < sizeLine ∧ Q (.ok (.dat .non)) (m2.set i (some (.own (.lst (l ++ [d])))))
    | _ => False)) := by
  have e0 : ev T C (.app i e) = bnd (lft' fun m => match m[i]? with | some (some (.own (.lst _))) => some () | _ => none) fun _ => bnd (ev T C e) fun x => bnd (frz (prj x)) fun d => appM i d := by rw [ev]; rfl
  have key : ∀ (d : Dat) (m2 : Frm), wM (appM i d) m2 Q ↔ match m2[i]? with
    | some (some (.own (.lst l))) => l.length < sizeLine ∧ Q (.ok (.dat .non)) (m2.set i (some (.own (.lst (l ++ [d])))))
    | _ => False := by
    intro d m2
    unfold wM appM
    split
    · split
      · rename_i h
        exact ex_run.trans ⟨fun q => ⟨h, q⟩, fun q => q.2⟩
      · rename_i h
        exact ex_no.trans ⟨False.elim, fun q => h q.1⟩
    · exact ex_no
  have tail : wM (bnd (ev T C e) fun x => bnd (frz (prj x)) fun d => appM i d) m Q ↔ wM (ev T C e) m (okQ Q fun x m1 => wM (frz (prj x)) m1 (okQ Q fun d m2 => match m2[i]? with
    | some (some (.own (.lst l))) => l.length < sizeLine ∧ Q (.ok (.dat .non)) (m2.set i (some (.own (.lst (l ++ [d])))))
    | _ => False)) := by
    rw [wM_bnd]
    refine wM_congr (okQ_congr fun x m1 => ?_)
    rw [wM_bnd]
    exact wM_congr (okQ_congr fun d m2 => key d m2)
  rw [e0, wM_bnd, wM_lft']
  constructor
  · rintro ⟨a, h, q⟩
    refine ⟨?_, tail.mp q⟩
    split at h
    · rename_i l hl; exact ⟨l, hl⟩
    · cases h
  · rintro ⟨⟨l, hl⟩, q⟩
    exact ⟨(), by rw [hl], tail.mpr q⟩
@[simp] theorem wM_pop {i : Nat} {e : Ex} : wM (ev T C (.pop i e)) m Q ↔ (∃ l, m[i]? = some (some (.own (.lst l)))) ∧ wM (ev T C e) m (okQ Q fun x m1 => match x, m1[i]? with
    | .dat (.int 0), some (some (.own (.lst (d :: r)))) => Q (.ok (.dat d)) (m1.set i (some (.own (.lst r))))
    | _, _ => False) := by
  have e0 : ev T C (.pop i e) = bnd (lft' fun m => match m[i]? with | some (some (.own (.lst _))) => some () | _ => none) fun _ => bnd (ev T C e) fun x => popM i x := by rw [ev]; rfl
  have key : ∀ (x : RV) (m2 : Frm), wM (popM i x) m2 Q ↔ match x, m2[i]? with
    | .dat (.int 0), some (some (.own (.lst (d :: r)))) => Q (.ok (.dat d)) (m2.set i (some (.own (.lst r))))
    | _, _ => False := by
    intro x m2
    unfold wM popM
    split
    · exact ex_run
    · exact ex_no
  have tail : wM (bnd (ev T C e) fun x => popM i x) m Q ↔ wM (ev T C e) m (okQ Q fun x m1 => match x, m1[i]? with
    | .dat (.int 0), some (some (.own (.lst (d :: r)))) => Q (.ok (.dat d)) (m1.set i (some (.own (.lst r))))
    | _, _ => False) := by
    rw [wM_bnd]
    exact wM_congr (okQ_congr fun x m1 => key x m1)
  rw [e0, wM_bnd, wM_lft']
  constructor
  · rintro ⟨a, h, q⟩
    refine ⟨?_, tail.mp q⟩
    split at h
    · rename_i l hl; exact ⟨l, hl⟩
    · cases h
  · rintro ⟨⟨l, hl⟩, q⟩
    exact ⟨(), by rw [hl], tail.mpr q⟩
@[simp] theorem wM_jst {es : Ex} : wM (ev T C (.jst es)) m Q ↔ wM (jstL (evl T C es) Str.empty) m Q := by rw [ev]
@[simp] theorem wM_jstL_nil {acc : PySem.Str} : wM (jstL [] acc) m Q ↔ Q (.ok (.dat (.str acc))) m := wM_ret
def jstQ (r : List (M RV)) (acc : PySem.Str) (Q : Except Exn RV → Frm → Prop) : RV → Frm → Prop := fun v m1 => match v with
    | .dat (.str y) => if (acc ++ y).length ≤ sizeLine then wM (jstL r (acc ++ y)) m1 Q else False
    | _ => False
@[simp] theorem wM_jstL_cons {x : M RV} {r : List (M RV)} {acc : PySem.Str} : wM (jstL (x :: r) acc) m Q ↔ wM x m (okQ Q (jstQ r acc Q)) := by
  rw [jstL, wM_bnd]
  refine wM_congr (okQ_congr fun v m1 => ?_)
  cases v with
  | dat d =>
    cases d with
    | str y =>
      dsimp only [jstQ]
      by_cases h : (acc ++ y).length ≤ sizeLine
      · rw [if_pos h, if_pos h]
      · rw [if_neg h, if_neg h]
        exact wM_no
    | _ => exact wM_no
  | own d => exact wM_no
  | bor i => exact wM_no
@[simp] theorem evl_nil : evl T C .nil = [] := rfl
@[simp] theorem evl_cons {e r : Ex} : evl T C (.cons e r) = ev T C e :: evl T C r := rfl
def fmtQ (Q : Except Exn RV → Frm → Prop) : Dat → Frm → Prop := fun d m2 => match strV d with
    | some s => s.length ≤ sizeLine ∧ Q (.ok (.dat (.str s))) m2
    | none => False
@[simp] theorem wM_fmt {e : Ex} : wM (ev T C (.fmt e)) m Q ↔ wM (ev T C e) m (okQ Q fun x m1 => wM (look (prj x)) m1 (okQ Q (fmtQ Q))) := by
  rw [ev, wM_bnd]
  refine wM_congr (okQ_congr fun x m1 => ?_)
  rw [wM_bnd]
  refine wM_congr (okQ_congr fun d m2 => ?_)
  unfold fmtQ
  cases strV d with
  | none => exact wM_none
  | some s =>
    dsimp only
    by_cases h : s.length ≤ sizeLine
    · rw [if_pos h]
      exact wM_some.trans ⟨fun q => ⟨h, q⟩, fun q => q.2⟩
    · rw [if_neg h]
      exact wM_none.trans ⟨False.elim, fun q => h q.1⟩
end
section
variable {Q : Except Exn (List RV) → Frm → Prop}
@[simp] theorem wM_evs_nil : wM (evs T C .nil) m Q ↔ Q (.ok []) m := by rw [evs]; simp
@[simp] theorem wM_evs_cons {e r : Ex} : wM (evs T C (.cons e r)) m Q ↔ wM (ev T C e) m (okQ Q fun x m1 => wM (evs T C r) m1 (okQ Q fun xs m2 => Q (.ok (prj x :: xs)) m2)) := by rw [evs]; simp
def starQ (T : Tab) (C : Calls) (r : Ex) (Q : Except Exn (List RV) → Frm → Prop) : Dat → Frm → Prop := fun d m2 => match d with
    | .lst l => wM (evs T C r) m2 (okQ Q fun xs m3 => Q (.ok (l.map RV.dat ++ xs)) m3)
    | .tup l => wM (evs T C r) m2 (okQ Q fun xs m3 => Q (.ok (l.map RV.dat ++ xs)) m3)
    | _ => False
@[simp] theorem wM_evs_star {e r : Ex} : wM (evs T C (.star e r)) m Q ↔ wM (ev T C e) m (okQ Q fun x m1 => wM (look (prj x)) m1 (okQ Q (starQ T C r Q))) := by
  rw [evs, wM_bnd]
  refine wM_congr (okQ_congr fun x m1 => ?_)
  rw [wM_bnd]
  refine wM_congr (okQ_congr fun d m2 => ?_)
  unfold starQ
  split <;> simp
end
end
end SB.P
/-! PuWp3: statements, loops, comprehensions, defs. -/
namespace SB.P
open PySem L2
def outQ {α : Type} (Q : Out → Frm → Prop) (k : α → Frm → Prop) : Except Exn α → Frm → Prop := fun r m => match r with
  | .ok a => k a m
  | .error e => Q (.exc e) m
def seqQ (Q : Out → Frm → Prop) (k : Frm → Prop) : Out → Frm → Prop := fun o m => match o with
  | .nxt => k m
  | o => Q o m
section
variable {α : Type} {Q : Out → Frm → Prop} {m : Frm}
@[simp] theorem outQ_ok {k : α → Frm → Prop} {a : α} : outQ Q k (.ok a) m ↔ k a m := Iff.rfl
@[simp] theorem outQ_er {k : α → Frm → Prop} {e : Exn} : outQ Q k (.error e : Except Exn α) m ↔ Q (.exc e) m := Iff.rfl
@[simp] theorem okQ_outQ {β : Type} {k : α → Frm → Prop} {l : β → Frm → Prop} : okQ (outQ Q k) l = outQ Q l := by
  funext r m
  cases r <;> rfl
@[simp] theorem seqQ_nxt {k : Frm → Prop} : seqQ Q k .nxt m ↔ k m := Iff.rfl
@[simp] theorem seqQ_brk {k : Frm → Prop} : seqQ Q k .brk m ↔ Q .brk m := Iff.rfl
@[simp] theorem seqQ_cnt {k : Frm → Prop} : seqQ Q k .cnt m ↔ Q .cnt m := Iff.rfl
@[simp] theorem seqQ_ret {k : Frm → Prop} {r : RV} : seqQ Q k (.ret r) m ↔ Q (.ret r) m := Iff.rfl
@[simp] theorem seqQ_exc {k : Frm → Prop} {e : Exn} : seqQ Q k (.exc e) m ↔ Q (.exc e) m := Iff.rfl
theorem ex_runS {x : Out} {y : Frm} : (∃ r m', some (x, y) = some (r, m') ∧ Q r m') ↔ Q x y := ⟨fun ⟨_, _, h, q⟩ => by cases h; exact q, fun q => ⟨_, _, rfl, q⟩⟩
theorem ex_noS : (∃ r m', none = some (r, m') ∧ Q r m') ↔ False := ⟨fun ⟨_, _, h, _⟩ => (nomatch h), False.elim⟩
@[simp] theorem wS_now {o : Out} : wS (fun m => some (o, m)) m Q ↔ Q o m := ex_runS
@[simp] theorem wS_no : wS (fun _ => none) m Q ↔ False := ex_noS
@[simp] theorem wS_outOf {x : M α} {f : α → Frm → Option (Out × Frm)} : wS (outOf x f) m Q ↔ wM x m (outQ Q fun a m1 => wS (f a) m1 Q) := by
  constructor
  · rintro ⟨o, m', h, q⟩
    unfold outOf at h
    split at h
    · cases h
    · rename_i e m1 h1
      cases h
      exact ⟨_, _, h1, q⟩
    · rename_i a m1 h1
      exact ⟨_, _, h1, _, _, h, q⟩
  · rintro ⟨r, m', h, q⟩
    cases r with
    | error e => exact ⟨_, _, by unfold outOf; rw [h], q⟩
    | ok a =>
      obtain ⟨r2, m2, h2, q2⟩ := q
      exact ⟨r2, m2, by unfold outOf; rw [h]; exact h2, q2⟩
@[simp] theorem wS_ite {c : Prop} [Decidable c] {f g : Frm → Option (Out × Frm)} : wS (if c then f else g) m Q ↔ if c then wS f m Q else wS g m Q := by split <;> rfl
theorem wS_mono {f : Frm → Option (Out × Frm)} {Q' : Out → Frm → Prop} (h : wS f m Q') (k : ∀ r m', Q' r m' → Q r m') : wS f m Q := let ⟨r, m', e, q⟩ := h; ⟨r, m', e, k r m' q⟩
end
section
variable {T : Tab} {C : Calls} {fuel : Nat} {m : Frm} {Q : Out → Frm → Prop}
@[simp] theorem wS_nil : wS (es T C fuel .nil) m Q ↔ Q .nxt m := by rw [es]; simp
@[simp] theorem wS_pas : wS (es T C fuel .pas) m Q ↔ Q .nxt m := by rw [es]; simp
@[simp] theorem wS_brk : wS (es T C fuel .brk) m Q ↔ Q .brk m := by rw [es]; simp
@[simp] theorem wS_cnt : wS (es T C fuel .cnt) m Q ↔ Q .cnt m := by rw [es]; simp
@[simp] theorem wS_retn : wS (es T C fuel .retn) m Q ↔ Q (.ret (.dat .non)) m := by rw [es]; simp
@[simp] theorem wS_seq {s r : Stm} : wS (es T C fuel (.seq s r)) m Q ↔ wS (es T C fuel s) m (seqQ Q fun m1 => wS (es T C fuel r) m1 Q) := by
  rw [es]
  constructor
  · rintro ⟨o, m', h, q⟩
    unfold seqO at h
    split at h
    · rename_i m1 h1
      exact ⟨_, _, h1, _, _, h, q⟩
    · rename_i h1
      refine ⟨_, _, h, ?_⟩
      cases o with
      | nxt => exact absurd h (h1 _)
      | _ => exact q
  · rintro ⟨o, m', h, q⟩
    cases o with
    | nxt =>
      obtain ⟨o2, m2, h2, q2⟩ := q
      exact ⟨o2, m2, by unfold seqO; rw [h]; exact h2, q2⟩
    | _ => exact ⟨_, _, by unfold seqO; rw [h], q⟩
@[simp] theorem wS_asg {t : Tg} {e : Ex} : wS (es T C fuel (.asg t e)) m Q ↔ wM (ev T C e) m (outQ Q fun r m1 => wM (asgT T C t r) m1 (outQ Q fun _ m2 => Q .nxt m2)) := by rw [es]; simp
@[simp] theorem wS_par {i j : Nat} {a b : Ex} : wS (es T C fuel (.par i j a b)) m Q ↔ wM (ev T C a) m (outQ Q fun x m1 => wM (ev T C b) m1 (outQ Q fun y m2 => wM (hold x) m2 (outQ Q fun x m3 => wM (hold y) m3 (outQ Q fun y m4 => wM (setR i x) m4 (outQ Q fun _ m5 => wM (setR j y) m5 (outQ Q fun _ m6 => Q .nxt m6)))))) := by rw [es]; simp
@[simp] theorem wS_hdr {i j : Nat} {e : Ex} : wS (es T C fuel (.hdr i j e)) m Q ↔ wM (ev T C e) m (outQ Q fun r m1 => wM (look (prj r)) m1 (outQ Q fun d m2 => match d with
    | .lst (x :: l) => l.length < 16384 ∧ wM (setR i (.dat x)) m2 (outQ Q fun _ m3 => wM (setR j (.own (.lst l))) m3 (outQ Q fun _ m4 => Q .nxt m4))
    | _ => False)) := by
  have e0 : es T C fuel (.hdr i j e) = outOf (bnd (ev T C e) fun r => bnd (look (prj r)) fun d => match d with
    | .lst (x :: l) => if l.length < 16384 then bnd (setR i (.dat x)) fun _ => setR j (.own (.lst l)) else fun _ => none
    | _ => fun _ => none) fun _ m => some (.nxt, m) := by first | (rw [es]; done) | (rw [es]; rfl)
  rw [e0, wS_outOf, wM_bnd, okQ_outQ]
  refine wM_congr fun r m' => ?_
  cases r with
  | error x => exact Iff.rfl
  | ok r =>
    show wM (bnd (look (prj r)) _) m' _ ↔ wM (look (prj r)) m' _
    rw [wM_bnd, okQ_outQ]
    refine wM_congr fun r m' => ?_
    cases r with
    | error x => exact Iff.rfl
    | ok d =>
      cases d with
      | lst l =>
        cases l with
        | nil => exact wM_no (m := m')
        | cons x l =>
          show wM (if l.length < 16384 then _ else _) m' _ ↔ (l.length < 16384 ∧ _)
          by_cases h : l.length < 16384
          · rw [if_pos h]
            simp [h]
          · rw [if_neg h]
            simp [h]
      | _ => exact wM_no (m := m')
@[simp] theorem wS_exp {e : Ex} : wS (es T C fuel (.exp e)) m Q ↔ wM (ev T C e) m (outQ Q fun _ m1 => Q .nxt m1) := by rw [es]; simp
@[simp] theorem wS_ret {e : Ex} : wS (es T C fuel (.ret e)) m Q ↔ wM (ev T C e) m (outQ Q fun r m1 => wS (handO r) m1 Q) := by rw [es]; simp
@[simp] theorem wS_hand_dat {d : Dat} : wS (handO (.dat d)) m Q ↔ Q (.ret (.dat d)) m := ex_runS
@[simp] theorem wS_hand_own {d : Dat} : wS (handO (.own d)) m Q ↔ Q (.ret (.own d)) m := ex_runS
@[simp] theorem wS_hand_bor {i : Nat} : wS (handO (.bor i)) m Q ↔ match m[i]? with
    | some (some (.own d)) => Q (.ret (.own d)) (m.set i none)
    | some (some (.dat d)) => Q (.ret (.dat d)) m
    | _ => False := by
  unfold wS handO
  dsimp only
  cases m[i]? with
  | none => exact ex_noS
  | some o =>
    cases o with
    | none => exact ex_noS
    | some s => cases s <;> exact ex_runS
@[simp] theorem wM_asB {x : M RV} {Q : Except Exn Bool → Frm → Prop} : wM (asB x) m Q ↔ wM x m (okQ Q fun r m1 => wM (lft (asBl r)) m1 Q) := by unfold asB; simp
@[simp] theorem wS_ife {c : Ex} {a b : Stm} : wS (es T C fuel (.ife c a b)) m Q ↔ wM (ev T C c) m (outQ Q fun r m1 => wM (lft (asBl r)) m1 (outQ Q fun k m2 => if k = true then wS (es T C fuel a) m2 Q else wS (es T C fuel b) m2 Q)) := by rw [es]; simp
def tryqF (x : Frm → Option (Out × Frm)) : Frm → Option (Out × Frm) := fun m => match x m with
    | some (.exc _, _) => none
    | q => q
def notExc (Q : Out → Frm → Prop) : Out → Frm → Prop := fun o m => match o with
    | .exc _ => False
    | o => Q o m
@[simp] theorem notExc_nxt : notExc Q .nxt m ↔ Q .nxt m := Iff.rfl
@[simp] theorem notExc_brk : notExc Q .brk m ↔ Q .brk m := Iff.rfl
@[simp] theorem notExc_cnt : notExc Q .cnt m ↔ Q .cnt m := Iff.rfl
@[simp] theorem notExc_ret {r : RV} : notExc Q (.ret r) m ↔ Q (.ret r) m := Iff.rfl
@[simp] theorem wS_tryq {b : Stm} : wS (es T C fuel (.tryq b)) m Q ↔ wS (es T C fuel b) m (notExc Q) := by
  have e0 : es T C fuel (.tryq b) = tryqF (es T C fuel b) := by first | (rw [es]; done) | (rw [es]; rfl)
  rw [e0]
  unfold wS tryqF
  cases es T C fuel b m with
  | none => exact ex_noS.trans ex_noS.symm
  | some q =>
    obtain ⟨o, m1⟩ := q
    cases o with
    | exc x => exact ex_noS.trans ⟨False.elim, fun ⟨_, _, h, q⟩ => by cases h; exact q⟩
    | _ => exact ex_runS.trans ⟨fun q => ⟨_, _, rfl, q⟩, fun ⟨_, _, h, q⟩ => by cases h; exact q⟩
theorem wS_loop {p : Pat} {k : Ik} {it it2 : Ex} {b : Stm} : wS (es T C fuel (.loop p k it it2 b)) m Q ↔ wM (itM k (ev T C it) (ev T C it2)) m (outQ Q fun ds m1 => wS (forL p (es T C fuel b) ds) m1 Q) := by rw [es]; simp
/-- behind a loop's turn -/
def turnQ (Q : Out → Frm → Prop) (nx : Frm → Prop) : Out → Frm → Prop := fun o m => match o with
  | .nxt => nx m
  | .cnt => nx m
  | .brk => Q .nxt m
  | o => Q o m
@[simp] theorem turnQ_nxt {k : Frm → Prop} : turnQ Q k .nxt m ↔ k m := Iff.rfl
@[simp] theorem turnQ_cnt {k : Frm → Prop} : turnQ Q k .cnt m ↔ k m := Iff.rfl
@[simp] theorem turnQ_brk {k : Frm → Prop} : turnQ Q k .brk m ↔ Q .nxt m := Iff.rfl
@[simp] theorem turnQ_ret {k : Frm → Prop} {r : RV} : turnQ Q k (.ret r) m ↔ Q (.ret r) m := Iff.rfl
@[simp] theorem turnQ_exc {k : Frm → Prop} {r : Exn} : turnQ Q k (.exc r) m ↔ Q (.exc r) m := Iff.rfl
theorem wS_forL {p : Pat} {b : Frm → Option (Out × Frm)} (I : List Dat → Frm → Prop) (h1 : ∀ d r m, I (d :: r) m → ∃ m1, bindP p d m = some m1 ∧ wS b m1 (turnQ Q fun m2 => I r m2)) (h0 : ∀ m, I [] m → Q .nxt m) : ∀ (ds : List Dat) (m : Frm), I ds m → wS (forL p b ds) m Q
  | [], m, h => ⟨.nxt, m, rfl, h0 m h⟩
  | d :: r, m, h => by
    obtain ⟨m1, e1, o, m2, e2, q⟩ := h1 d r m h
    have run : ∀ m2, I r m2 → (∃ o' m', forL p b r m2 = some (o', m') ∧ Q o' m') := fun m2 h2 => wS_forL I h1 h0 r m2 h2
    unfold wS
    cases o with
    | nxt =>
      obtain ⟨o', m', e3, q3⟩ := run m2 q
      exact ⟨o', m', by rw [forL, e1]; dsimp only; rw [e2]; exact e3, q3⟩
    | cnt =>
      obtain ⟨o', m', e3, q3⟩ := run m2 q
      exact ⟨o', m', by rw [forL, e1]; dsimp only; rw [e2]; exact e3, q3⟩
    | brk => exact ⟨_, _, by rw [forL, e1]; dsimp only; rw [e2], q⟩
    | ret r => exact ⟨_, _, by rw [forL, e1]; dsimp only; rw [e2], q⟩
    | exc x => exact ⟨_, _, by rw [forL, e1]; dsimp only; rw [e2], q⟩
/-- .. turn by turn -/
theorem wS_forL_nil {p : Pat} {b : Frm → Option (Out × Frm)} : wS (forL p b []) m Q ↔ Q .nxt m := ex_runS
theorem wS_forL_cons {p : Pat} {b : Frm → Option (Out × Frm)} {d : Dat} {r : List Dat} (h : ∃ m1, bindP p d m = some m1 ∧ wS b m1 (turnQ Q fun m2 => wS (forL p b r) m2 Q)) : wS (forL p b (d :: r)) m Q := by
  obtain ⟨m1, e1, o, m2, e2, q⟩ := h
  cases o with
  | nxt =>
    obtain ⟨o', m', e3, q3⟩ := q
    exact ⟨o', m', by rw [forL, e1]; dsimp only; rw [e2]; exact e3, q3⟩
  | cnt =>
    obtain ⟨o', m', e3, q3⟩ := q
    exact ⟨o', m', by rw [forL, e1]; dsimp only; rw [e2]; exact e3, q3⟩
  | brk => exact ⟨_, _, by rw [forL, e1]; dsimp only; rw [e2], q⟩
  | ret r => exact ⟨_, _, by rw [forL, e1]; dsimp only; rw [e2], q⟩
  | exc x => exact ⟨_, _, by rw [forL, e1]; dsimp only; rw [e2], q⟩
theorem wS_whl {c : Ex} {b : Stm} (I : Nat → Frm → Prop) (h : ∀ n m, I n m → wM (ev T C c) m (outQ Q fun r m1 => wM (lft (asBl r)) m1 (outQ Q fun k m2 => if k = true then ∃ n', n = n' + 1 ∧ wS (es T C fuel b) m2 (turnQ Q fun m3 => I n' m3) else Q .nxt m2))) {n : Nat} (hn : n < fuel) (h0 : I n m) : wS (es T C fuel (.whl c b)) m Q := by
  rw [es]
  have run : ∀ (f n : Nat) (m : Frm), n < f → I n m → wS (whlL (asB (ev T C c)) (es T C fuel b) f) m Q := by
    intro f
    induction f with
    | zero => intro n m hn; omega
    | succ f ih =>
      intro n m hn hi
      have hh : wM (asB (ev T C c)) m (outQ Q fun k m2 => if k = true then ∃ n', n = n' + 1 ∧ wS (es T C fuel b) m2 (turnQ Q fun m3 => I n' m3) else Q .nxt m2) := by
        have := h n m hi
        simpa using this
      obtain ⟨r, m1, e1, q⟩ := hh
      cases r with
      | error x => exact ⟨.exc x, m1, by rw [whlL, e1], q⟩
      | ok k =>
        cases k with
        | false =>
          have q' : Q .nxt m1 := by simpa using q
          exact ⟨.nxt, m1, by rw [whlL, e1], q'⟩
        | true =>
          have q' : ∃ n', n = n' + 1 ∧ wS (es T C fuel b) m1 (turnQ Q fun m3 => I n' m3) := by simpa using q
          obtain ⟨n', en, o, m2, e2, q2⟩ := q'
          cases o with
          | nxt =>
            obtain ⟨o', m', e3, q3⟩ := ih n' m2 (by omega) q2
            exact ⟨o', m', by rw [whlL, e1]; dsimp only; rw [e2]; exact e3, q3⟩
          | cnt =>
            obtain ⟨o', m', e3, q3⟩ := ih n' m2 (by omega) q2
            exact ⟨o', m', by rw [whlL, e1]; dsimp only; rw [e2]; exact e3, q3⟩
          | brk => exact ⟨_, _, by rw [whlL, e1]; dsimp only; rw [e2], q2⟩
          | ret r => exact ⟨_, _, by rw [whlL, e1]; dsimp only; rw [e2], q2⟩
          | exc x => exact ⟨_, _, by rw [whlL, e1]; dsimp only; rw [e2], q2⟩
  exact run fuel n m hn h0
/-! ### targets -/
section
variable {Q : Except Exn Unit → Frm → Prop} {R : Except Exn RV → Frm → Prop}
@[simp] theorem wM_hold_dat {d : Dat} : wM (hold (.dat d)) m R ↔ R (.ok (.dat d)) m := wM_ret
@[simp] theorem wM_hold_own {d : Dat} : wM (hold (.own d)) m R ↔ R (.ok (.own d)) m := wM_ret
@[simp] theorem wM_hold_bor {i : Nat} : wM (hold (.bor i)) m R ↔ wM (frz (.bor i)) m (okQ R fun d m1 => R (.ok (.dat d)) m1) := by unfold hold; simp
@[simp] theorem wM_setR_dat {i : Nat} {d : Dat} : wM (setR i (.dat d)) m Q ↔ i < m.length ∧ Q (.ok ()) (m.set i (some (.dat d))) := by
  unfold wM setR
  by_cases h : i < m.length
  · simp only [h, if_true, true_and]
    exact ex_run
  · simp only [h, if_false, false_and]
    exact ex_no
@[simp] theorem wM_setR_own {i : Nat} {d : Dat} : wM (setR i (.own d)) m Q ↔ i < m.length ∧ Q (.ok ()) (m.set i (some (.own d))) := by
  unfold wM setR
  by_cases h : i < m.length
  · simp only [h, if_true, true_and]
    exact ex_run
  · simp only [h, if_false, false_and]
    exact ex_no
@[simp] theorem wM_setR_bor {i j : Nat} : wM (setR i (.bor j)) m Q ↔ i < m.length ∧ match m[j]? with
    | some (some (.own d)) => Q (.ok ()) ((m.set j (some (.dat d))).set i (some (.dat d)))
    | some (some (.dat d)) => Q (.ok ()) (m.set i (some (.dat d)))
    | _ => False := by
  unfold wM setR
  by_cases h : i < m.length
  · simp only [h, if_true, true_and]
    unfold frz
    dsimp only
    cases m[j]? with
    | none => exact ex_no
    | some o =>
      cases o with
      | none => exact ex_no
      | some s => cases s <;> exact ex_run
  · simp only [h, if_false, false_and]
    exact ex_no
@[simp] theorem wM_asg_nam {i : Nat} {r : RV} : wM (asgT T C (.pat (.nam i)) r) m Q ↔ wM (setR i r) m Q := by rw [asgT]
def tupQ (T : Tab) (C : Calls) (t : Tg) (Q : Except Exn Unit → Frm → Prop) : Dat → Frm → Prop := fun d m1 => match d with
    | .tup l => if l.length = tgLen t then wM (asgTs T C t l) m1 Q else False
    | _ => False
@[simp] theorem wM_asg_tup {t : Tg} {r : RV} : wM (asgT T C (.tup t) r) m Q ↔ wM (frz (prj r)) m (okQ Q (tupQ T C t Q)) := by
  rw [asgT, wM_bnd]
  refine wM_congr (okQ_congr fun d m1 => ?_)
  cases d with
  | tup l =>
    dsimp only [tupQ]
    by_cases h : l.length = tgLen t
    · rw [if_pos h, if_pos h]
    · rw [if_neg h, if_neg h]
      exact wM_no
  | _ => exact wM_no
@[simp] theorem wM_asgs_nil : wM (asgTs T C .nil []) m Q ↔ Q (.ok ()) m := by rw [asgTs]; simp
@[simp] theorem wM_asgs_cons {t r : Tg} {d : Dat} {ds : List Dat} : wM (asgTs T C (.cons t r) (d :: ds)) m Q ↔ wM (asgT T C t (.dat d)) m (okQ Q fun _ m1 => wM (asgTs T C r ds) m1 Q) := by rw [asgTs]; simp
def subM (i : Nat) (v k : Dat) : M Unit := fun m => match m[i]? with
    | some (some (.own (.lst l))) => match k with
      | .int z => match L2.ixN l.length z with
        | some j => some (.ok (), m.set i (some (.own (.lst (l.set j v)))))
        | none => none
      | _ => none
    | some (some (.own (.dic l))) => match keyOf k with
      | some key => if l.length < 1000 then some (.ok (), m.set i (some (.own (.dic (putK key v l))))) else none
      | none => none
    | _ => none
@[simp] theorem wM_asg_sub {i : Nat} {e : Ex} {r : RV} : wM (asgT T C (.sub i e) r) m Q ↔ wM (frz (prj r)) m (okQ Q fun v m1 => isOwn m1[i]? = true ∧ wM (ev T C e) m1 (okQ Q fun y m2 => wM (frz (prj y)) m2 (okQ Q fun k m3 => wM (subM i v k) m3 Q))) := by
  have e0 : asgT T C (.sub i e) r = bnd (frz (prj r)) fun v => bnd (lft' fun m => if isOwn m[i]? then some () else none) fun _ => bnd (ev T C e) fun y => bnd (frz (prj y)) fun k => subM i v k := by rw [asgT]; rfl
  rw [e0, wM_bnd]
  refine wM_congr (okQ_congr fun v m1 => ?_)
  rw [wM_bnd, wM_lft']
  have tail : wM (bnd (ev T C e) fun y => bnd (frz (prj y)) fun k => subM i v k) m1 Q ↔ wM (ev T C e) m1 (okQ Q fun y m2 => wM (frz (prj y)) m2 (okQ Q fun k m3 => wM (subM i v k) m3 Q)) := by simp
  constructor
  · rintro ⟨a, h, q⟩
    split at h
    · rename_i ho
      exact ⟨ho, tail.mp q⟩
    · cases h
  · rintro ⟨ho, q⟩
    exact ⟨(), by rw [if_pos ho], tail.mpr q⟩
theorem wM_subM_lst {i : Nat} {v : Dat} {z : Int} {l : List Dat} (h : m[i]? = some (some (.own (.lst l)))) : wM (subM i v (.int z)) m Q ↔ ∃ j, L2.ixN l.length z = some j ∧ Q (.ok ()) (m.set i (some (.own (.lst (l.set j v))))) := by
  unfold wM subM
  rw [h]
  dsimp only
  cases L2.ixN l.length z with
  | none => simp
  | some j => exact ex_run.trans ⟨fun q => ⟨j, rfl, q⟩, fun ⟨_, h, q⟩ => by cases h; exact q⟩
theorem wM_subM_dic {i : Nat} {v k : Dat} {l : List (L2.Key × Dat)} (h : m[i]? = some (some (.own (.dic l)))) : wM (subM i v k) m Q ↔ ∃ key, keyOf k = some key ∧ l.length < 1000 ∧ Q (.ok ()) (m.set i (some (.own (.dic (putK key v l))))) := by
  unfold wM subM
  rw [h]
  dsimp only
  cases keyOf k with
  | none => simp
  | some key =>
    dsimp only
    by_cases hl : l.length < 1000
    · rw [if_pos hl]
      exact ex_run.trans ⟨fun q => ⟨key, rfl, hl, q⟩, fun ⟨_, h, _, q⟩ => by cases h; exact q⟩
    · rw [if_neg hl]
      exact ex_no.trans ⟨False.elim, fun ⟨_, _, h, _⟩ => hl h⟩
def attM (T : Tab) (i : Nat) (f : PySem.Str) (v : Dat) : M Unit := fun m => match m[i]? with
    | some (some (.own (.obj c fs))) => match T.cls[c]? with
      | some cd => if !cd.exc && cd.flds.contains f && decide (fs.length < 900) then some (.ok (), m.set i (some (.own (.obj c (putD f v fs))))) else none
      | none => none
    | _ => none
@[simp] theorem wM_asg_att {i : Nat} {f : PySem.Str} {r : RV} : wM (asgT T C (.att i f) r) m Q ↔ wM (frz (prj r)) m (okQ Q fun v m1 => wM (attM T i f v) m1 Q) := by
  have e0 : asgT T C (.att i f) r = bnd (frz (prj r)) fun v => attM T i f v := by rw [asgT]; rfl
  rw [e0, wM_bnd]
theorem wM_attM {i c : Nat} {f : PySem.Str} {v : Dat} {fs : List (PySem.Str × Dat)} {cd : Cd} (h : m[i]? = some (some (.own (.obj c fs)))) (hc : T.cls[c]? = some cd) (hx : (!cd.exc && cd.flds.contains f) = true) (hl : fs.length < 900) (q : Q (.ok ()) (m.set i (some (.own (.obj c (putD f v fs)))))) : wM (attM T i f v) m Q := by
  unfold wM attM
  rw [h]
  dsimp only
  rw [hc]
  dsimp only
  rw [if_pos (by rw [hx]; simp [hl])]
  exact ex_run.mpr q
end
/-! ### what is walked -/
section
variable {Q : Except Exn (List Dat) → Frm → Prop} {a b : M RV}
@[simp] theorem wM_it_pl : wM (itM .pl a b) m Q ↔ wM a m (okQ Q fun x m1 => wM (frz (prj x)) m1 (okQ Q fun d m2 => wM (lft (itemsV d)) m2 Q)) := by unfold itM; simp
def enQ (Q : Except Exn (List Dat) → Frm → Prop) : Dat → Frm → Prop := fun d m2 => match d with
    | .lst l => Q (.ok (enumV 0 l)) m2
    | .tup l => Q (.ok (enumV 0 l)) m2
    | _ => False
def ziQ (Q : Except Exn (List Dat) → Frm → Prop) : Dat → Dat → Frm → Prop := fun dx dy m4 => match dx, dy with
    | .tup l, .tup k => Q (.ok (zipV l k)) m4
    | .lst l, .lst k => Q (.ok (zipV l k)) m4
    | _, _ => False
def r1Q (Q : Except Exn (List Dat) → Frm → Prop) : RV → Frm → Prop := fun x m1 => match x with
    | .dat (.int n) => (-(2 ^ 62) ≤ n ∧ n < 2 ^ 62) ∧ Q (.ok (rngV 0 n.toNat)) m1
    | _ => False
def r2Q (Q : Except Exn (List Dat) → Frm → Prop) : RV → RV → Frm → Prop := fun x y m2 => match x, y with
    | .dat (.int i), .dat (.int j) => (-(2 ^ 62) ≤ i ∧ i < 2 ^ 62 ∧ -(2 ^ 62) ≤ j ∧ j < 2 ^ 62) ∧ Q (.ok (rngV i (j - i).toNat)) m2
    | _, _ => False
@[simp] theorem wM_it_en : wM (itM .en a b) m Q ↔ wM a m (okQ Q fun x m1 => wM (frz (prj x)) m1 (okQ Q (enQ Q))) := by
  unfold itM
  dsimp only
  rw [wM_bnd]
  refine wM_congr (okQ_congr fun x m1 => ?_)
  rw [wM_bnd]
  refine wM_congr (okQ_congr fun d m2 => ?_)
  cases d <;> simp [enQ]
@[simp] theorem wM_it_zi : wM (itM .zi a b) m Q ↔ wM a m (okQ Q fun x m1 => wM b m1 (okQ Q fun y m2 => wM (frz (prj x)) m2 (okQ Q fun dx m3 => wM (frz (prj y)) m3 (okQ Q (ziQ Q dx))))) := by
  unfold itM
  dsimp only
  rw [wM_bnd]
  refine wM_congr (okQ_congr fun x m1 => ?_)
  rw [wM_bnd]
  refine wM_congr (okQ_congr fun y m1 => ?_)
  rw [wM_bnd]
  refine wM_congr (okQ_congr fun d m2 => ?_)
  rw [wM_bnd]
  refine wM_congr (okQ_congr fun d2 m2 => ?_)
  cases d <;> cases d2 <;> simp [ziQ]
@[simp] theorem wM_it_r1 : wM (itM .r1 a b) m Q ↔ wM a m (okQ Q (r1Q Q)) := by
  unfold itM
  dsimp only
  rw [wM_bnd]
  refine wM_congr (okQ_congr fun x m1 => ?_)
  cases x with
  | dat d =>
    cases d with
    | int n =>
      dsimp only [r1Q]
      by_cases h : -(2 ^ 62) ≤ n ∧ n < 2 ^ 62
      · rw [if_pos h]; exact wM_ret.trans ⟨fun q => ⟨h, q⟩, fun q => q.2⟩
      · rw [if_neg h]; exact wM_no.trans ⟨False.elim, fun q => h q.1⟩
    | _ => exact wM_no
  | _ => exact wM_no
@[simp] theorem wM_it_r2 : wM (itM .r2 a b) m Q ↔ wM a m (okQ Q fun x m1 => wM b m1 (okQ Q (r2Q Q x))) := by
  unfold itM
  dsimp only
  rw [wM_bnd]
  refine wM_congr (okQ_congr fun x m1 => ?_)
  rw [wM_bnd]
  refine wM_congr (okQ_congr fun y m2 => ?_)
  cases x with
  | dat d =>
    cases d with
    | int i =>
      cases y with
      | dat d =>
        cases d with
        | int j =>
          dsimp only [r2Q]
          by_cases h : -(2 ^ 62) ≤ i ∧ i < 2 ^ 62 ∧ -(2 ^ 62) ≤ j ∧ j < 2 ^ 62
          · rw [if_pos h]; exact wM_ret.trans ⟨fun q => ⟨h, q⟩, fun q => q.2⟩
          · rw [if_neg h]; exact wM_no.trans ⟨False.elim, fun q => h q.1⟩
        | _ => exact wM_no
      | _ => exact wM_no
    | _ => cases y <;> exact wM_no
  | _ => exact wM_no
end
/-! ### comprehensions -/
def frzQ (put : Dat → Frm → Prop) : Except Exn Dat → Frm → Prop := fun r m => match r with
  | .ok x => put x m
  | .error _ => False
def putQ (put : Dat → Frm → Prop) : Except Exn RV → Frm → Prop := fun r m => match r with
  | .ok r => wM (frz (prj r)) m (frzQ put)
  | .error _ => False
def cndQ (skip go : Frm → Prop) : Except Exn RV → Frm → Prop := fun r m => match r with
  | .ok (.dat (.bl true)) => go m
  | .ok (.dat (.bl false)) => skip m
  | _ => False
@[simp] theorem frzQ_ok {put : Dat → Frm → Prop} {x : Dat} : frzQ put (.ok x) m ↔ put x m := Iff.rfl
@[simp] theorem putQ_dat {put : Dat → Frm → Prop} {x : Dat} : putQ put (.ok (.dat x)) m ↔ put x m := by show wM (frz (prj (.dat x))) m (frzQ put) ↔ _; simp
@[simp] theorem putQ_own {put : Dat → Frm → Prop} {x : Dat} : putQ put (.ok (.own x)) m ↔ put x m := by show wM (frz (prj (.own x))) m (frzQ put) ↔ _; simp
@[simp] theorem putQ_bor {put : Dat → Frm → Prop} {i : Nat} : putQ put (.ok (.bor i)) m ↔ wM (frz (.bor i)) m (frzQ put) := Iff.rfl
@[simp] theorem cndQ_bl {skip go : Frm → Prop} {b : Bool} : cndQ skip go (.ok (.dat (.bl b))) m ↔ if b = true then go m else skip m := by cases b <;> simp [cndQ]
theorem putQ_mono {put put' : Dat → Frm → Prop} (h : ∀ x m, put x m → put' x m) : ∀ r m, putQ put r m → putQ put' r m
  | .error _, m, q => q
  | .ok r, m, q => wM_mono (show wM (frz (prj r)) m (frzQ put) from q) fun r m q => by
    cases r with
    | error x => exact q
    | ok x => exact h x m q
theorem cndQ_mono {skip go skip' go' : Frm → Prop} (h1 : ∀ m, skip m → skip' m) (h2 : ∀ m, go m → go' m) (r : Except Exn RV) (m : Frm) (q : cndQ skip go r m) : cndQ skip' go' r m := by
  unfold cndQ at q ⊢
  split at q
  · exact h2 m q
  · exact h1 m q
  · exact q.elim
/-- one turn's reading -/
def turnW (T : Tab) (C : Calls) (p : Pat) (own : List Nat) (hc : Bool) (cond elt : Ex) (d : Dat) (m : Frm) (skip : Frm → Prop) (put : Dat → Frm → Prop) : Prop :=
  ∃ m2, bindP p d (wipeF m own) = some m2 ∧ if hc = true then wM (ev T C cond) m2 (cndQ skip fun m3 => wM (ev T C elt) m3 (putQ put)) else wM (ev T C elt) m2 (putQ put)
theorem turnW_mono {p : Pat} {own : List Nat} {hc : Bool} {cond elt : Ex} {d : Dat} {skip skip' : Frm → Prop} {put put' : Dat → Frm → Prop} (h : turnW T C p own hc cond elt d m skip put) (h1 : ∀ m, skip m → skip' m) (h2 : ∀ x m, put x m → put' x m) : turnW T C p own hc cond elt d m skip' put' := by
  obtain ⟨m2, e, q⟩ := h
  refine ⟨m2, e, ?_⟩
  split at q
  · rename_i hh
    rw [if_pos hh]
    exact wM_mono q (cndQ_mono h1 fun m q => wM_mono q (putQ_mono h2))
  · rename_i hh
    rw [if_neg hh]
    exact wM_mono q (putQ_mono h2)
theorem turn_step {p : Pat} {own : List Nat} {hc : Bool} {cond elt : Ex} {d : Dat} {ds acc : List Dat} {Q : Except Exn (List Dat) → Frm → Prop} (h : turnW T C p own hc cond elt d m (fun m3 => wM (compL (turnM p own hc (ev T C cond) (ev T C elt)) ds acc) m3 Q) fun x m5 => acc.length < sizeLine ∧ wM (compL (turnM p own hc (ev T C cond) (ev T C elt)) ds (acc ++ [x])) m5 Q) :
    wM (compL (turnM p own hc (ev T C cond) (ev T C elt)) (d :: ds) acc) m Q := by
  obtain ⟨m2, e1, q⟩ := h
  rw [compL, wM_bnd]
  have eltok : ∀ {m3 : Frm}, wM (ev T C elt) m3 (putQ fun x m5 => acc.length < sizeLine ∧ wM (compL (turnM p own hc (ev T C cond) (ev T C elt)) ds (acc ++ [x])) m5 Q) → ∃ r m4, ev T C elt m3 = some (.ok r, m4) ∧ wM (bnd (frz (prj r)) fun x => if acc.length < sizeLine then compL (turnM p own hc (ev T C cond) (ev T C elt)) ds (acc ++ [x]) else fun _ => none) m4 Q := by
    rintro m3 ⟨r, m4, e, q⟩
    cases r with
    | error x => exact q.elim
    | ok r =>
      refine ⟨r, m4, e, ?_⟩
      rw [wM_bnd]
      refine wM_mono (show wM (frz (prj r)) m4 _ from q) fun r m5 q => ?_
      cases r with
      | error x => exact q.elim
      | ok x =>
        show wM (if acc.length < sizeLine then _ else _) m5 Q
        rw [if_pos q.1]
        exact q.2
  cases hc with
  | false =>
    obtain ⟨r, m4, e, q⟩ := eltok (by simpa using q)
    refine ⟨.ok (some r), m4, ?_, q⟩
    unfold turnM
    rw [e1]
    have e2 : (if false = true then asB (ev T C cond) else ret true : M Bool) m2 = some (.ok true, m2) := rfl
    dsimp only
    rw [e2]
    dsimp only
    rw [e]
  | true =>
    simp only [if_true] at q
    obtain ⟨r, m3, e, q⟩ := q
    have ee : ∀ b, r = .ok (.dat (.bl b)) → asB (ev T C cond) m2 = some (.ok b, m3) := fun b hb => by
      subst hb
      unfold asB bnd
      rw [e]
      rfl
    unfold cndQ at q
    split at q
    · obtain ⟨r, m4, e4, q⟩ := eltok q
      refine ⟨.ok (some r), m4, ?_, q⟩
      unfold turnM
      rw [e1]
      have e2 : (if true = true then asB (ev T C cond) else ret true : M Bool) m2 = some (.ok true, m3) := ee true rfl
      dsimp only
      rw [e2]
      dsimp only
      rw [e4]
    · refine ⟨.ok none, m3, ?_, q⟩
      unfold turnM
      rw [e1]
      have e2 : (if true = true then asB (ev T C cond) else ret true : M Bool) m2 = some (.ok false, m3) := ee false rfl
      dsimp only
      rw [e2]
    · exact q.elim
/-- by what is left, and the list so far -/
theorem wM_compL {p : Pat} {own : List Nat} {hc : Bool} {cond elt : Ex} {Q : Except Exn (List Dat) → Frm → Prop} (I : List Dat → List Dat → Frm → Prop)
    (h1 : ∀ d ds acc m, I (d :: ds) acc m → turnW T C p own hc cond elt d m (fun m3 => I ds acc m3) fun x m5 => acc.length < sizeLine ∧ I ds (acc ++ [x]) m5) (h0 : ∀ acc m, I [] acc m → Q (.ok acc) m) :
    ∀ (ds acc : List Dat) (m : Frm), I ds acc m → wM (compL (turnM p own hc (ev T C cond) (ev T C elt)) ds acc) m Q
  | [], acc, m, h => by
    rw [compL]
    exact wM_ret.mpr (h0 acc m h)
  | d :: ds, acc, m, h => turn_step (turnW_mono (h1 d ds acc m h) (fun m hi => wM_compL I h1 h0 ds acc m hi) fun x m hi => ⟨hi.1, wM_compL I h1 h0 ds (acc ++ [x]) m hi.2⟩)
theorem wM_comp {elt : Ex} {p : Pat} {k : Ik} {it it2 : Ex} {hc : Bool} {cond : Ex} {own : List Nat} {Q : Except Exn RV → Frm → Prop} (h : wM (itM k (ev T C it) (ev T C it2)) m (okQ Q fun ds m1 =>
    ((own.all (fun i => !isOwn m1[i]? && decide (i < m1.length)) && (patIx p).all own.contains) = true) ∧ wM (compL (turnM p own hc (ev T C cond) (ev T C elt)) ds []) m1 fun r m5 => match r with
      | .ok l => Q (.ok (.own (.lst l))) (backF m1 m5 own)
      | .error _ => False)) : wM (ev T C (.comp elt p k it it2 hc cond own)) m Q := by
  have e0 : ev T C (.comp elt p k it it2 hc cond own) = bnd (itM k (ev T C it) (ev T C it2)) fun ds => fun m =>
      if own.all (fun i => !isOwn m[i]? && decide (i < m.length)) && (patIx p).all own.contains then
        match compL (turnM p own hc (ev T C cond) (ev T C elt)) ds [] m with
        | some (.ok l, m5) => some (.ok (.own (.lst l)), backF m m5 own)
        | _ => none
      else none := by first | (rw [ev]; done) | (rw [ev]; rfl)
  rw [e0, wM_bnd]
  refine wM_mono h fun r m1 q => ?_
  cases r with
  | error x => exact q
  | ok ds =>
    obtain ⟨h1, r, m5, e, q⟩ := q
    cases r with
    | error x => exact q.elim
    | ok l => exact ⟨_, _, by dsimp only; rw [if_pos h1, e], q⟩
end
/-! ### defs -/
def outR : Out → Option (Except Exn RV)
  | .nxt => some (.ok (.dat .non))
  | .ret r => some (.ok r)
  | .exc x => some (.error x)
  | _ => none
/-- .. the first argument's object behind it -/
def fstQ (mt : Bool) (R : Option Dat → Prop) (m : List (Option Slo)) : Prop := if mt = true then (match m[(0 : Nat)]? with
      | some (some (Slo.own d)) => R (some d)
      | _ => False)
    else R none
@[simp] theorem fstQ_false {R : Option Dat → Prop} {m : List (Option Slo)} : fstQ false R m ↔ R none := Iff.rfl
@[simp] theorem fstQ_true {R : Option Dat → Prop} {d : Dat} {m : List (Option Slo)} : fstQ true R (some (.own d) :: m) ↔ R (some d) := Iff.rfl
/-- what is to hold behind a body -/
def endQ (mt : Bool) (R : Except Exn RV → Option Dat → Prop) : Out → Frm → Prop := fun o m => match outR o with
  | some r => fstQ mt (R r) m
  | none => False
section
variable {T : Tab} {C : Calls} {fuel : Nat} {m : Frm} {R : Except Exn RV → Option Dat → Prop}
@[simp] theorem endQ_nxt {mt : Bool} : endQ mt R .nxt m ↔ fstQ mt (R (.ok (.dat .non))) m := Iff.rfl
@[simp] theorem endQ_ret {mt : Bool} {r : RV} : endQ mt R (.ret r) m ↔ fstQ mt (R (.ok r)) m := Iff.rfl
@[simp] theorem endQ_exc {mt : Bool} {r : Exn} : endQ mt R (.exc r) m ↔ fstQ mt (R (.error r)) m := Iff.rfl
theorem runF_of {fd : Fd} {avs : List Slo} (hl : avs.length = fd.np) (hn : fd.np ≤ fd.n) (h : wS (es T C fuel fd.body) (avs.map some ++ List.replicate (fd.n - fd.np) none) (endQ fd.mt R)) : ∃ r mo, runF T C fuel fd avs = some (r, mo) ∧ R r mo := by
  obtain ⟨o, m', e, q⟩ := h
  unfold runF
  rw [if_pos ⟨hl, hn⟩, e]
  have fin : ∀ {x : Except Exn RV}, fstQ fd.mt (R x) m' → ∃ r mo, (if fd.mt then (match (m' : List (Option Slo))[0]? with
          | some (some (Slo.own d)) => some (x, some d)
          | _ => none)
        else some (x, none)) = some (r, mo) ∧ R r mo := by
    intro x q
    unfold fstQ at q
    cases hm : fd.mt with
    | false =>
      rw [hm] at q
      exact ⟨x, none, by simp, by simpa using q⟩
    | true =>
      rw [hm] at q
      simp only [if_true] at q ⊢
      split at q
      · rename_i d h0
        exact ⟨x, some d, by rw [h0], q⟩
      · exact q.elim
  cases o with
  | nxt => exact fin (x := .ok (.dat .non)) q
  | ret r => exact fin (x := .ok r) q
  | exc x => exact fin (x := .error x) q
  | brk => exact q.elim
  | cnt => exact q.elim
/-- a call of a def of the table, one level down -/
theorem wC_of {n f np nl : Nat} {mt nn : Bool} {body : Stm} {kws : List (Nat × List PySem.Str × List Nat)} {avs : List Slo} {m0 : Frm} (hf : T.fns[f]? = some ⟨np, nl, mt, nn, body, kws⟩) (hl : avs.length = np) (hn : np ≤ nl) (h0 : avs.map some ++ List.replicate (nl - np) none = m0) (h : wS (es T (callN T fuel n) fuel body) m0 (endQ mt R)) : wC (callN T fuel (n + 1)) f avs R := by
  subst h0
  obtain ⟨r, mo, e, q⟩ := runF_of (C := callN T fuel n) (fd := ⟨np, nl, mt, nn, body, kws⟩) hl hn h
  refine ⟨r, mo, ?_, q⟩
  show (match T.fns[f]? with
    | some fd => runF T (callN T fuel n) fuel fd avs
    | none => none) = _
  rw [hf]
  exact e
end
end SB.P
/-! PuVal: operators and built-ins on values, as equations. -/
namespace SB.P
open PySem L2
section
variable {i j : Int} {a b : PySem.Str} {l k : List Dat} {x y : Dat} {T : Tab} {C : Calls}
@[simp] theorem bin_add_int : binV .Add (.int i) (.int j) = some (.dat (.int (i + j))) := rfl
@[simp] theorem bin_sub_int : binV .Sub (.int i) (.int j) = some (.dat (.int (i - j))) := rfl
theorem bin_mul_l (h : small64 i = true) : binV .Mult (.int i) (.int j) = some (.dat (.int (i * j))) := by simp [binV, h]
theorem bin_mul_r (h : small64 j = true) : binV .Mult (.int i) (.int j) = some (.dat (.int (i * j))) := by simp [binV, h]
theorem bin_mod (h : 0 < j) : binV .Mod (.int i) (.int j) = some (.dat (.int (i % j))) := by simp [binV, h]
theorem bin_fdiv (h : 0 < j) (h2 : j < 1073741824) : binV .FloorDiv (.int i) (.int j) = some (.dat (.int (i / j))) := by simp [binV, h, h2]
theorem bin_add_str (h : a.length + b.length ≤ sizeLine) : binV .Add (.str a) (.str b) = some (.dat (.str (a ++ b))) := by simp [binV, h]
theorem bin_add_lst (h : l.length + k.length ≤ sizeLine) : binV .Add (.lst l) (.lst k) = some (.own (.lst (l ++ k))) := by simp [binV, h]
@[simp] theorem una_neg : unaV .USub (.int i) = some (.dat (.int (-i))) := rfl
@[simp] theorem cmp_lt : cmpV .Lt (.int i) (.int j) = some (decide (i < j)) := rfl
@[simp] theorem cmp_le : cmpV .LtE (.int i) (.int j) = some (decide (i ≤ j)) := rfl
@[simp] theorem cmp_gt : cmpV .Gt (.int i) (.int j) = some (decide (j < i)) := rfl
@[simp] theorem cmp_ge : cmpV .GtE (.int i) (.int j) = some (decide (j ≤ i)) := rfl
@[simp] theorem cmp_eq_int : cmpV .Eq (.int i) (.int j) = some (decide (i = j)) := rfl
@[simp] theorem cmp_ne_int : cmpV .NotEq (.int i) (.int j) = some (!decide (i = j)) := rfl
@[simp] theorem cmp_eq_str : cmpV .Eq (.str a) (.str b) = some (decide (a = b)) := rfl
@[simp] theorem cmp_ne_str : cmpV .NotEq (.str a) (.str b) = some (!decide (a = b)) := rfl
@[simp] theorem cmp_is_non : cmpV .Is .non .non = some true := rfl
@[simp] theorem cmp_is_int : cmpV .Is (.int i) .non = some false := rfl
@[simp] theorem cmp_is_str : cmpV .Is (.str a) .non = some false := rfl
@[simp] theorem cmp_is_tup : cmpV .Is (.tup l) .non = some false := rfl
@[simp] theorem cmp_is_obj {c : Nat} {fs : List (PySem.Str × Dat)} : cmpV .Is (.obj c fs) .non = some false := rfl
@[simp] theorem cmp_isn_non : cmpV .IsNot .non .non = some false := rfl
@[simp] theorem cmp_isn_int : cmpV .IsNot (.int i) .non = some true := rfl
@[simp] theorem cmp_isn_str : cmpV .IsNot (.str a) .non = some true := rfl
@[simp] theorem cmp_isn_tup : cmpV .IsNot (.tup l) .non = some true := rfl
@[simp] theorem cmp_isn_obj {c : Nat} {fs : List (PySem.Str × Dat)} : cmpV .IsNot (.obj c fs) .non = some true := rfl
theorem cmp_in_lst : cmpV .In x (.lst l) = inV x l := rfl
theorem cmp_in_tup : cmpV .In x (.tup l) = inV x l := rfl
theorem cmp_ni_lst : cmpV .NotIn x (.lst l) = (inV x l).map (!·) := rfl
theorem cmp_ni_tup : cmpV .NotIn x (.tup l) = (inV x l).map (!·) := rfl
theorem flats_str : ∀ l : List PySem.Str, (l.map Dat.str).all flat = true
  | [] => rfl
  | s :: r => by rw [List.map_cons, List.all_cons, flats_str r]; rfl
/-- a text among texts -/
@[simp] theorem inV_strs {l : List PySem.Str} : inV (.str a) (l.map .str) = some (decide (a ∈ l)) := by
  unfold inV
  rw [flats_str]
  have : (l.map Dat.str).any (fun y => eqF y (.str a)) = decide (a ∈ l) := by
    induction l with
    | nil => rfl
    | cons s r ih =>
      rw [List.map_cons, List.any_cons, ih]
      show (decide (s = a) || _) = _
      by_cases h : s = a
      · subst h; simp
      · have h2 : ¬ a = s := fun z => h z.symm
        simp [h, h2]
  rw [this]
  rfl
@[simp] theorem cmp_in_strs {l : List PySem.Str} : cmpV .In (.str a) (.lst (l.map .str)) = some (decide (a ∈ l)) := inV_strs
@[simp] theorem cmp_in_strsT {l : List PySem.Str} : cmpV .In (.str a) (.tup (l.map .str)) = some (decide (a ∈ l)) := inV_strs
@[simp] theorem cmp_ni_strs {l : List PySem.Str} : cmpV .NotIn (.str a) (.lst (l.map .str)) = some (!decide (a ∈ l)) := by rw [cmp_ni_lst, inV_strs]; rfl
@[simp] theorem cmp_ni_strsT {l : List PySem.Str} : cmpV .NotIn (.str a) (.tup (l.map .str)) = some (!decide (a ∈ l)) := by rw [cmp_ni_tup, inV_strs]; rfl
@[simp] theorem cmp_in_sign {c : Nat} : cmpV .In (oneSign c) (.str b) = some (decide (c ∈ b.cps.toList)) := rfl
theorem idx_lst : idxV (.lst l) (.int i) = L2.atI l i := rfl
theorem idx_tup : idxV (.tup l) (.int i) = L2.atI l i := rfl
theorem idx_str (h : a.length ≤ sizeLine) : idxV (.str a) (.int i) = (L2.atI a.cps.toList i).map oneSign := by
  show (if a.length ≤ sizeLine then (L2.atI a.cps.toList i).map fun c => Dat.str ⟨#[c]⟩ else none) = _
  rw [if_pos h]
  rfl
@[simp] theorem idxM_lst {r k : RV} : idxM T C r k (.lst l) x = lft ((idxV (.lst l) x).map .dat) := rfl
@[simp] theorem idxM_tup {r k : RV} : idxM T C r k (.tup l) x = lft ((idxV (.tup l) x).map .dat) := rfl
@[simp] theorem idxM_str {r k : RV} : idxM T C r k (.str a) x = lft ((idxV (.str a) x).map .dat) := rfl
@[simp] theorem len_str (h : a.length ≤ sizeLine) : lenV (.str a) = some a.length := by simp [lenV, h]
@[simp] theorem len_lst : lenV (.lst l) = some l.length := rfl
@[simp] theorem len_tup : lenV (.tup l) = some l.length := rfl
@[simp] theorem bltM_len_lst {rs : List RV} : bltM T C .len rs [.lst l] = lft ((lenV (.lst l)).map fun n => .dat (.int n)) := rfl
@[simp] theorem bltM_len_tup {rs : List RV} : bltM T C .len rs [.tup l] = lft ((lenV (.tup l)).map fun n => .dat (.int n)) := rfl
@[simp] theorem bltM_len_str {rs : List RV} : bltM T C .len rs [.str a] = lft ((lenV (.str a)).map fun n => .dat (.int n)) := rfl
@[simp] theorem bltM_int {rs : List RV} : bltM T C .int rs [.int i] = ret (.dat (.int i)) := rfl
@[simp] theorem bltM_abs {rs : List RV} : bltM T C .abs rs [.int i] = ret (.dat (.int (if i < 0 then -i else i))) := rfl
@[simp] theorem bltM_max {rs : List RV} : bltM T C .max rs [.int i, .int j] = ret (.dat (.int (if j > i then j else i))) := rfl
@[simp] theorem bltM_min {rs : List RV} : bltM T C .min rs [.int i, .int j] = ret (.dat (.int (if j < i then j else i))) := rfl
@[simp] theorem bltM_tuple_lst {rs : List RV} : bltM T C .tuple rs [.lst l] = ret (.dat (.tup l)) := rfl
@[simp] theorem bltM_tuple_tup {rs : List RV} : bltM T C .tuple rs [.tup l] = ret (.dat (.tup l)) := rfl
@[simp] theorem bltM_list_lst {rs : List RV} : bltM T C .list rs [.lst l] = ret (.own (.lst l)) := rfl
@[simp] theorem bltM_list_tup {rs : List RV} : bltM T C .list rs [.tup l] = ret (.own (.lst l)) := rfl
@[simp] theorem bltM_str_str {rs : List RV} : bltM T C .str rs [.str a] = ret (.dat (.str a)) := rfl
theorem bltM_str_int {rs : List RV} (h : i.natAbs.log2 < 1920) : bltM T C .str rs [.int i] = ret (.dat (.str (Str.ofString (toString i)))) := by
  show lft ((if i.natAbs.log2 < 1920 then some (Str.ofString (toString i)) else none).map fun s => RV.dat (.str s)) = _
  rw [if_pos h]
  rfl
theorem bltM_divmod {rs : List RV} (h : 0 < j) (h2 : j < 1073741824) : bltM T C .divmod rs [.int i, .int j] = ret (.dat (.tup [.int (i / j), .int (i % j)])) := by
  show lft (if 0 < j ∧ j < 1073741824 then some (RV.dat (.tup [.int (i / j), .int (i % j)])) else none) = _
  rw [if_pos ⟨h, h2⟩]
  rfl
theorem bls_map {α : Type} (f : α → Bool) : ∀ l : List α, blsD (l.map fun z => Dat.bl (f z)) = some (l.map f)
  | [] => rfl
  | z :: r => by rw [List.map_cons, blsD, bls_map f r]; rfl
theorem bltM_all {α : Type} {rs : List RV} {f : α → Bool} {l : List α} : bltM T C .all rs [.lst (l.map fun z => Dat.bl (f z))] = ret (.dat (.bl (l.all f))) := by
  show lft ((blsD (l.map fun z => Dat.bl (f z))).map fun bs => RV.dat (.bl (bs.all id))) = _
  rw [bls_map]
  have : (l.map f).all id = l.all f := by rw [List.all_map]; rfl
  show lft (some (RV.dat (.bl ((l.map f).all id)))) = _
  rw [this]
  rfl
@[simp] theorem isi_str_str : isiV T (.str a) (.ty "str") = some true := rfl
@[simp] theorem isi_str_int : isiV T (.int i) (.ty "str") = some false := rfl
@[simp] theorem isi_str_non : isiV T .non (.ty "str") = some false := rfl
@[simp] theorem isi_int_int : isiV T (.int i) (.ty "int") = some true := rfl
@[simp] theorem isi_int_str : isiV T (.str a) (.ty "int") = some false := rfl
@[simp] theorem isi_int_non : isiV T .non (.ty "int") = some false := rfl
@[simp] theorem isi_bool_int : isiV T (.int i) (.ty "bool") = some false := rfl
@[simp] theorem isi_tup_tup : isiV T (.tup l) (.ty "tuple") = some true := rfl
@[simp] theorem metK_split : metK .split (.str a) = some () := rfl
@[simp] theorem metK_join : metK .join (.str a) = some () := rfl
@[simp] theorem metK_partition : metK .partition (.str a) = some () := rfl
@[simp] theorem metK_endswith : metK .endswith (.str a) = some () := rfl
@[simp] theorem metK_index : metK .index (.lst l) = some () := rfl
end
theorem small_of {i : Int} (h0 : 0 ≤ i) (h : i < 4294967296) : small64 i = true := by
  unfold small64
  rw [Bool.and_eq_true, decide_eq_true_eq, decide_eq_true_eq]
  constructor
  · have : -(2 ^ 64 : Int) < 0 := by decide
    omega
  · have : (4294967296 : Int) < 2 ^ 64 := by decide
    omega
end SB.P
/-! PuX: the rules as steps: each takes what is to be done first, and leaves what comes behind. -/
namespace SB.P
open PySem L2
/-- a frame's slot, a frame with a slot stored: found by the shape of the list -/
class GetAt (m : Frm) (i : Nat) (s : outParam (Option Slo)) : Prop where
  eq : (m : List (Option Slo))[i]? = some s
instance getAt0 {x : Option Slo} {r : List (Option Slo)} : GetAt (x :: r) 0 x := ⟨rfl⟩
instance getAtS {x s : Option Slo} {r : List (Option Slo)} {n : Nat} [h : GetAt r n s] : GetAt (x :: r) (n + 1) s := ⟨by
  have := h.eq
  simpa using this⟩
class SetAt (m : Frm) (i : Nat) (v : Option Slo) (m' : outParam Frm) : Prop where
  eq : List.set m i v = m'
  lt : i < List.length m
instance setAt0 {x v : Option Slo} {r : List (Option Slo)} : SetAt (x :: r) 0 v (v :: r) := ⟨rfl, by simp⟩
instance setAtS {x v : Option Slo} {r r' : List (Option Slo)} {n : Nat} [h : SetAt r n v r'] : SetAt (x :: r) (n + 1) v (x :: r') := ⟨by
  have := h.eq
  show x :: List.set r n v = _
  rw [this], by
  have := h.lt
  show n + 1 < List.length (x :: r)
  simp only [List.length_cons]
  omega⟩
/-- what a spec says, from a run -/
theorem of_wC {C : Calls} {f : Nat} {a : List Slo} {P : Except Exn RV → Option Dat → Prop} (h : wC C f a P) : ∃ r mo, C f a = some (r, mo) ∧ P r mo := by
  unfold wC at h
  exact h
section
variable {T : Tab} {C : Calls} {fuel : Nat} {m m' : Frm}
section
variable {α β : Type} {Q : Except Exn α → Frm → Prop} {P : Out → Frm → Prop} {k : β → Frm → Prop} {a : β}
theorem x_ok (h : k a m) : okQ Q k (.ok a) m := h
theorem x_out (h : k a m) : outQ P k (.ok a) m := h
theorem x_ret {a : α} (h : Q (.ok a) m) : wM (ret a) m Q := wM_ret.mpr h
theorem x_bnd {f : M β} {g : β → M α} (h : wM f m (okQ Q fun a m1 => wM (g a) m1 Q)) : wM (bnd f g) m Q := wM_bnd.mpr h
theorem x_some {a : α} (h : Q (.ok a) m) : wM (lft (some a)) m Q := wM_some.mpr h
theorem x_lft {o : Option α} {a : α} (e : o = some a) (h : Q (.ok a) m) : wM (lft o) m Q := by rw [e]; exact wM_some.mpr h
theorem x_map {o : Option β} {b : β} {f : β → α} (e : o = some b) (h : Q (.ok (f b)) m) : wM (lft (o.map f)) m Q := by rw [e]; exact wM_some.mpr h
theorem x_ite {c : Prop} [Decidable c] {f g : M α} (h : if c then wM f m Q else wM g m Q) : wM (if c then f else g) m Q := wM_ite.mpr h
end
theorem x_true {A B : Prop} (h : A) : if true = true then A else B := by simpa using h
theorem x_false {A B : Prop} (h : B) : if false = true then A else B := by simpa using h
theorem x_nottrue {A B : Prop} (h : B) : if (!true) = true then A else B := by simpa using h
theorem x_notfalse {A B : Prop} (h : A) : if (!false) = true then A else B := by simpa using h
theorem x_pos {c A B : Prop} [Decidable c] (hc : c) (h : A) : if decide c = true then A else B := by rw [if_pos (decide_eq_true hc)]; exact h
theorem x_neg {c A B : Prop} [Decidable c] (hc : ¬ c) (h : B) : if decide c = true then A else B := by rw [if_neg (by simpa using hc)]; exact h
theorem x_npos {c A B : Prop} [Decidable c] (hc : c) (h : B) : if (!decide c) = true then A else B := by rw [if_neg (by simpa using hc)]; exact h
theorem x_nneg {c A B : Prop} [Decidable c] (hc : ¬ c) (h : A) : if (!decide c) = true then A else B := by rw [if_pos (by simpa using hc)]; exact h
theorem x_b {b : Bool} {A B : Prop} (h1 : b = true → A) (h2 : b = false → B) : if b = true then A else B := by
  cases b with
  | true => simpa using h1 rfl
  | false => simpa using h2 rfl
theorem x_p {c A B : Prop} [Decidable c] (h1 : c → A) (h2 : ¬ c → B) : if decide c = true then A else B := by
  by_cases hc : c
  · exact x_pos hc (h1 hc)
  · exact x_neg hc (h2 hc)
theorem x_ifp {c A B : Prop} [Decidable c] (hc : c) (h : A) : if c then A else B := by rw [if_pos hc]; exact h
theorem x_ifn {c A B : Prop} [Decidable c] (hc : ¬ c) (h : B) : if c then A else B := by rw [if_neg hc]; exact h
theorem x_size {n : Nat} {A : Prop} (hn : n ≤ sizeLine) (h : A) : if n ≤ sizeLine then A else False := by rw [if_pos hn]; exact h
section
variable {Q : Except Exn Dat → Frm → Prop} {Qs : Except Exn (List Dat) → Frm → Prop}
theorem x_look_dat {d : Dat} (h : Q (.ok d) m) : wM (look (.dat d)) m Q := wM_look_dat.mpr h
theorem x_look_own {d : Dat} (h : Q (.ok d) m) : wM (look (.own d)) m Q := wM_look_own.mpr h
theorem x_look_pdat {d : Dat} (h : Q (.ok d) m) : wM (look (prj (.dat d))) m Q := wM_look_dat.mpr h
theorem x_look_pown {d : Dat} (h : Q (.ok d) m) : wM (look (prj (.own d))) m Q := wM_look_dat.mpr h
theorem x_look_bor {i : Nat} {d : Dat} [g : GetAt m i (some (.own d))] (h : Q (.ok d) m) : wM (look (.bor i)) m Q := wM_look_bor.mpr ⟨d, by unfold sloD; rw [g.eq], h⟩
theorem x_look_pbor {i : Nat} {d : Dat} [g : GetAt m i (some (.own d))] (h : Q (.ok d) m) : wM (look (prj (.bor i))) m Q := x_look_bor h
theorem x_look_borD {i : Nat} {d : Dat} [g : GetAt m i (some (.dat d))] (h : Q (.ok d) m) : wM (look (prj (.bor i))) m Q := wM_look_bor.mpr ⟨d, by unfold sloD; rw [g.eq], h⟩
theorem x_frz_dat {d : Dat} (h : Q (.ok d) m) : wM (frz (.dat d)) m Q := wM_frz_dat.mpr h
theorem x_frz_pdat {d : Dat} (h : Q (.ok d) m) : wM (frz (prj (.dat d))) m Q := wM_frz_dat.mpr h
theorem x_frz_pown {d : Dat} (h : Q (.ok d) m) : wM (frz (prj (.own d))) m Q := wM_frz_dat.mpr h
theorem x_frz_bor {i : Nat} {d : Dat} [g : GetAt m i (some (.own d))] [s : SetAt m i (some (.dat d)) m'] (h : Q (.ok d) m') : wM (frz (.bor i)) m Q := wM_frz_bor.mpr (by rw [g.eq]; dsimp only; rw [s.eq]; exact h)
theorem x_frz_pbor {i : Nat} {d : Dat} [g : GetAt m i (some (.own d))] [s : SetAt m i (some (.dat d)) m'] (h : Q (.ok d) m') : wM (frz (prj (.bor i))) m Q := x_frz_bor h
theorem x_frz_borD {i : Nat} {d : Dat} [g : GetAt m i (some (.dat d))] (h : Q (.ok d) m) : wM (frz (.bor i)) m Q := wM_frz_bor.mpr (by rw [g.eq]; exact h)
theorem x_frz_pborD {i : Nat} {d : Dat} [g : GetAt m i (some (.dat d))] (h : Q (.ok d) m) : wM (frz (prj (.bor i))) m Q := x_frz_borD h
theorem x_frzs_nil (h : Qs (.ok []) m) : wM (frzs []) m Qs := wM_frzs_nil.mpr h
theorem x_frzs_cons {r : RV} {rs : List RV} (h : wM (frz r) m (okQ Qs fun d m1 => wM (frzs rs) m1 (okQ Qs fun ds m2 => Qs (.ok (d :: ds)) m2))) : wM (frzs (r :: rs)) m Qs := wM_frzs_cons.mpr h
theorem x_looks_nil (h : Qs (.ok []) m) : wM (looks []) m Qs := wM_looks_nil.mpr h
theorem x_looks_cons {r : RV} {rs : List RV} (h : wM (look r) m (okQ Qs fun d m1 => wM (looks rs) m1 (okQ Qs fun ds m2 => Qs (.ok (d :: ds)) m2))) : wM (looks (r :: rs)) m Qs := wM_looks_cons.mpr h
end
section
variable {Q : Except Exn RV → Frm → Prop} {a b c e lo hi o : Ex}
theorem x_var {i : Nat} {d : Dat} [g : GetAt m i (some (.dat d))] (h : Q (.ok (.dat d)) m) : wM (ev T C (.var i)) m Q := wM_var.mpr (by rw [g.eq]; exact h)
theorem x_varO {i : Nat} {d : Dat} [g : GetAt m i (some (.own d))] (h : Q (.ok (.bor i)) m) : wM (ev T C (.var i)) m Q := wM_var.mpr (by rw [g.eq]; exact h)
theorem x_cst {d : Dat} (h : Q (.ok (.dat d)) m) : wM (ev T C (.cst d)) m Q := wM_cst.mpr h
theorem x_chn2 {o2 : CmpOp} {y z : RV} (h : wM (look (prj y)) m (okQ Q fun dy2 m7 => wM (look (prj z)) m7 (okQ Q fun dz m8 => wM (lft ((cmpV o2 dy2 dz).map fun b => RV.dat (.bl b))) m8 Q))) : wM (look (prj y)) m (okQ Q fun dy2 m7 => wM (look (prj z)) m7 (okQ Q fun dz m8 => wM (lft ((cmpV o2 dy2 dz).map fun b => RV.dat (.bl b))) m8 Q)) := h
theorem x_asBl {b : Bool} {Q : Except Exn Bool → Frm → Prop} (h : Q (.ok b) m) : wM (lft (asBl (.dat (.bl b)))) m Q := wM_some.mpr h
theorem x_idx_lst {r k : RV} {l : List Dat} {i : Int} {d : Dat} (e : L2.atI l i = some d) (h : Q (.ok (.dat d)) m) : wM (idxM T C r k (.lst l) (.int i)) m Q := by
  rw [idxM_lst, idx_lst, e]
  exact wM_some.mpr h
theorem x_idx_tup {r k : RV} {l : List Dat} {i : Int} {d : Dat} (e : L2.atI l i = some d) (h : Q (.ok (.dat d)) m) : wM (idxM T C r k (.tup l) (.int i)) m Q := by
  rw [idxM_tup, idx_tup, e]
  exact wM_some.mpr h
theorem x_idx {r k v : RV} {x i : Dat} (e : idxM T C r k x i = lft (some v)) (h : Q (.ok v) m) : wM (idxM T C r k x i) m Q := by rw [e]; exact wM_some.mpr h
theorem x_idx_str {r k : RV} {a : PySem.Str} {i : Int} {c : Nat} (hl : a.length ≤ sizeLine) (e : L2.atI a.cps.toList i = some c) (h : Q (.ok (.dat (oneSign c))) m) : wM (idxM T C r k (.str a) (.int i)) m Q := by
  rw [idxM_str, idx_str hl, e]
  exact wM_some.mpr h
theorem x_blt {f : Bf} {rs : List RV} {ds : List Dat} {v : RV} (e : bltM T C f rs ds = lft (some v)) (h : Q (.ok v) m) : wM (bltM T C f rs ds) m Q := by rw [e]; exact wM_some.mpr h
theorem x_len_str {rs : List RV} {a : PySem.Str} (hl : a.length ≤ sizeLine) (h : Q (.ok (.dat (.int a.length))) m) : wM (bltM T C .len rs [.str a]) m Q := by
  rw [bltM_len_str, len_str hl]
  exact wM_some.mpr h
theorem x_fmt_str {a : PySem.Str} (hl : a.length ≤ sizeLine) (h : Q (.ok (.dat (.str a))) m) : fmtQ Q (.str a) m := ⟨hl, h⟩
theorem x_jst {r : List (M RV)} {acc a : PySem.Str} (hl : (acc ++ a).length ≤ sizeLine) (h : wM (jstL r (acc ++ a)) m Q) : jstQ r acc Q (.dat (.str a)) m := by
  show if (acc ++ a).length ≤ sizeLine then _ else _
  rw [if_pos hl]
  exact h
theorem x_callM {f i : Nat} {d : Dat} {ds : List Dat} [g : GetAt m i (some (.own d))] (h : wC C f (.own d :: ds.map .dat) fun r mo => ∃ d', mo = some d' ∧ Q r (m.set i (some (.own d')))) : wM (callM C f (.bor i) ds) m Q := wM_callM_bor.mpr (by rw [g.eq]; exact h)
theorem x_callMo {f : Nat} {d : Dat} {ds : List Dat} (h : wC C f (.own d :: ds.map .dat) fun r mo => Q r m) : wM (callM C f (.own d) ds) m Q := wM_callM_own.mpr h
theorem x_call0 {f : Nat} {x x' : Dat} {rest : List (Option Slo)} {ds : List Dat} {r : Except Exn RV} (e : C f (.own x :: ds.map .dat) = some (r, some x')) (h : Q r (some (.own x') :: rest)) : wM (callM C f (.bor 0) ds) (some (.own x) :: rest) Q := by
  refine x_callM (d := x) ?_
  unfold wC
  exact ⟨r, _, e, x', rfl, h⟩
theorem x_cal {f : Nat} {a : List Slo} {r : Except Exn RV} {mo : Option Dat} {R : Except Exn RV → Option Dat → Prop} (e : C f a = some (r, mo)) (h : R r mo) : wC C f a R := by
  unfold wC
  exact ⟨r, mo, e, h⟩
def appQ (i : Nat) (Q : Except Exn RV → Frm → Prop) (d : Dat) (m2 : Frm) : Prop := match m2[i]? with
    | some (some (.own (.lst l))) => l.length < sizeLine ∧ Q (.ok (.dat .non)) (m2.set i (some (.own (.lst (l ++ [d])))))
    | _ => False
theorem x_app {i : Nat} {l : List Dat} [g : GetAt m i (some (.own (.lst l)))] (h : wM (ev T C e) m (okQ Q fun x m1 => wM (frz (prj x)) m1 (okQ Q (appQ i Q)))) : wM (ev T C (.app i e)) m Q := wM_app.mpr ⟨⟨l, g.eq⟩, h⟩
theorem x_app2 {i : Nat} {l : List Dat} {d : Dat} [g : GetAt m i (some (.own (.lst l)))] [s : SetAt m i (some (.own (.lst (l ++ [d])))) m'] (hl : l.length < sizeLine) (h : Q (.ok (.dat .non)) m') : appQ i Q d m := by
  unfold appQ
  rw [g.eq]
  exact ⟨hl, by rw [s.eq]; exact h⟩
def popQ (i : Nat) (Q : Except Exn RV → Frm → Prop) (x : RV) (m1 : Frm) : Prop := match x, m1[i]? with
    | .dat (.int 0), some (some (.own (.lst (d :: r)))) => Q (.ok (.dat d)) (m1.set i (some (.own (.lst r))))
    | _, _ => False
theorem x_pop {i : Nat} {l : List Dat} [g : GetAt m i (some (.own (.lst l)))] (h : wM (ev T C e) m (okQ Q (popQ i Q))) : wM (ev T C (.pop i e)) m Q := wM_pop.mpr ⟨⟨l, g.eq⟩, h⟩
theorem x_pop2 {i : Nat} {l : List Dat} {d : Dat} [g : GetAt m i (some (.own (.lst (d :: l))))] [s : SetAt m i (some (.own (.lst l))) m'] (h : Q (.ok (.dat d)) m') : popQ i Q (.dat (.int 0)) m := by
  unfold popQ
  rw [g.eq]
  show Q _ (List.set m i _)
  rw [s.eq]
  exact h
end
section
variable {Q : Except Exn Unit → Frm → Prop}
theorem x_set_dat {i : Nat} {d : Dat} [s : SetAt m i (some (.dat d)) m'] (h : Q (.ok ()) m') : wM (setR i (.dat d)) m Q := wM_setR_dat.mpr ⟨s.lt, by rw [s.eq]; exact h⟩
theorem x_set_own {i : Nat} {d : Dat} [s : SetAt m i (some (.own d)) m'] (h : Q (.ok ()) m') : wM (setR i (.own d)) m Q := wM_setR_own.mpr ⟨s.lt, by rw [s.eq]; exact h⟩
theorem x_set_bor {i j : Nat} {d : Dat} {m1 : Frm} [g : GetAt m j (some (.own d))] [s : SetAt m j (some (.dat d)) m1] [s2 : SetAt m1 i (some (.dat d)) m'] (h : Q (.ok ()) m') : wM (setR i (.bor j)) m Q := wM_setR_bor.mpr ⟨by
  have := s2.lt
  rw [← s.eq, List.length_set] at this
  exact this, by
  rw [g.eq]
  show Q _ (List.set (List.set m j _) i _)
  rw [s.eq, s2.eq]
  exact h⟩
theorem x_sub {i : Nat} {v : Dat} {z : Int} {j : Nat} {l : List Dat} [g : GetAt m i (some (.own (.lst l)))] (e : L2.ixN l.length z = some j) [s : SetAt m i (some (.own (.lst (l.set j v)))) m'] (h : Q (.ok ()) m') : wM (subM i v (.int z)) m Q :=
  (wM_subM_lst g.eq).mpr ⟨j, e, by rw [s.eq]; exact h⟩
theorem x_tupQ {t : Tg} {l : List Dat} (hl : l.length = tgLen t) (h : wM (asgTs T C t l) m Q) : tupQ T C t Q (.tup l) m := by
  show if l.length = tgLen t then _ else _
  rw [if_pos hl]
  exact h
theorem x_sub0 {i : Nat} {v a b c : Dat} [g : GetAt m i (some (.own (.lst [a, b, c])))] [s : SetAt m i (some (.own (.lst [v, b, c]))) m'] (h : Q (.ok ()) m') : wM (subM i v (.int 0)) m Q := (wM_subM_lst g.eq).mpr ⟨0, rfl, by rw [← s.eq] at h; exact h⟩
theorem x_sub1 {i : Nat} {v a b c : Dat} [g : GetAt m i (some (.own (.lst [a, b, c])))] [s : SetAt m i (some (.own (.lst [a, v, c]))) m'] (h : Q (.ok ()) m') : wM (subM i v (.int 1)) m Q := (wM_subM_lst g.eq).mpr ⟨1, rfl, by rw [← s.eq] at h; exact h⟩
theorem x_sub2 {i : Nat} {v a b c : Dat} [g : GetAt m i (some (.own (.lst [a, b, c])))] [s : SetAt m i (some (.own (.lst [a, b, v]))) m'] (h : Q (.ok ()) m') : wM (subM i v (.int 2)) m Q := (wM_subM_lst g.eq).mpr ⟨2, rfl, by rw [← s.eq] at h; exact h⟩
theorem x_asg_sub {i : Nat} {d : Dat} {e : Ex} {v : Dat} [g : GetAt m i (some (.own d))] (h : wM (ev T C e) m (okQ Q fun y m2 => wM (frz (prj y)) m2 (okQ Q fun k m3 => wM (subM i v k) m3 Q))) : (isOwn m[i]? = true ∧ wM (ev T C e) m (okQ Q fun y m2 => wM (frz (prj y)) m2 (okQ Q fun k m3 => wM (subM i v k) m3 Q))) := ⟨by rw [g.eq]; rfl, h⟩
end
section
variable {Q : Except Exn (List Dat) → Frm → Prop} {Q1 : Except Exn (Option Int) → Frm → Prop} {Q2 : Except Exn (List RV) → Frm → Prop}
theorem x_part {i : Int} (h : Q1 (.ok (some i)) m) : partQ Q1 (.dat (.int i)) m := h
theorem x_star_lst {r : Ex} {l : List Dat} (h : wM (evs T C r) m (okQ Q2 fun xs m3 => Q2 (.ok (l.map RV.dat ++ xs)) m3)) : starQ T C r Q2 (.lst l) m := h
theorem x_star_tup {r : Ex} {l : List Dat} (h : wM (evs T C r) m (okQ Q2 fun xs m3 => Q2 (.ok (l.map RV.dat ++ xs)) m3)) : starQ T C r Q2 (.tup l) m := h
theorem x_en_lst {l : List Dat} (h : Q (.ok (enumV 0 l)) m) : enQ Q (.lst l) m := h
theorem x_en_tup {l : List Dat} (h : Q (.ok (enumV 0 l)) m) : enQ Q (.tup l) m := h
theorem x_zi_lst {l k : List Dat} (h : Q (.ok (zipV l k)) m) : ziQ Q (.lst l) (.lst k) m := h
theorem x_zi_tup {l k : List Dat} (h : Q (.ok (zipV l k)) m) : ziQ Q (.tup l) (.tup k) m := h
theorem x_r1 {n : Int} (h0 : -(2 ^ 62) ≤ n) (h1 : n < 2 ^ 62) (h : Q (.ok (rngV 0 n.toNat)) m) : r1Q Q (.dat (.int n)) m := ⟨⟨h0, h1⟩, h⟩
theorem x_r2 {i j : Int} (h0 : -(2 ^ 62) ≤ i) (h1 : i < 2 ^ 62) (h2 : -(2 ^ 62) ≤ j) (h3 : j < 2 ^ 62) (h : Q (.ok (rngV i (j - i).toNat)) m) : r2Q Q (.dat (.int i)) (.dat (.int j)) m := ⟨⟨h0, h1, h2, h3⟩, h⟩
end
section
variable {P : Out → Frm → Prop}
theorem x_hand_bor {i : Nat} {d : Dat} [g : GetAt m i (some (.own d))] [s : SetAt m i none m'] (h : P (.ret (.own d)) m') : wS (handO (.bor i)) m P := wS_hand_bor.mpr (by rw [g.eq]; dsimp only; rw [s.eq]; exact h)
theorem x_hand_borD {i : Nat} {d : Dat} [g : GetAt m i (some (.dat d))] (h : P (.ret (.dat d)) m) : wS (handO (.bor i)) m P := wS_hand_bor.mpr (by rw [g.eq]; exact h)
end
theorem x_bind_nam {i : Nat} {d : Dat} {K : Frm → Prop} [s : SetAt m i (some (.dat d)) m'] (h : K m') : ∃ m1, bindP (.nam i) d m = some m1 ∧ K m1 := ⟨m', by
  rw [bindP, if_pos s.lt, s.eq], h⟩
theorem x_bind_tup {p : Pat} {l : List Dat} {K : Frm → Prop} (h : ∃ m1, bindP.bindPs p l m = some m1 ∧ K m1) : ∃ m1, bindP (.tup p) (.tup l) m = some m1 ∧ K m1 := by
  obtain ⟨m1, e, k⟩ := h
  exact ⟨m1, by rw [bindP, e], k⟩
theorem x_bind_cons {p r : Pat} {d : Dat} {ds : List Dat} {K : Frm → Prop} (h : ∃ m1, bindP p d m = some m1 ∧ ∃ m2, bindP.bindPs r ds m1 = some m2 ∧ K m2) : ∃ m1, bindP.bindPs (.cons p r) (d :: ds) m = some m1 ∧ K m1 := by
  obtain ⟨m1, e, m2, e2, k⟩ := h
  exact ⟨m2, by rw [bindP.bindPs, e]; exact e2, k⟩
theorem x_bind_nil {K : Frm → Prop} (h : K m) : ∃ m1, bindP.bindPs .nil [] m = some m1 ∧ K m1 := ⟨m, by rw [bindP.bindPs], h⟩
end
end SB.P
/-! PbLib: the bodies of the defs, as the translation has them (printed by genlib.py). -/
namespace SB.P
open PySem L2
def b_is_integer : Stm := (.seq (.ret (.and (.isi (.var 0) (.ty "int")) (.not (.isi (.var 0) (.ty "bool")))))
 .nil)
def b_is_name : Stm := (.seq (.ife (.or (.not (.isi (.var 0) (.ty "str"))) (.not (.chn .LtE .LtE (.cst (.int 1)) (.blt .len (.cons (.var 0) .nil)) (.cst (.int 8))))) (.seq (.ret (.cst (.bl false)))
 .nil) .nil)
 (.seq (.ret (.and (.cmp .In (.idx (.var 0) (.cst (.int 0))) (.cst (.str ("abcdefghijklmnopqrstuvwxyz" : PySem.Str)))) (.blt .all (.cons (.comp (.cmp .In (.var 1) (.bin .Add (.cst (.str ("abcdefghijklmnopqrstuvwxyz" : PySem.Str))) (.cst (.str ("0123456789" : PySem.Str))))) (.nam 1) .pl (.var 0) .nil false .nil [1]) .nil))))
 .nil))
def b_written : Stm := (.seq (.ife (.or (.cmp .Eq (.var 0) (.cst (.str ("" : PySem.Str)))) (.or (.cmp .Gt (.blt .len (.cons (.var 0) .nil)) (.cst (.int 13))) (.not (.blt .all (.cons (.comp (.cmp .In (.var 1) (.cst (.str ("0123456789" : PySem.Str)))) (.nam 1) .pl (.var 0) .nil false .nil [1]) .nil))))) (.seq (.ret (.cst .non))
 .nil) .nil)
 (.seq (.asg (.pat (.nam 2)) (.blt .int (.cons (.var 0) .nil)))
 (.seq (.ret (.ife (.and (.cmp .Eq (.blt .str (.cons (.var 2) .nil)) (.var 0)) (.cmp .LtE (.var 2) (.cst (.int 1000000000000)))) (.var 2) (.cst .non)))
 .nil)))
def b_Term_init : Stm := (.seq (.asg (.att 0 ("rank" : PySem.Str)) (.var 1))
 (.seq (.asg (.att 0 ("parts" : PySem.Str)) (.var 2))
 .nil))
def b_Row_init : Stm := (.seq (.asg (.att 0 ("condition" : PySem.Str)) (.var 1))
 (.seq (.asg (.att 0 ("who" : PySem.Str)) (.var 2))
 (.seq (.asg (.att 0 ("part" : PySem.Str)) (.var 3))
 .nil)))
def b_is_part (fwritten : Nat) : Stm := (.seq (.ret (.or (.cmp .In (.var 0) (.var 1)) (.cmp .IsNot (.cal fwritten (.cons (.var 0) .nil)) (.cst .non))))
 .nil)
def b_parsed_term (cTerm fis_part fwritten : Nat) : Stm := (.seq (.asg (.pat (.nam 2)) (.met .split (.var 0) (.cons (.cst (.str (" " : PySem.Str))) .nil)))
 (.seq (.asg (.pat (.nam 3)) (.sli (.var 2) (.cst (.int 2)) .nil))
 (.seq (.ife (.or (.cmp .NotIn (.idx (.var 2) (.cst (.int 0))) (.tup (.cons (.cst (.str ("high" : PySem.Str))) (.cons (.cst (.str ("low" : PySem.Str))) .nil)))) (.not (.chn .LtE .LtE (.cst (.int 1)) (.blt .len (.cons (.var 3) .nil)) (.cst (.int 6))))) (.seq (.ret (.cst .non))
 .nil) .nil)
 (.seq (.asg (.pat (.nam 4)) (.cal fwritten (.cons (.idx (.var 2) (.cst (.int 1))) .nil)))
 (.seq (.ife (.or (.cmp .Is (.var 4) (.cst .non)) (.or (.not (.chn .LtE .LtE (.cst (.int 1)) (.var 4) (.blt .len (.cons (.var 3) .nil)))) (.not (.blt .all (.cons (.comp (.cal fis_part (.cons (.var 5) (.cons (.var 1) .nil))) (.nam 5) .pl (.var 3) .nil false .nil [5]) .nil))))) (.seq (.ret (.cst .non))
 .nil) .nil)
 (.seq (.ret (.mak cTerm (.cons (.ife (.cmp .Eq (.idx (.var 2) (.cst (.int 0))) (.cst (.str ("high" : PySem.Str)))) (.var 4) (.bin .Sub (.bin .Add (.blt .len (.cons (.var 3) .nil)) (.cst (.int 1))) (.var 4))) (.cons (.blt .tuple (.cons (.var 3) .nil)) .nil))))
 .nil))))))
def b_parsed_who (fwritten : Nat) : Stm := (.seq (.ife (.cmp .In (.var 0) (.var 1)) (.seq (.ret (.var 0))
 .nil) .nil)
 (.seq (.asg (.pat (.nam 2)) (.cal fwritten (.cons (.var 0) .nil)))
 (.seq (.ret (.ife (.and (.cmp .IsNot (.var 2) (.cst .non)) (.chn .LtE .LtE (.cst (.int 1)) (.var 2) (.blt .len (.cons (.var 1) .nil)))) (.var 2) (.cst .non)))
 .nil)))
def b_parsed_deed (cRow fparsed_who fis_part : Nat) : Stm := (.seq (.ife (.cmp .Eq (.var 0) (.lst (.cons (.cst (.str ("keep" : PySem.Str))) .nil))) (.seq (.ret (.mak cRow (.cons (.var 1) (.cons (.cst .non) (.cons (.cst .non) .nil)))))
 .nil) .nil)
 (.seq (.ife (.or (.cmp .NotEq (.blt .len (.cons (.var 0) .nil)) (.cst (.int 4))) (.or (.cmp .NotEq (.idx (.var 0) (.cst (.int 0))) (.cst (.str ("sell" : PySem.Str)))) (.or (.cmp .NotEq (.idx (.var 0) (.cst (.int 2))) (.cst (.str ("at" : PySem.Str)))) (.not (.cal fis_part (.cons (.idx (.var 0) (.cst (.int 3))) (.cons (.var 3) .nil))))))) (.seq (.ret (.cst .non))
 .nil) .nil)
 (.seq (.asg (.pat (.nam 4)) (.cal fparsed_who (.cons (.idx (.var 0) (.cst (.int 1))) (.cons (.var 2) .nil))))
 (.seq (.ret (.ife (.cmp .Is (.var 4) (.cst .non)) (.cst .non) (.mak cRow (.cons (.var 1) (.cons (.var 4) (.cons (.idx (.var 0) (.cst (.int 3))) .nil))))))
 .nil))))
def b_parsed_row (fparsed_deed fis_part : Nat) : Stm := (.seq (.asg (.pat (.nam 4)) (.met .split (.var 0) (.cons (.cst (.str (" " : PySem.Str))) .nil)))
 (.seq (.ife (.var 1) (.seq (.ret (.cal fparsed_deed (.cons (.var 4) (.cons (.cst .non) (.cons (.var 2) (.cons (.var 3) .nil))))))
 .nil) .nil)
 (.seq (.ife (.or (.cmp .Lt (.blt .len (.cons (.var 4) .nil)) (.cst (.int 5))) (.or (.cmp .NotEq (.idx (.var 4) (.cst (.int 0))) (.cst (.str ("if" : PySem.Str)))) (.or (.cmp .NotIn (.idx (.var 4) (.cst (.int 2))) (.tup (.cons (.cst (.str ("<" : PySem.Str))) (.cons (.cst (.str ("<=" : PySem.Str))) .nil)))) (.not (.met .endswith (.idx (.var 4) (.cst (.int 3))) (.cons (.cst (.str (":" : PySem.Str))) .nil)))))) (.seq (.ret (.cst .non))
 .nil) .nil)
 (.seq (.asg (.pat (.nam 5)) (.tup (.cons (.idx (.var 4) (.cst (.int 1))) (.cons (.idx (.var 4) (.cst (.int 2))) (.cons (.sli (.idx (.var 4) (.cst (.int 3))) .nil (.una .USub (.cst (.int 1)))) .nil)))))
 (.seq (.ife (.or (.not (.cal fis_part (.cons (.idx (.var 5) (.cst (.int 0))) (.cons (.var 3) .nil)))) (.not (.cal fis_part (.cons (.idx (.var 5) (.cst (.int 2))) (.cons (.var 3) .nil))))) (.seq (.ret (.cst .non))
 .nil) .nil)
 (.seq (.ret (.cal fparsed_deed (.cons (.sli (.var 4) (.cst (.int 4)) .nil) (.cons (.var 5) (.cons (.var 2) (.cons (.var 3) .nil))))))
 .nil))))))
def b_check_seats (fis_name : Nat) : Stm := (.seq (.ife (.or (.not (.isi (.var 0) (.ty "tuple"))) (.cmp .Eq (.blt .len (.cons (.var 0) .nil)) (.cst (.int 0)))) (.seq .bad
 .nil) .nil)
 (.seq (.loop (.tup (.cons (.nam 1) (.cons (.nam 2) .nil))) .en (.var 0) .nil (.seq (.ife (.or (.cmp .Eq (.var 1) (.cst (.int 4))) (.or (.not (.cal fis_name (.cons (.var 2) .nil))) (.cmp .In (.var 2) (.sli (.var 0) .nil (.var 1))))) (.seq .bad
 .nil) .nil)
 .nil))
 .nil))
def b_check_lines (fparsed_term fis_line : Nat) : Stm := (.seq (.ife (.not (.isi (.var 1) (.ty "tuple"))) (.seq .bad
 .nil) .nil)
 (.seq (.asg (.pat (.nam 2)) (.blt .list (.cons (.var 0) .nil)))
 (.seq (.loop (.tup (.cons (.nam 3) (.cons (.nam 4) .nil))) .en (.var 1) .nil (.seq (.ife (.or (.cmp .Eq (.var 3) (.cst (.int 8))) (.or (.not (.cal fis_line (.cons (.var 4) .nil))) (.cmp .In (.idx (.var 4) (.cst (.int 0))) (.var 2)))) (.seq .bad
 .nil) .nil)
 (.seq (.exp (.app 2 (.idx (.var 4) (.cst (.int 0)))))
 .nil)))
 (.seq (.asg (.pat (.nam 5)) (.lst .nil))
 (.seq (.loop (.tup (.cons (.nam 3) (.cons (.tup (.cons (.nam 6) (.cons (.nam 7) .nil))) .nil))) .en (.var 1) .nil (.seq (.asg (.pat (.nam 8)) (.cal fparsed_term (.cons (.var 7) (.cons (.sli (.var 2) .nil (.bin .Add (.blt .len (.cons (.var 0) .nil)) (.var 3))) .nil))))
 (.seq (.ife (.cmp .Is (.var 8) (.cst .non)) (.seq .bad
 .nil) .nil)
 (.seq (.exp (.app 5 (.var 8)))
 .nil))))
 (.seq (.ret (.blt .tuple (.cons (.var 5) .nil)))
 .nil))))))
def b_is_line (fis_name : Nat) : Stm := (.seq (.ret (.and (.isi (.var 0) (.ty "tuple")) (.and (.cmp .Eq (.blt .len (.cons (.var 0) .nil)) (.cst (.int 2))) (.and (.cal fis_name (.cons (.idx (.var 0) (.cst (.int 0))) .nil)) (.isi (.idx (.var 0) (.cst (.int 1))) (.ty "str"))))))
 .nil)
def b_check_rows (fparsed_row : Nat) : Stm := (.seq (.ife (.or (.not (.isi (.var 2) (.ty "tuple"))) (.cmp .Eq (.blt .len (.cons (.var 2) .nil)) (.cst (.int 0)))) (.seq .bad
 .nil) .nil)
 (.seq (.asg (.pat (.nam 3)) (.lst .nil))
 (.seq (.loop (.tup (.cons (.nam 4) (.cons (.nam 5) .nil))) .en (.var 2) .nil (.seq (.asg (.pat (.nam 6)) (.cst .non))
 (.seq (.ife (.and (.cmp .Lt (.var 4) (.cst (.int 6))) (.isi (.var 5) (.ty "str"))) (.seq (.asg (.pat (.nam 6)) (.cal fparsed_row (.cons (.var 5) (.cons (.cmp .Eq (.var 4) (.bin .Sub (.blt .len (.cons (.var 2) .nil)) (.cst (.int 1)))) (.cons (.var 0) (.cons (.var 1) .nil))))))
 .nil) .nil)
 (.seq (.ife (.cmp .Is (.var 6) (.cst .non)) (.seq .bad
 .nil) .nil)
 (.seq (.exp (.app 3 (.var 6)))
 .nil)))))
 (.seq (.ret (.blt .tuple (.cons (.var 3) .nil)))
 .nil))))
def b_check_bids (fis_integer : Nat) : Stm := (.seq (.ife (.or (.not (.isi (.var 1) (.ty "tuple"))) (.cmp .NotEq (.blt .len (.cons (.var 1) .nil)) (.blt .len (.cons (.att (.var 0) ("seats" : PySem.Str)) .nil)))) (.seq .bad
 .nil) .nil)
 (.seq (.loop (.tup (.cons (.nam 2) (.cons (.nam 3) .nil))) .en (.var 1) .nil (.seq (.ife (.or (.not (.cal fis_integer (.cons (.var 3) .nil))) (.cmp .Lt (.var 3) (.cst (.int 0)))) (.seq .bad
 .nil) .nil)
 .nil))
 .nil))
def b_Rule_init (fcheck_rows fcheck_lines fcheck_seats : Nat) : Stm := (.seq (.exp (.cal fcheck_seats (.cons (.var 1) .nil)))
 (.seq (.asg (.att 0 ("terms" : PySem.Str)) (.cal fcheck_lines (.cons (.var 1) (.cons (.var 2) .nil))))
 (.seq (.asg (.att 0 ("deeds" : PySem.Str)) (.cal fcheck_rows (.cons (.var 1) (.cons (.tup (.star (.var 1) (.star (.comp (.var 4) (.tup (.cons (.nam 4) (.cons (.nam 5) .nil))) .pl (.var 2) .nil false .nil [4, 5]) .nil))) (.cons (.var 3) .nil)))))
 (.seq (.asg (.att 0 ("held_seats" : PySem.Str)) (.var 1))
 (.seq (.asg (.att 0 ("held_lines" : PySem.Str)) (.var 2))
 (.seq (.asg (.att 0 ("held_rows" : PySem.Str)) (.var 3))
 .nil))))))
def b_Rule_read (cRule : Nat) : Stm := (.seq (.ife (.not (.isi (.var 1) (.ty "str"))) (.seq .bad
 .nil) .nil)
 (.seq (.hdr 2 3 (.met .split (.var 1) (.cons (.cst (.str ("\n" : PySem.Str))) .nil)))
 (.seq (.asg (.pat (.nam 4)) (.met .split (.var 2) (.cons (.cst (.str (" " : PySem.Str))) .nil)))
 (.seq (.asg (.pat (.nam 5)) (.lst .nil))
 (.seq (.whl (.and (.cmp .Gt (.blt .len (.cons (.var 3) .nil)) (.cst (.int 0))) (.cmp .Eq (.sli (.met .split (.idx (.var 3) (.cst (.int 0))) (.cons (.cst (.str (" " : PySem.Str))) .nil)) (.cst (.int 1)) (.cst (.int 2))) (.lst (.cons (.cst (.str ("=" : PySem.Str))) .nil)))) (.seq (.asg (.tup (.cons (.pat (.nam 6)) (.cons (.pat (.nam 7)) (.cons (.pat (.nam 8)) .nil)))) (.met .partition (.pop 3 (.cst (.int 0))) (.cons (.cst (.str (" = " : PySem.Str))) .nil)))
 (.seq (.exp (.app 5 (.tup (.cons (.var 6) (.cons (.var 8) .nil)))))
 .nil)))
 (.seq (.tryq (.seq (.asg (.pat (.nam 9)) (.makv 0 cRule (.cons (.blt .tuple (.cons (.sli (.var 4) (.cst (.int 1)) .nil) .nil)) (.cons (.blt .tuple (.cons (.var 5) .nil)) (.cons (.blt .tuple (.cons (.var 3) .nil)) .nil)))))
 .nil))
 (.seq (.ife (.cmp .NotEq (.blt .str (.cons (.var 9) .nil)) (.var 1)) (.seq .bad
 .nil) .nil)
 (.seq (.ret (.var 9))
 .nil))))))))
def b_Rule_seats : Stm := (.seq (.ret (.att (.var 0) ("held_seats" : PySem.Str)))
 .nil)
def b_Rule_lines : Stm := (.seq (.ret (.att (.var 0) ("held_lines" : PySem.Str)))
 .nil)
def b_Rule_rows : Stm := (.seq (.ret (.att (.var 0) ("held_rows" : PySem.Str)))
 .nil)
def b_Rule_getitem : Stm := (.seq (.loop (.tup (.cons (.nam 2) (.cons (.nam 3) .nil))) .pl (.att (.var 0) ("held_lines" : PySem.Str)) .nil (.seq (.ife (.and (.isi (.var 1) (.ty "str")) (.cmp .Eq (.var 2) (.var 1))) (.seq (.ret (.var 3))
 .nil) .nil)
 .nil))
 (.seq .bad
 .nil))
def b_Rule_len : Stm := (.seq (.ret (.blt .len (.cons (.att (.var 0) ("held_rows" : PySem.Str)) .nil)))
 .nil)
def b_Rule_bool : Stm := (.seq (.ret (.cst (.bl true)))
 .nil)
def b_Rule_iter : Stm := (.seq .bad
 .nil)
def b_Rule_str : Stm := (.seq (.asg (.pat (.nam 1)) (.comp (.jst (.cons (.fmt (.var 2)) (.cons (.cst (.str (" = " : PySem.Str))) (.cons (.fmt (.var 3)) .nil)))) (.tup (.cons (.nam 2) (.cons (.nam 3) .nil))) .pl (.att (.var 0) ("held_lines" : PySem.Str)) .nil false .nil [2, 3]))
 (.seq (.ret (.met .join (.cst (.str ("\n" : PySem.Str))) (.cons (.lst (.cons (.met .join (.cst (.str (" " : PySem.Str))) (.cons (.lst (.cons (.cst (.str ("seats" : PySem.Str))) (.star (.att (.var 0) ("held_seats" : PySem.Str)) .nil))) .nil)) (.star (.var 1) (.star (.att (.var 0) ("held_rows" : PySem.Str)) .nil)))) .nil)))
 .nil))
def b_Rule_eq (cRule : Nat) : Stm := (.seq (.ret (.and (.isi (.var 1) (.own cRule)) (.cmp .Eq (.blt .str (.cons (.var 0) .nil)) (.blt .str (.cons (.var 1) .nil)))))
 .nil)
def b_Rule_worths : Stm := (.seq (.asg (.pat (.nam 2)) .bad)
 (.seq (.loop (.tup (.cons (.tup (.cons (.nam 3) (.cons (.nam 4) .nil))) (.cons (.nam 5) .nil))) .zi (.att (.var 0) ("held_lines" : PySem.Str)) (.att (.var 0) ("terms" : PySem.Str)) (.seq (.asg (.pat (.nam 6)) .bad)
 (.seq (.asg (.sub 2 (.var 3)) (.idx (.var 6) (.bin .Sub (.att (.var 5) ("rank" : PySem.Str)) (.cst (.int 1)))))
 .nil)))
 (.seq (.ret (.var 2))
 .nil)))
def b_Rule_value (fcheck_bids : Nat) : Stm := (.seq (.ife (.or (.not (.isi (.var 1) (.ty "str"))) (.cmp .NotIn (.var 1) (.tup (.star (.att (.var 0) ("held_seats" : PySem.Str)) (.star (.comp (.var 3) (.tup (.cons (.nam 3) (.cons (.nam 4) .nil))) .pl (.att (.var 0) ("held_lines" : PySem.Str)) .nil false .nil [3, 4]) .nil))))) (.seq .bad
 .nil) .nil)
 (.seq (.exp (.cal fcheck_bids (.cons (.var 0) (.cons (.var 2) .nil))))
 (.seq (.ret (.idx (.omet (.var 0) ("worths" : PySem.Str) [] [] (.cons (.var 2) .nil) .nil) (.var 1)))
 .nil)))
def b_Rule_outcome : Stm := (.seq (.exp .bad)
 .nil)
def b_Rule_changed : Stm := (.seq (.exp .bad)
 .nil)
def b_worth_of (fwritten : Nat) : Stm := (.seq (.ret (.ife (.cmp .In (.var 0) (.var 1)) (.idx (.var 1) (.var 0)) (.cal fwritten (.cons (.var 0) .nil))))
 .nil)
def b_l_source : Stm := (.seq (.asg (.pat (.nam 2)) (.bin .Add (.bin .Mult (.cst (.int 52711)) (.var 1)) (.cst (.int 377))))
 (.seq (.ife (.cmp .Lt (.var 1) (.blt .len (.cons (.var 0) .nil))) (.seq (.asg (.pat (.nam 3)) (.idx (.var 0) (.var 1)))
 (.seq (.asg (.pat (.nam 4)) (.ife (.or (.cmp .Lt (.var 3) (.cst (.int 0))) (.cmp .GtE (.var 3) (.bin .Pow (.cst (.int 10)) (.cst (.int 18))))) (.blt .abs (.cons (.var 3) .nil)) (.cst (.int 0))))
 (.seq (.ret (.lst (.cons (.var 4) (.cons (.bin .Mod (.blt .int (.cons (.bin .Add (.bin .Mult (.var 3) (.cst (.int 45013))) (.var 2)) .nil)) (.cst (.int 2147483579))) (.cons (.cst (.int 0)) .nil)))))
 .nil))) .nil)
 (.seq (.loop (.nam 3) .pl (.sli (.var 0) .nil (.cst (.int 4))) .nil (.seq (.asg (.pat (.nam 2)) (.bin .Mod (.blt .int (.cons (.bin .Add (.bin .Mult (.var 2) (.cst (.int 45013))) (.var 3)) .nil)) (.cst (.int 2147483579))))
 .nil))
 (.seq (.ret (.lst (.cons (.cst (.int 0)) (.cons (.var 2) (.cons (.cst (.int 0)) .nil)))))
 .nil))))
def b_l_take : Stm := (.seq (.asg (.pat (.nam 2)) (.blt .int (.cons (.idx (.var 0) (.cst (.int 1))) .nil)))
 (.seq (.asg (.sub 0 (.cst (.int 2))) (.bin .Add (.idx (.var 0) (.cst (.int 2))) (.cst (.int 1))))
 (.seq (.asg (.pat (.nam 3)) (.bin .Add (.bin .Mod (.blt .int (.cons (.var 2) .nil)) (.cst (.int 30011))) (.cst (.int 40009))))
 (.seq (.asg (.sub 0 (.cst (.int 1))) (.bin .Mod (.blt .int (.cons (.bin .Add (.bin .Add (.bin .Mult (.var 2) (.var 3)) (.bin .Mult (.cst (.int 70001)) (.idx (.var 0) (.cst (.int 2))))) (.cst (.int 29))) .nil)) (.cst (.int 2147483579))))
 (.seq (.ife (.cmp .Gt (.idx (.var 0) (.cst (.int 0))) (.cst (.int 0))) (.seq (.asg (.tup (.cons (.sub 0 (.cst (.int 0))) (.cons (.pat (.nam 4)) .nil))) (.blt .divmod (.cons (.idx (.var 0) (.cst (.int 0))) (.cons (.var 1) .nil))))
 (.seq (.ret (.var 4))
 .nil)) .nil)
 (.seq (.ret (.bin .Mod (.blt .int (.cons (.bin .FloorDiv (.idx (.var 0) (.cst (.int 1))) (.cst (.int 97))) .nil)) (.var 1)))
 .nil))))))
def b_l_names (fl_take : Nat) : Stm := (.seq (.par 2 3 (.cst (.str ("abcdefghijklmnopqrstuvwxyz0123456789" : PySem.Str))) (.lst .nil))
 (.seq (.asg (.pat (.nam 4)) (.lst (.cons (.cst (.str ("if" : PySem.Str))) (.cons (.cst (.str ("keep" : PySem.Str))) (.cons (.cst (.str ("sell" : PySem.Str))) (.cons (.cst (.str ("at" : PySem.Str))) (.cons (.cst (.str ("seats" : PySem.Str))) (.cons (.cst (.str ("high" : PySem.Str))) (.cons (.cst (.str ("low" : PySem.Str))) .nil)))))))))
 (.seq (.loop (.nam 5) .r1 (.var 1) .nil (.seq (.par 6 7 (.calm fl_take (.var 0) (.cons (.cst (.int 4)) .nil)) (.idx (.var 2) (.calm fl_take (.var 0) (.cons (.cst (.int 26)) .nil))))
 (.seq (.asg (.pat (.nam 8)) (.ife (.cmp .Eq (.var 6) (.cst (.int 0))) (.idx (.var 4) (.calm fl_take (.var 0) (.cons (.cst (.int 7)) .nil))) (.var 7)))
 (.seq (.loop (.nam 9) .r1 (.idx (.lst (.cons (.cst (.int 0)) (.cons (.cst (.int 0)) (.cons (.cst (.int 1)) (.cons (.calm fl_take (.var 0) (.cons (.cst (.int 8)) .nil)) .nil))))) (.var 6)) .nil (.seq (.asg (.pat (.nam 8)) (.bin .Add (.var 8) (.idx (.var 2) (.calm fl_take (.var 0) (.cons (.cst (.int 36)) .nil)))))
 .nil))
 (.seq (.ife (.cmp .In (.var 8) (.var 3)) (.seq (.asg (.pat (.nam 8)) (.idx (.comp (.var 10) (.nam 10) .pl (.sli (.var 2) .nil (.cst (.int 26))) .nil true (.cmp .NotIn (.var 10) (.var 3)) [10]) (.cst (.int 0))))
 .nil) .nil)
 (.seq (.exp (.app 3 (.var 8)))
 .nil))))))
 (.seq (.ret (.var 3))
 .nil))))
def b_l_piece (fl_take : Nat) : Stm := (.seq (.ife (.cmp .Gt (.calm fl_take (.var 0) (.cons (.cst (.int 4)) .nil)) (.cst (.int 0))) (.seq (.ret (.idx (.var 1) (.calm fl_take (.var 0) (.cons (.blt .len (.cons (.var 1) .nil)) .nil))))
 .nil) .nil)
 (.seq (.asg (.pat (.nam 2)) (.calm fl_take (.var 0) (.cons (.cst (.int 6)) .nil)))
 (.seq (.asg (.pat (.nam 3)) (.calm fl_take (.var 0) (.cons (.idx (.lst (.cons (.cst (.int 10)) (.cons (.cst (.int 10)) (.cons (.cst (.int 10)) (.cons (.cst (.int 100)) (.cons (.bin .Pow (.cst (.int 10)) (.cst (.int 6))) (.cons (.cst (.int 3)) .nil))))))) (.var 2)) .nil)))
 (.seq (.ret (.ife (.cmp .Eq (.var 2) (.cst (.int 5))) (.bin .Sub (.bin .Pow (.cst (.int 10)) (.cst (.int 12))) (.var 3)) (.var 3)))
 .nil))))
def b_l_line (fl_take fl_piece : Nat) : Stm := (.seq (.asg (.pat (.nam 4)) (.comp (.calm fl_piece (.var 0) (.cons (.var 2) .nil)) (.nam 5) .r1 (.bin .Add (.cst (.int 1)) (.calm fl_take (.var 0) (.cons (.cst (.int 6)) .nil))) .nil false .nil [5]))
 (.seq (.asg (.pat (.nam 4)) (.ife (.cmp .Eq (.calm fl_take (.var 0) (.cons (.cst (.int 3)) .nil)) (.cst (.int 0))) (.var 3) (.var 4)))
 (.seq (.ret (.tup (.cons (.var 1) (.cons (.idx (.lst (.cons (.cst (.str ("high" : PySem.Str))) (.cons (.cst (.str ("low" : PySem.Str))) .nil))) (.calm fl_take (.var 0) (.cons (.cst (.int 2)) .nil))) (.cons (.bin .Add (.cst (.int 1)) (.calm fl_take (.var 0) (.cons (.blt .len (.cons (.var 4) .nil)) .nil))) (.cons (.var 4) .nil))))))
 .nil)))
def b_l_row (fl_piece fl_take : Nat) : Stm := (.seq (.par 4 5 (.calm fl_take (.var 0) (.cons (.cst (.int 5)) .nil)) (.calm fl_take (.var 0) (.cons (.blt .len (.cons (.var 3) .nil)) .nil)))
 (.seq (.asg (.pat (.nam 6)) (.idx (.lst (.cons (.cst .non) (.cons (.cst (.int 1)) (.cons (.cst (.int 1)) (.cons (.bin .Add (.cst (.int 1)) (.var 5)) (.cons (.idx (.var 3) (.var 5)) .nil)))))) (.var 4)))
 (.seq (.asg (.pat (.nam 7)) (.ife (.cmp .Is (.var 6) (.cst .non)) (.cst .non) (.calm fl_piece (.var 0) (.cons (.var 2) .nil))))
 (.seq (.ife (.var 1) (.seq (.ret (.tup (.cons (.cst .non) (.cons (.var 6) (.cons (.var 7) .nil)))))
 .nil) .nil)
 (.seq (.asg (.pat (.nam 8)) (.tup (.cons (.calm fl_piece (.var 0) (.cons (.var 2) .nil)) (.cons (.idx (.lst (.cons (.cst (.str ("<" : PySem.Str))) (.cons (.cst (.str ("<=" : PySem.Str))) .nil))) (.calm fl_take (.var 0) (.cons (.cst (.int 2)) .nil))) (.cons (.calm fl_piece (.var 0) (.cons (.var 2) .nil)) .nil)))))
 (.seq (.ret (.tup (.cons (.var 8) (.cons (.var 6) (.cons (.var 7) .nil)))))
 .nil))))))
def b_l_plan (fl_row fl_line fl_names : Nat) : Stm := (.seq (.par 4 5 (.calm fl_names (.var 0) (.cons (.bin .Add (.var 1) (.var 2)) .nil)) (.lst .nil))
 (.seq (.asg (.pat (.nam 6)) (.sli (.var 4) .nil (.var 1)))
 (.seq (.loop (.nam 7) .r1 (.var 2) .nil (.seq (.exp (.app 5 (.calm fl_line (.var 0) (.cons (.idx (.var 4) (.bin .Add (.var 1) (.var 7))) (.cons (.sli (.var 4) .nil (.bin .Add (.var 1) (.var 7))) (.cons (.var 6) .nil))))))
 .nil))
 (.seq (.asg (.pat (.nam 8)) (.lst .nil))
 (.seq (.loop (.nam 7) .r1 (.var 3) .nil (.seq (.exp (.app 8 (.calm fl_row (.var 0) (.cons (.cmp .Eq (.var 7) (.bin .Sub (.var 3) (.cst (.int 1)))) (.cons (.var 4) (.cons (.var 6) .nil))))))
 .nil))
 (.seq (.ret (.lst (.cons (.var 6) (.cons (.var 5) (.cons (.var 8) .nil)))))
 .nil))))))
def b_l_term : Stm := (.seq (.ret (.met .join (.cst (.str (" " : PySem.Str))) (.cons (.bin .Add (.lst (.cons (.idx (.var 0) (.cst (.int 1))) (.cons (.blt .str (.cons (.idx (.var 0) (.cst (.int 2))) .nil)) .nil))) (.comp (.blt .str (.cons (.var 1) .nil)) (.nam 1) .pl (.idx (.var 0) (.cst (.int 3))) .nil false .nil [1])) .nil)))
 .nil)
def b_l_deed : Stm := (.seq (.asg (.tup (.cons (.pat (.nam 1)) (.cons (.pat (.nam 2)) (.cons (.pat (.nam 3)) .nil)))) (.var 0))
 (.seq (.asg (.pat (.nam 4)) (.ife (.cmp .Is (.var 2) (.cst .non)) (.cst (.str ("keep" : PySem.Str))) (.bin .Add (.bin .Add (.bin .Add (.cst (.str ("sell " : PySem.Str))) (.blt .str (.cons (.var 2) .nil))) (.cst (.str (" at " : PySem.Str)))) (.blt .str (.cons (.var 3) .nil)))))
 (.seq (.ife (.cmp .Is (.var 1) (.cst .non)) (.seq (.ret (.var 4))
 .nil) .nil)
 (.seq (.ret (.met .join (.cst (.str (" " : PySem.Str))) (.cons (.lst (.cons (.cst (.str ("if" : PySem.Str))) (.cons (.blt .str (.cons (.idx (.var 1) (.cst (.int 0))) .nil)) (.cons (.idx (.var 1) (.cst (.int 1))) (.cons (.bin .Add (.blt .str (.cons (.idx (.var 1) (.cst (.int 2))) .nil)) (.cst (.str (":" : PySem.Str)))) (.cons (.var 4) .nil)))))) .nil)))
 .nil))))
def b_l_triple (fl_deed fl_term : Nat) : Stm := (.seq (.asg (.pat (.nam 1)) (.blt .tuple (.cons (.comp (.tup (.cons (.idx (.var 2) (.cst (.int 0))) (.cons (.cal fl_term (.cons (.var 2) .nil)) .nil))) (.nam 2) .pl (.idx (.var 0) (.cst (.int 1))) .nil false .nil [2]) .nil)))
 (.seq (.ret (.tup (.cons (.blt .tuple (.cons (.idx (.var 0) (.cst (.int 0))) .nil)) (.cons (.var 1) (.cons (.blt .tuple (.cons (.comp (.cal fl_deed (.cons (.var 3) .nil)) (.nam 3) .pl (.idx (.var 0) (.cst (.int 2))) .nil false .nil [3]) .nil)) .nil)))))
 .nil))
def b_l_whole (fl_deed fl_term : Nat) : Stm := (.seq (.asg (.pat (.nam 1)) (.lst (.cons (.met .join (.cst (.str (" " : PySem.Str))) (.cons (.bin .Add (.lst (.cons (.cst (.str ("seats" : PySem.Str))) .nil)) (.idx (.var 0) (.cst (.int 0)))) .nil)) .nil)))
 (.seq (.asg (.pat (.nam 1)) (.bin .Add (.var 1) (.comp (.bin .Add (.bin .Add (.idx (.var 2) (.cst (.int 0))) (.cst (.str (" = " : PySem.Str)))) (.cal fl_term (.cons (.var 2) .nil))) (.nam 2) .pl (.idx (.var 0) (.cst (.int 1))) .nil false .nil [2])))
 (.seq (.ret (.met .join (.cst (.str ("\n" : PySem.Str))) (.cons (.bin .Add (.var 1) (.comp (.cal fl_deed (.cons (.var 3) .nil)) (.nam 3) .pl (.idx (.var 0) (.cst (.int 2))) .nil false .nil [3])) .nil)))
 .nil)))
def b_l_is_right (fl_whole fl_triple : Nat) : Stm := (.seq (.asg (.tup (.cons (.pat (.nam 2)) (.cons (.pat (.nam 3)) (.cons (.pat (.nam 4)) .nil)))) (.cal fl_triple (.cons (.var 1) .nil)))
 (.seq (.ife (.cmp .NotEq (.blt .repr (.cons (.lst (.cons (.att (.var 0) ("seats" : PySem.Str)) (.cons (.att (.var 0) ("lines" : PySem.Str)) (.cons (.att (.var 0) ("rows" : PySem.Str)) .nil)))) .nil)) (.blt .repr (.cons (.lst (.cons (.var 2) (.cons (.var 3) (.cons (.var 4) .nil)))) .nil))) (.seq (.ret (.cst (.bl false)))
 .nil) .nil)
 (.seq (.ife (.cmp .NotEq (.blt .repr (.cons (.lst (.cons (.blt .len (.cons (.var 0) .nil)) (.cons (.blt .str (.cons (.var 0) .nil)) .nil))) .nil)) (.blt .repr (.cons (.lst (.cons (.blt .len (.cons (.var 4) .nil)) (.cons (.cal fl_whole (.cons (.var 1) .nil)) .nil))) .nil))) (.seq (.ret (.cst (.bl false)))
 .nil) .nil)
 (.seq (.loop (.tup (.cons (.nam 5) (.cons (.nam 6) .nil))) .pl (.var 3) .nil (.seq (.ife (.cmp .NotEq (.blt .repr (.cons (.idx (.var 0) (.var 5)) .nil)) (.blt .repr (.cons (.var 6) .nil))) (.seq (.ret (.cst (.bl false)))
 .nil) .nil)
 .nil))
 (.seq (.ret (.blt .bool (.cons (.var 0) .nil)))
 .nil)))))
def b_l_right (fl_is_right fRule_read cRule fl_whole fl_triple fl_plan fl_take : Nat) : Stm := (.seq (.asg (.pat (.nam 1)) (.calm fl_plan (.var 0) (.cons (.bin .Add (.cst (.int 1)) (.calm fl_take (.var 0) (.cons (.cst (.int 4)) .nil))) (.cons (.calm fl_take (.var 0) (.cons (.cst (.int 9)) .nil)) (.cons (.bin .Add (.cst (.int 1)) (.calm fl_take (.var 0) (.cons (.cst (.int 6)) .nil))) .nil)))))
 (.seq (.asg (.tup (.cons (.pat (.nam 2)) (.cons (.pat (.nam 3)) (.cons (.pat (.nam 4)) .nil)))) (.cal fl_triple (.cons (.var 1) .nil)))
 (.seq (.asg (.pat (.nam 5)) (.cal fl_whole (.cons (.var 1) .nil)))
 (.seq (.asg (.pat (.nam 6)) (.lst (.cons (.mak cRule (.cons (.var 2) (.cons (.var 3) (.cons (.var 4) .nil)))) (.cons (.kmak cRule [("rows" : PySem.Str), ("seats" : PySem.Str), ("lines" : PySem.Str)] [1, 2, 0] .nil (.cons (.var 4) (.cons (.var 2) (.cons (.var 3) .nil)))) .nil))))
 (.seq (.asg (.pat (.nam 6)) (.bin .Add (.var 6) (.lst (.cons (.cmet fRule_read cRule [] [] (.cons (.var 5) .nil) .nil) (.cons (.cmet fRule_read cRule [("text" : PySem.Str)] [0] .nil (.cons (.var 5) .nil)) .nil)))))
 (.seq (.loop (.nam 7) .pl (.var 6) .nil (.seq (.ife (.not (.cal fl_is_right (.cons (.var 7) (.cons (.var 1) .nil)))) (.seq (.ret (.cst (.bl false)))
 .nil) .nil)
 .nil))
 (.seq (.ret (.cal fl_is_right (.cons (.idx (.var 6) (.cst (.int 0))) (.cons (.var 1) .nil))))
 .nil)))))))
def b_law (fl_right fl_source : Nat) : Stm := (.seq (.loop (.nam 1) .r1 (.blt .max (.cons (.cst (.int 2)) (.cons (.blt .min (.cons (.blt .len (.cons (.var 0) .nil)) (.cons (.cst (.int 4)) .nil))) .nil))) .nil (.seq (.ife (.not (.calm fl_right (.cal fl_source (.cons (.var 0) (.cons (.var 1) .nil))) .nil)) (.seq (.ret (.cst (.bl false)))
 .nil) .nil)
 .nil))
 (.seq (.ret (.cst (.bl true)))
 .nil))
end SB.P
set_option maxHeartbeats 0
namespace SB.P
open PySem L2 TL
local macro_rules
  | `(tactic| ac_rfl) => `(tactic| first
    | (with_reducible first
      | refine x_ok ?_
      | refine x_out ?_
      | refine x_true ?_
      | refine x_false ?_
      | refine x_nottrue ?_
      | refine x_notfalse ?_
      | refine x_var ?_
      | refine x_varO ?_
      | refine x_cst ?_
      | refine x_asBl ?_
      | refine wM_evs_nil.mpr ?_
      | refine wM_evs_cons.mpr ?_
      | refine x_look_pdat ?_
      | refine x_look_pown ?_
      | refine x_look_pbor ?_
      | refine x_look_borD ?_
      | refine x_look_dat ?_
      | refine x_look_own ?_
      | refine x_look_bor ?_
      | refine x_frz_pdat ?_
      | refine x_frz_pown ?_
      | refine x_frz_pbor ?_
      | refine x_frz_pborD ?_
      | refine x_frz_dat ?_
      | refine x_frz_bor ?_
      | refine x_frz_borD ?_
      | refine x_frzs_nil ?_
      | refine x_frzs_cons ?_
      | refine x_looks_nil ?_
      | refine x_looks_cons ?_
      | refine wM_bin.mpr ?_
      | refine wM_una.mpr ?_
      | refine wM_cmp.mpr ?_
      | refine wM_chn.mpr ?_
      | refine wM_and.mpr ?_
      | refine wM_or.mpr ?_
      | refine wM_not.mpr ?_
      | refine wM_ife.mpr ?_
      | refine wM_tup.mpr ?_
      | refine wM_lst.mpr ?_
      | refine wM_dic0.mpr ?_
      | refine wM_idx.mpr ?_
      | refine wM_sli.mpr ?_
      | refine wM_partM_nil.mpr ?_
      | refine wM_part_cst.mpr ?_
      | refine wM_part_bin.mpr ?_
      | refine wM_part_var.mpr ?_
      | refine wM_part_una.mpr ?_
      | refine wM_att.mpr ?_
      | refine wM_cal.mpr ?_
      | refine wM_calm.mpr ?_
      | refine wM_mak.mpr ?_
      | refine wM_makv.mpr ?_
      | refine wM_blt.mpr ?_
      | refine wM_isi.mpr ?_
      | refine wM_met.mpr ?_
      | refine wM_kmak.mpr ?_
      | refine wM_kcal.mpr ?_
      | refine wM_omet.mpr ?_
      | refine wM_cmet.mpr ?_
      | refine wM_evs_star.mpr ?_
      | refine x_callMo ?_
      | refine x_app ?_
      | refine x_pop ?_
      | refine x_pop2 ?_
      | refine wM_fmt.mpr ?_
      | refine wM_jst.mpr ?_
      | refine x_ret ?_
      | refine x_some ?_
      | refine wS_seq.mpr ?_
      | refine wS_nil.mpr ?_
      | refine wS_asg.mpr ?_
      | refine wS_par.mpr ?_
      | refine wS_exp.mpr ?_
      | refine wS_ret.mpr ?_
      | refine wS_ife.mpr ?_
      | refine wS_retn.mpr ?_
      | refine wS_pas.mpr ?_
      | refine wS_tryq.mpr ?_
      | refine x_bind_nam ?_
      | refine x_bind_tup ?_
      | refine x_bind_cons ?_
      | refine x_bind_nil ?_
      | refine wS_loop.mpr ?_
      | refine wS_hdr.mpr ?_
      | refine wS_hand_dat.mpr ?_
      | refine wS_hand_own.mpr ?_
      | refine x_hand_bor ?_
      | refine x_hand_borD ?_
      | refine seqQ_nxt.mpr ?_
      | refine seqQ_ret.mpr ?_
      | refine turnQ_nxt.mpr ?_
      | refine turnQ_ret.mpr ?_
      | refine endQ_ret.mpr ?_
      | refine endQ_nxt.mpr ?_
      | refine fstQ_true.mpr ?_
      | refine fstQ_false.mpr ?_
      | refine notExc_nxt.mpr ?_
      | refine notExc_ret.mpr ?_
      | refine wM_asg_nam.mpr ?_
      | refine wM_asg_tup.mpr ?_
      | refine wM_asgs_nil.mpr ?_
      | refine wM_asgs_cons.mpr ?_
      | refine wM_asg_sub.mpr ?_
      | refine x_asg_sub ?_
      | refine wM_asg_att.mpr ?_
      | refine x_sub0 ?_
      | refine x_sub1 ?_
      | refine x_sub2 ?_
      | refine x_set_dat ?_
      | refine x_set_own ?_
      | refine x_set_bor ?_
      | refine wM_hold_dat.mpr ?_
      | refine wM_hold_own.mpr ?_
      | refine wM_hold_bor.mpr ?_
      | refine wM_it_pl.mpr ?_
      | refine wM_it_en.mpr ?_
      | refine wM_it_zi.mpr ?_
      | refine wM_it_r1.mpr ?_
      | refine wM_it_r2.mpr ?_
      | refine putQ_dat.mpr ?_
      | refine putQ_own.mpr ?_
      | refine cndQ_bl.mpr ?_
      | refine x_map cmp_eq_int ?_
      | refine x_map cmp_ne_int ?_
      | refine x_map cmp_eq_str ?_
      | refine x_map cmp_ne_str ?_
      | refine x_map cmp_in_strs ?_
      | refine x_map cmp_in_strsT ?_
      | refine x_map cmp_ni_strs ?_
      | refine x_map cmp_ni_strsT ?_
      | refine x_lft (bin_mod (by first | decide | assumption | omega)) ?_
      | refine x_lft (bin_fdiv (by first | decide | assumption | omega) (by first | decide | assumption | omega)) ?_
      | refine x_lft (bin_mul_l (by decide)) ?_
      | refine x_lft (bin_mul_r (by decide)) ?_
      | refine x_pos (by decide) ?_
      | refine x_neg (by decide) ?_
      | refine x_npos (by decide) ?_
      | refine x_nneg (by decide) ?_
      | refine x_part ?_
      | refine x_star_lst ?_
      | refine x_star_tup ?_
      | refine x_en_lst ?_
      | refine x_en_tup ?_
      | refine x_zi_lst ?_
      | refine x_zi_tup ?_
      | refine x_r1 (by omega) (by omega) ?_
      | refine x_r2 (by omega) (by omega) (by omega) (by omega) ?_
      | refine x_size (by decide) ?_
      | refine x_ifp (by decide) ?_
      | refine x_ifn (by decide) ?_)
    | ((with_reducible apply x_map); exact rfl)
    | ((with_reducible apply x_lft); exact rfl)
    | ((with_reducible apply x_idx_lst); exact rfl)
    | ((with_reducible apply x_idx_tup); exact rfl)
    | ((with_reducible apply x_blt); exact rfl)
    | ((with_reducible apply x_tupQ); exact rfl)
    | ((with_reducible apply x_size); exact Nat.le_of_ble_eq_true rfl))
/-- a source of draws -/
def Src (x : Dat) : Prop := ∃ d s k : Int, x = .lst [.int d, .int s, .int k] ∧ 0 ≤ d ∧ 0 ≤ s ∧ s < 2147483579
def SpTake (C : Calls) (i : Nat) : Prop := ∀ x n, Src x → 0 < n → n < 1073741824 → ∃ v x', 0 ≤ v ∧ v < n ∧ Src x' ∧ C i [.own x, .dat (.int n)] = some (.ok (.dat (.int v)), some x')
theorem take_ok {T : Tab} {fuel n i : Nat} {nn : Bool} {kws : List (Nat × List PySem.Str × List Nat)} (hf : T.fns[i]? = some ⟨2, 5, true, nn, b_l_take, kws⟩) : SpTake (callN T fuel (n + 1)) i := by
  rintro x z ⟨d, s, k, rfl, h1, h2, h3⟩ hz hz2
  have key : wC (callN T fuel (n + 1)) i [.own (.lst [.int d, .int s, .int k]), .dat (.int z)] fun r mo => ∃ v x', 0 ≤ v ∧ v < z ∧ Src x' ∧ r = .ok (.dat (.int v)) ∧ mo = some x' := by
    refine wC_of (m0 := [some (.own (.lst [.int d, .int s, .int k])), some (.dat (.int z)), none, none, none]) hf rfl (by decide) rfl ?_
    unfold b_l_take
    repeat ac_rfl
    refine x_lft (bin_mul_l (small_of h2 (by omega))) ?_
    repeat ac_rfl
    refine x_p (fun hd => ?_) (fun hd => ?_)
    · repeat ac_rfl
      rw [bltM_divmod hz hz2]
      repeat ac_rfl
      exact ⟨_, _, Int.emod_nonneg _ (by omega), Int.emod_lt_of_pos _ hz, ⟨_, _, _, rfl, Int.ediv_nonneg h1 (by omega), Int.emod_nonneg _ (by decide), Int.emod_lt_of_pos _ (by decide)⟩, rfl, rfl⟩
    · repeat ac_rfl
      exact ⟨_, _, Int.emod_nonneg _ (by omega), Int.emod_lt_of_pos _ hz, ⟨_, _, _, rfl, h1, Int.emod_nonneg _ (by decide), Int.emod_lt_of_pos _ (by decide)⟩, rfl, rfl⟩
  unfold wC at key
  obtain ⟨r, mo, e, v, x', a1, a2, a3, rfl, rfl⟩ := key
  exact ⟨v, x', a1, a2, a3, e⟩
/-- a cut of a list of anything -/
def cutD' {α : Type} (l : List α) (lo hi : Option Int) : List α := (l.drop (HT.sIx l.length 0 lo)).take (HT.sIx l.length l.length hi - HT.sIx l.length 0 lo)
theorem cutD_map {α : Type} {f : α → Dat} {l : List α} {lo hi : Option Int} : cutD (l.map f) lo hi = (cutD' l lo hi).map f := by
  unfold cutD cutD'
  rw [List.length_map, List.map_take, List.map_drop]
def SpSource (C : Calls) (i : Nat) : Prop := ∀ (ns : List Int) (k : Int), 0 ≤ k → k < 1000 → ∃ x, Src x ∧ C i [.dat (.lst (ns.map .int)), .dat (.int k)] = some (.ok (.own x), none)
theorem atI_map {α β : Type} (f : α → β) {l : List α} {i : Int} : L2.atI (l.map f) i = (L2.atI l i).map f := by
  unfold L2.atI
  rw [List.length_map]
  cases L2.ixN l.length i with
  | none => rfl
  | some j => exact List.getElem?_map
theorem atI_get {α : Type} {l : List α} {i : Int} (h0 : 0 ≤ i) (h1 : i < l.length) : ∃ d, L2.atI l i = some d ∧ d ∈ l := by
  obtain ⟨j, rfl⟩ := Int.eq_ofNat_of_zero_le h0
  have hj : j < l.length := by omega
  refine ⟨l[j], ?_, List.getElem_mem hj⟩
  unfold L2.atI L2.ixN
  rw [if_pos h0, if_pos h1]
  simp [hj]
theorem source_ok {T : Tab} {fuel n i : Nat} {nn : Bool} {kws : List (Nat × List PySem.Str × List Nat)} (hf : T.fns[i]? = some ⟨2, 5, false, nn, b_l_source, kws⟩) : SpSource (callN T fuel (n + 1)) i := by
  intro ns k h0 h1
  have key : wC (callN T fuel (n + 1)) i [.dat (.lst (ns.map .int)), .dat (.int k)] fun r mo => ∃ x, Src x ∧ r = .ok (.own x) ∧ mo = none := by
    refine wC_of (m0 := [some (.dat (.lst (ns.map .int))), some (.dat (.int k)), none, none, none]) hf rfl (by decide) rfl ?_
    unfold b_l_source
    repeat ac_rfl
    refine x_p (fun hk => ?_) (fun hk => ?_)
    · repeat ac_rfl
      obtain ⟨c, hc, _⟩ := atI_get h0 (show k < ns.length by simpa using hk)
      refine x_idx_lst (d := .int c) (by rw [atI_map, hc]; rfl) ?_
      repeat ac_rfl
      have sr : ∀ d : Int, 0 ≤ d → Src (.lst [.int d, .int ((c * 45013 + (52711 * k + 377)) % 2147483579), .int 0]) := fun d hd => ⟨d, _, 0, rfl, hd, Int.emod_nonneg _ (by decide), Int.emod_lt_of_pos _ (by decide)⟩
      refine x_p (fun hn => ?_) (fun hn => ?_)
      · repeat ac_rfl
        exact ⟨_, sr _ (by rw [if_pos hn]; omega), rfl, rfl⟩
      · repeat ac_rfl
        refine x_p (fun hn => ?_) (fun hn => ?_)
        · repeat ac_rfl
          exact ⟨_, sr _ (by split <;> omega), rfl, rfl⟩
        · repeat ac_rfl
          exact ⟨_, sr _ (by decide), rfl, rfl⟩
    · repeat ac_rfl
      refine wS_forL (fun ds m => ∃ (ms : List Int) (s : Int) (y : Option Slo), ds = ms.map .int ∧ m = [some (.dat (.lst (ns.map .int))), some (.dat (.int k)), some (.dat (.int s)), y, none] ∧ 0 ≤ s ∧ s < 2147483579) ?_ ?_ _ _ ?_
      · rintro d r m ⟨ms, s, y, hd, rfl, h2, h3⟩
        cases ms with
        | nil => cases hd
        | cons z ms =>
          rw [List.map_cons] at hd
          cases hd
          repeat ac_rfl
          exact ⟨ms, _, _, rfl, rfl, Int.emod_nonneg _ (by decide), Int.emod_lt_of_pos _ (by decide)⟩
      · rintro m ⟨ms, s, y, hd, rfl, h2, h3⟩
        repeat ac_rfl
        exact ⟨_, ⟨0, s, 0, rfl, by decide, h2, h3⟩, rfl, rfl⟩
      · exact ⟨cutD' ns none (some 4), _, _, cutD_map, rfl, by omega, by omega⟩
  obtain ⟨r, mo, e, x, hx, rfl, rfl⟩ := of_wC key
  exact ⟨x, hx, e⟩
end SB.P
set_option maxHeartbeats 0
namespace SB.P
open PySem L2 TL
local macro_rules
  | `(tactic| ac_rfl) => `(tactic| first
    | (with_reducible first
      | refine x_ok ?_
      | refine x_out ?_
      | refine x_true ?_
      | refine x_false ?_
      | refine x_nottrue ?_
      | refine x_notfalse ?_
      | refine x_var ?_
      | refine x_varO ?_
      | refine x_cst ?_
      | refine x_asBl ?_
      | refine wM_evs_nil.mpr ?_
      | refine wM_evs_cons.mpr ?_
      | refine x_look_pdat ?_
      | refine x_look_pown ?_
      | refine x_look_pbor ?_
      | refine x_look_borD ?_
      | refine x_look_dat ?_
      | refine x_look_own ?_
      | refine x_look_bor ?_
      | refine x_frz_pdat ?_
      | refine x_frz_pown ?_
      | refine x_frz_pbor ?_
      | refine x_frz_pborD ?_
      | refine x_frz_dat ?_
      | refine x_frz_bor ?_
      | refine x_frz_borD ?_
      | refine x_frzs_nil ?_
      | refine x_frzs_cons ?_
      | refine x_looks_nil ?_
      | refine x_looks_cons ?_
      | refine wM_bin.mpr ?_
      | refine wM_una.mpr ?_
      | refine wM_cmp.mpr ?_
      | refine wM_chn.mpr ?_
      | refine wM_and.mpr ?_
      | refine wM_or.mpr ?_
      | refine wM_not.mpr ?_
      | refine wM_ife.mpr ?_
      | refine wM_tup.mpr ?_
      | refine wM_lst.mpr ?_
      | refine wM_dic0.mpr ?_
      | refine wM_idx.mpr ?_
      | refine wM_sli.mpr ?_
      | refine wM_partM_nil.mpr ?_
      | refine wM_part_cst.mpr ?_
      | refine wM_part_bin.mpr ?_
      | refine wM_part_var.mpr ?_
      | refine wM_part_una.mpr ?_
      | refine wM_att.mpr ?_
      | refine wM_cal.mpr ?_
      | refine wM_calm.mpr ?_
      | refine wM_mak.mpr ?_
      | refine wM_makv.mpr ?_
      | refine wM_blt.mpr ?_
      | refine wM_isi.mpr ?_
      | refine wM_met.mpr ?_
      | refine wM_kmak.mpr ?_
      | refine wM_kcal.mpr ?_
      | refine wM_omet.mpr ?_
      | refine wM_cmet.mpr ?_
      | refine wM_evs_star.mpr ?_
      | refine x_callMo ?_
      | refine x_app ?_
      | refine x_pop ?_
      | refine x_pop2 ?_
      | refine wM_fmt.mpr ?_
      | refine wM_jst.mpr ?_
      | refine x_ret ?_
      | refine x_some ?_
      | refine wS_seq.mpr ?_
      | refine wS_nil.mpr ?_
      | refine wS_asg.mpr ?_
      | refine wS_par.mpr ?_
      | refine wS_exp.mpr ?_
      | refine wS_ret.mpr ?_
      | refine wS_ife.mpr ?_
      | refine wS_retn.mpr ?_
      | refine wS_pas.mpr ?_
      | refine wS_tryq.mpr ?_
      | refine x_bind_nam ?_
      | refine x_bind_tup ?_
      | refine x_bind_cons ?_
      | refine x_bind_nil ?_
      | refine wS_loop.mpr ?_
      | refine wS_hdr.mpr ?_
      | refine wS_hand_dat.mpr ?_
      | refine wS_hand_own.mpr ?_
      | refine x_hand_bor ?_
      | refine x_hand_borD ?_
      | refine seqQ_nxt.mpr ?_
      | refine seqQ_ret.mpr ?_
      | refine turnQ_nxt.mpr ?_
      | refine turnQ_ret.mpr ?_
      | refine endQ_ret.mpr ?_
      | refine endQ_nxt.mpr ?_
      | refine fstQ_true.mpr ?_
      | refine fstQ_false.mpr ?_
      | refine notExc_nxt.mpr ?_
      | refine notExc_ret.mpr ?_
      | refine wM_asg_nam.mpr ?_
      | refine wM_asg_tup.mpr ?_
      | refine wM_asgs_nil.mpr ?_
      | refine wM_asgs_cons.mpr ?_
      | refine wM_asg_sub.mpr ?_
      | refine x_asg_sub ?_
      | refine wM_asg_att.mpr ?_
      | refine x_sub0 ?_
      | refine x_sub1 ?_
      | refine x_sub2 ?_
      | refine x_set_dat ?_
      | refine x_set_own ?_
      | refine x_set_bor ?_
      | refine wM_hold_dat.mpr ?_
      | refine wM_hold_own.mpr ?_
      | refine wM_hold_bor.mpr ?_
      | refine wM_it_pl.mpr ?_
      | refine wM_it_en.mpr ?_
      | refine wM_it_zi.mpr ?_
      | refine wM_it_r1.mpr ?_
      | refine wM_it_r2.mpr ?_
      | refine putQ_dat.mpr ?_
      | refine putQ_own.mpr ?_
      | refine cndQ_bl.mpr ?_
      | refine x_map cmp_eq_int ?_
      | refine x_map cmp_ne_int ?_
      | refine x_map cmp_eq_str ?_
      | refine x_map cmp_ne_str ?_
      | refine x_map cmp_in_strs ?_
      | refine x_map cmp_in_strsT ?_
      | refine x_map cmp_ni_strs ?_
      | refine x_map cmp_ni_strsT ?_
      | refine x_lft (bin_mod (by first | decide | assumption | omega)) ?_
      | refine x_lft (bin_fdiv (by first | decide | assumption | omega) (by first | decide | assumption | omega)) ?_
      | refine x_lft (bin_mul_l (by decide)) ?_
      | refine x_lft (bin_mul_r (by decide)) ?_
      | refine x_pos (by decide) ?_
      | refine x_neg (by decide) ?_
      | refine x_npos (by decide) ?_
      | refine x_nneg (by decide) ?_
      | refine x_part ?_
      | refine x_star_lst ?_
      | refine x_star_tup ?_
      | refine x_en_lst ?_
      | refine x_en_tup ?_
      | refine x_zi_lst ?_
      | refine x_zi_tup ?_
      | refine x_r1 (by omega) (by omega) ?_
      | refine x_r2 (by omega) (by omega) (by omega) (by omega) ?_
      | refine x_size (by decide) ?_
      | refine x_ifp (by decide) ?_
      | refine x_ifn (by decide) ?_)
    | ((with_reducible apply x_map); exact rfl)
    | ((with_reducible apply x_lft); exact rfl)
    | ((with_reducible apply x_idx_lst); exact rfl)
    | ((with_reducible apply x_idx_tup); exact rfl)
    | ((with_reducible apply x_blt); exact rfl)
    | ((with_reducible apply x_tupQ); exact rfl)
    | ((with_reducible apply x_size); exact Nat.le_of_ble_eq_true rfl))
def isLow (c : Nat) : Bool := decide (97 ≤ c) && decide (c ≤ 122)
def isAl (c : Nat) : Bool := isLow c || (decide (48 ≤ c) && decide (c ≤ 57))
/-- a name: a small letter, up to seven letters and digits behind it -/
def NameOk (s : PySem.Str) : Prop := ∃ c r, s.cps.toList = c :: r ∧ isLow c = true ∧ r.all isAl = true ∧ r.length ≤ 7
abbrev signsS : PySem.Str := ("abcdefghijklmnopqrstuvwxyz0123456789" : PySem.Str)
theorem signs_l : signsS.cps.toList = [97, 98, 99, 100, 101, 102, 103, 104, 105, 106, 107, 108, 109, 110, 111, 112, 113, 114, 115, 116, 117, 118, 119, 120, 121, 122, 48, 49, 50, 51, 52, 53, 54, 55, 56, 57] := by decide +kernel
theorem signs_len : signsS.length ≤ sizeLine := by decide +kernel
theorem atI_take {α : Type} {l : List α} {i : Int} {c : α} {k : Nat} (h0 : 0 ≤ i) (hk : i < k) (e : L2.atI l i = some c) : c ∈ l.take k := by
  obtain ⟨j, rfl⟩ := Int.eq_ofNat_of_zero_le h0
  unfold L2.atI L2.ixN at e
  rw [if_pos h0] at e
  split at e
  · simp at e
    obtain ⟨hj, rfl⟩ := List.getElem?_eq_some_iff.mp e
    exact List.mem_take_iff_getElem.mpr ⟨j, by omega, rfl⟩
  · cases e
theorem sign_at {v : Int} (h0 : 0 ≤ v) (h1 : v < 36) : ∃ c, L2.atI signsS.cps.toList v = some c ∧ isAl c = true := by
  obtain ⟨c, e, hm⟩ := atI_get (l := signsS.cps.toList) h0 (by rw [signs_l]; simpa using h1)
  refine ⟨c, e, ?_⟩
  rw [signs_l] at hm
  have : ∀ c ∈ [97, 98, 99, 100, 101, 102, 103, 104, 105, 106, 107, 108, 109, 110, 111, 112, 113, 114, 115, 116, 117, 118, 119, 120, 121, 122, 48, 49, 50, 51, 52, 53, 54, 55, 56, 57], isAl c = true := by decide
  exact this c hm
theorem letter_at {v : Int} (h0 : 0 ≤ v) (h1 : v < 26) : ∃ c, L2.atI signsS.cps.toList v = some c ∧ isLow c = true := by
  obtain ⟨c, e, hm⟩ := atI_get (l := signsS.cps.toList) h0 (by rw [signs_l]; simp; omega)
  refine ⟨c, e, ?_⟩
  have := atI_take (k := 26) h0 (by omega) e
  rw [signs_l] at this
  have h : ∀ c ∈ [97, 98, 99, 100, 101, 102, 103, 104, 105, 106, 107, 108, 109, 110, 111, 112, 113, 114, 115, 116, 117, 118, 119, 120, 121, 122], isLow c = true := by decide
  exact h c this
theorem NameOk.len {s : PySem.Str} (h : NameOk s) : 1 ≤ s.length ∧ s.length ≤ 8 := by
  obtain ⟨c, r, e, _, _, hl⟩ := h
  have : s.length = s.cps.toList.length := rfl
  rw [this, e, List.length_cons]
  omega
theorem name_one {c : Nat} (h : isLow c = true) : NameOk ⟨#[c]⟩ := ⟨c, [], rfl, h, rfl, by simp⟩
theorem cps_app (a b : PySem.Str) : (a ++ b).cps.toList = a.cps.toList ++ b.cps.toList := by
  show (a.cps ++ b.cps).toList = _
  simp
theorem name_app {s : PySem.Str} {c : Nat} (h : NameOk s) (hl : s.length ≤ 7) (hc : isAl c = true) : NameOk (s ++ ⟨#[c]⟩) := by
  obtain ⟨d, r, e, h1, h2, h3⟩ := h
  refine ⟨d, r ++ [c], by rw [cps_app, e]; rfl, h1, by simp [h2, hc], ?_⟩
  have : s.length = s.cps.toList.length := rfl
  rw [this, e, List.length_cons] at hl
  rw [List.length_append, List.length_singleton]
  omega
def wordsL : List PySem.Str := ["if", "keep", "sell", "at", "seats", "high", "low"]
theorem word_at {v : Int} (h0 : 0 ≤ v) (h1 : v < 7) : ∃ w, L2.atI (wordsL.map Dat.str) v = some (.str w) ∧ NameOk w ∧ w.length ≤ 5 := by
  obtain ⟨w, e, hm⟩ := atI_get (l := wordsL) h0 (by show v < 7; exact h1)
  refine ⟨w, by rw [atI_map, e]; rfl, ?_⟩
  have h : ∀ w ∈ wordsL, NameOk w ∧ w.length ≤ 5 := by
    intro w hw
    simp only [wordsL, List.mem_cons, List.not_mem_nil, or_false] at hw
    rcases hw with rfl | rfl | rfl | rfl | rfl | rfl | rfl
    · exact ⟨⟨105, [102], by decide +kernel, by decide, by decide, by decide⟩, by decide +kernel⟩
    · exact ⟨⟨107, [101, 101, 112], by decide +kernel, by decide, by decide, by decide⟩, by decide +kernel⟩
    · exact ⟨⟨115, [101, 108, 108], by decide +kernel, by decide, by decide, by decide⟩, by decide +kernel⟩
    · exact ⟨⟨97, [116], by decide +kernel, by decide, by decide, by decide⟩, by decide +kernel⟩
    · exact ⟨⟨115, [101, 97, 116, 115], by decide +kernel, by decide, by decide, by decide⟩, by decide +kernel⟩
    · exact ⟨⟨104, [105, 103, 104], by decide +kernel, by decide, by decide, by decide⟩, by decide +kernel⟩
    · exact ⟨⟨108, [111, 119], by decide +kernel, by decide, by decide, by decide⟩, by decide +kernel⟩
  exact h w hm
theorem range_ints (lo : Int) : ∀ n, ∃ is : List Int, rngV lo n = is.map .int ∧ is.length = n
  | 0 => ⟨[], rfl, rfl⟩
  | n + 1 => by
    obtain ⟨is, e, hl⟩ := range_ints (lo + 1) n
    exact ⟨lo :: is, by rw [rngV, e]; rfl, by rw [List.length_cons, hl]⟩
/-- a loop over the images of a list -/
theorem forA {α : Type} (f : α → Dat) {p : Pat} {b : Frm → Option (Out × Frm)} {Q : Out → Frm → Prop} (I : List α → Frm → Prop) (h1 : ∀ a r m, I (a :: r) m → ∃ m1, bindP p (f a) m = some m1 ∧ wS b m1 (turnQ Q fun m2 => I r m2)) (h0 : ∀ m, I [] m → Q .nxt m) (l : List α) (m : Frm) (h : I l m) : wS (forL p b (l.map f)) m Q :=
  wS_forL (fun ds m => ∃ r, ds = r.map f ∧ I r m) (fun d r m hi => by
    obtain ⟨s, e, hi⟩ := hi
    cases s with
    | nil => cases e
    | cons a s =>
      rw [List.map_cons] at e
      cases e
      obtain ⟨m1, e1, w⟩ := h1 a s m hi
      refine ⟨m1, e1, wS_mono w fun o m2 q => ?_⟩
      unfold turnQ at q ⊢
      split at q
      · exact ⟨s, rfl, q⟩
      · exact ⟨s, rfl, q⟩
      · exact q
      · exact q) (fun m hi => by
    obtain ⟨s, e, hi⟩ := hi
    cases s with
    | nil => exact h0 m hi
    | cons a s => cases e) _ _ ⟨l, rfl, h⟩
theorem compA {α : Type} (f : α → Dat) {T : Tab} {C : Calls} {p : Pat} {own : List Nat} {hc : Bool} {cond elt : Ex} {Q : Except Exn (List Dat) → Frm → Prop} (I : List α → List Dat → Frm → Prop)
    (h1 : ∀ a r acc m, I (a :: r) acc m → turnW T C p own hc cond elt (f a) m (fun m3 => I r acc m3) fun x m5 => acc.length < sizeLine ∧ I r (acc ++ [x]) m5) (h0 : ∀ acc m, I [] acc m → Q (.ok acc) m) (l : List α) (acc : List Dat) (m : Frm) (h : I l acc m) :
    wM (compL (turnM p own hc (ev T C cond) (ev T C elt)) (l.map f) acc) m Q :=
  wM_compL (fun ds acc m => ∃ r, ds = r.map f ∧ I r acc m) (fun d ds acc m hi => by
    obtain ⟨s, e, hi⟩ := hi
    cases s with
    | nil => cases e
    | cons a s =>
      rw [List.map_cons] at e
      cases e
      exact turnW_mono (h1 a s acc m hi) (fun m hi => ⟨s, rfl, hi⟩) fun x m hi => ⟨hi.1, s, rfl, hi.2⟩) (fun acc m hi => by
    obtain ⟨s, e, hi⟩ := hi
    cases s with
    | nil => exact h0 acc m hi
    | cons a s => cases e) _ _ _ ⟨l, rfl, h⟩
/-- a comprehension's own slots, wiped and given back -/
class WipeAt (m : Frm) (o : List Nat) (m' : outParam Frm) : Prop where
  eq : wipeF m o = m'
instance wipe0 {m : Frm} : WipeAt m [] m := ⟨rfl⟩
instance wipeS {m m1 m2 : Frm} {i : Nat} {r : List Nat} [h : WipeAt m r m1] [s : SetAt m1 i none m2] : WipeAt m (i :: r) m2 := ⟨by rw [wipeF, h.eq]; exact s.eq⟩
class BackAt (m0 m : Frm) (o : List Nat) (m' : outParam Frm) : Prop where
  eq : backF m0 m o = m'
instance back0 {m0 m : Frm} : BackAt m0 m [] m := ⟨rfl⟩
instance backS {m0 m m1 m2 : Frm} {i : Nat} {r : List Nat} [h : BackAt m0 m r m1] [g : GetAt m0 i none] [s : SetAt m1 i none m2] : BackAt m0 m (i :: r) m2 := ⟨by rw [backF, h.eq, g.eq]; exact s.eq⟩
instance backD {m0 m m1 m2 : Frm} {i : Nat} {d : Dat} {r : List Nat} [h : BackAt m0 m r m1] [g : GetAt m0 i (some (.dat d))] [s : SetAt m1 i (some (.dat d)) m2] : BackAt m0 m (i :: r) m2 := ⟨by rw [backF, h.eq, g.eq]; exact s.eq⟩
theorem x_turnF {T : Tab} {C : Calls} {p : Pat} {own : List Nat} {cond elt : Ex} {d : Dat} {m m1 : Frm} {skip : Frm → Prop} {put : Dat → Frm → Prop} [w : WipeAt m own m1] (h : ∃ m2, bindP p d m1 = some m2 ∧ wM (ev T C elt) m2 (putQ put)) : turnW T C p own false cond elt d m skip put := by
  obtain ⟨m2, e, h⟩ := h
  exact ⟨m2, by rw [w.eq]; exact e, by rw [if_neg (by decide)]; exact h⟩
theorem x_turnT {T : Tab} {C : Calls} {p : Pat} {own : List Nat} {cond elt : Ex} {d : Dat} {m m1 : Frm} {skip : Frm → Prop} {put : Dat → Frm → Prop} [w : WipeAt m own m1] (h : ∃ m2, bindP p d m1 = some m2 ∧ wM (ev T C cond) m2 (cndQ skip fun m3 => wM (ev T C elt) m3 (putQ put))) : turnW T C p own true cond elt d m skip put := by
  obtain ⟨m2, e, h⟩ := h
  exact ⟨m2, by rw [w.eq]; exact e, by rw [if_pos rfl]; exact h⟩
def compQ (Q : Except Exn RV → Frm → Prop) (m1 : Frm) (own : List Nat) : Except Exn (List Dat) → Frm → Prop := fun r m5 => match r with
  | .ok l => Q (.ok (.own (.lst l))) (backF m1 m5 own)
  | .error _ => False
theorem x_compR {Q : Except Exn RV → Frm → Prop} {m1 m5 m' : Frm} {own : List Nat} {l : List Dat} [b : BackAt m1 m5 own m'] (h : Q (.ok (.own (.lst l))) m') : compQ Q m1 own (.ok l) m5 := by
  show Q _ (backF m1 m5 own)
  rw [b.eq]
  exact h
def compP (T : Tab) (C : Calls) (elt : Ex) (p : Pat) (hc : Bool) (cond : Ex) (own : List Nat) (Q : Except Exn RV → Frm → Prop) : List Dat → Frm → Prop := fun ds m1 =>
  ((own.all (fun i => !isOwn m1[i]? && decide (i < m1.length)) && (patIx p).all own.contains) = true) ∧ wM (compL (turnM p own hc (ev T C cond) (ev T C elt)) ds []) m1 (compQ Q m1 own)
theorem x_comp {T : Tab} {C : Calls} {m : Frm} {elt : Ex} {p : Pat} {k : Ik} {it it2 : Ex} {hc : Bool} {cond : Ex} {own : List Nat} {Q : Except Exn RV → Frm → Prop} (h : wM (itM k (ev T C it) (ev T C it2)) m (okQ Q (compP T C elt p hc cond own Q))) : wM (ev T C (.comp elt p k it it2 hc cond own)) m Q := wM_comp h
theorem x_compA {α : Type} (f : α → Dat) {T : Tab} {C : Calls} {m : Frm} {elt : Ex} {p : Pat} {hc : Bool} {cond : Ex} {own : List Nat} {Q : Except Exn RV → Frm → Prop} (I : List α → List Dat → Frm → Prop) (l : List α) (h : (own.all (fun i => !isOwn m[i]? && decide (i < m.length)) && (patIx p).all own.contains) = true) (hi : I l [] m)
    (h1 : ∀ a r acc m, I (a :: r) acc m → turnW T C p own hc cond elt (f a) m (fun m3 => I r acc m3) fun x m5 => acc.length < sizeLine ∧ I r (acc ++ [x]) m5) (h0 : ∀ acc m5, I [] acc m5 → compQ Q m own (.ok acc) m5) : compP T C elt p hc cond own Q (l.map f) m := ⟨h, compA f I h1 h0 l [] m hi⟩
theorem atI0 {α : Type} {d : α} {l : List α} : L2.atI (d :: l) 0 = some d := by
  unfold L2.atI L2.ixN
  simp
theorem four_at {a b c d : Dat} {v : Int} (h0 : 0 ≤ v) (h1 : v < 4) : ∃ x, L2.atI [a, b, c, d] v = some x ∧ (v = 0 ∧ x = a ∨ v = 1 ∧ x = b ∨ v = 2 ∧ x = c ∨ v = 3 ∧ x = d) := by
  have : v = 0 ∨ v = 1 ∨ v = 2 ∨ v = 3 := by omega
  rcases this with rfl | rfl | rfl | rfl
  · exact ⟨a, rfl, Or.inl ⟨rfl, rfl⟩⟩
  · exact ⟨b, rfl, Or.inr (Or.inl ⟨rfl, rfl⟩)⟩
  · exact ⟨c, rfl, Or.inr (Or.inr (Or.inl ⟨rfl, rfl⟩))⟩
  · exact ⟨d, rfl, Or.inr (Or.inr (Or.inr ⟨rfl, rfl⟩))⟩
theorem nodup_le {α : Type} [DecidableEq α] : ∀ {l k : List α}, l.Nodup → (∀ x ∈ l, x ∈ k) → l.length ≤ k.length
  | [], _, _, _ => by simp
  | x :: l, k, hn, hs => by
    rw [List.nodup_cons] at hn
    have hx := hs x (by simp)
    have := nodup_le (k := k.erase x) hn.2 (fun y hy => by
      have hne : y ≠ x := fun e => hn.1 (e ▸ hy)
      exact (List.mem_erase_of_ne hne).mpr (hs y (by simp [hy])))
    rw [List.length_erase_of_mem hx] at this
    have : 0 < k.length := List.length_pos_of_mem hx
    rw [List.length_cons]
    omega
abbrev lettersL : List Nat := [97, 98, 99, 100, 101, 102, 103, 104, 105, 106, 107, 108, 109, 110, 111, 112, 113, 114, 115, 116, 117, 118, 119, 120, 121, 122]
theorem letters_cut : (L2.cutS signsS none (some 26)).cps.toList = lettersL := by decide +kernel
theorem letters_free {ns : List PySem.Str} (h : ns.length < 26) : ¬ ∀ c ∈ lettersL, (⟨#[c]⟩ : PySem.Str) ∈ ns := by
  intro hs
  have : (lettersL.map fun c => (⟨#[c]⟩ : PySem.Str)).length ≤ ns.length := nodup_le (by decide +kernel) (fun x hx => by
    obtain ⟨c, hc, rfl⟩ := List.mem_map.mp hx
    exact hs c hc)
  rw [List.length_map] at this
  have : lettersL.length = 26 := by decide
  omega
def SpNames (C : Calls) (i : Nat) : Prop := ∀ x (z : Int), Src x → 0 ≤ z → z ≤ 24 → ∃ (ns : List PySem.Str) (x' : Dat), Src x' ∧ (ns.length : Int) = z ∧ ns.Nodup ∧ (∀ s ∈ ns, NameOk s) ∧ C i [.own x, .dat (.int z)] = some (.ok (.own (.lst (ns.map .str))), some x')
theorem names_ok {T : Tab} {fuel n i it : Nat} {nn : Bool} {kws : List (Nat × List PySem.Str × List Nat)} (hT : SpTake (callN T fuel n) it) (hf : T.fns[i]? = some ⟨2, 11, true, nn, b_l_names it, kws⟩) : SpNames (callN T fuel (n + 1)) i := by
  intro x z hx h0 h1
  have key : wC (callN T fuel (n + 1)) i [.own x, .dat (.int z)] fun r mo => ∃ (ns : List PySem.Str) (x' : Dat), Src x' ∧ (ns.length : Int) = z ∧ ns.Nodup ∧ (∀ s ∈ ns, NameOk s) ∧ r = .ok (.own (.lst (ns.map .str))) ∧ mo = some x' := by
    refine wC_of (m0 := [some (.own x), some (.dat (.int z)), none, none, none, none, none, none, none, none, none]) hf rfl (by decide) rfl ?_
    unfold b_l_names
    repeat ac_rfl
    refine wS_forL (fun ds m => ∃ (x : Dat) (is : List Int) (ns : List PySem.Str) (y5 y6 y7 y8 y9 : Option Slo), Src x ∧ ds = is.map .int ∧ m = [some (.own x), some (.dat (.int z)), some (.dat (.str signsS)), some (.own (.lst (ns.map .str))), some (.own (.lst (wordsL.map .str))), y5, y6, y7, y8, y9, none] ∧
      ((ns.length + is.length : Nat) : Int) = z ∧ ns.Nodup ∧ (∀ s ∈ ns, NameOk s)) ?_ ?_ _ _ ?_
    · rintro d r m ⟨x, is, ns, y5, y6, y7, y8, y9, hx, hd, rfl, hl, hnd, hok⟩
      cases is with
      | nil => cases hd
      | cons k is =>
        rw [List.map_cons] at hd
        cases hd
        repeat ac_rfl
        obtain ⟨way, x1, w0, w1, hx1, e1⟩ := hT x 4 hx (by decide) (by decide)
        refine x_call0 e1 ?_
        repeat ac_rfl
        obtain ⟨v2, x2, a0, a1, hx2, e2⟩ := hT x1 26 hx1 (by decide) (by decide)
        refine x_call0 e2 ?_
        repeat ac_rfl
        obtain ⟨c, ec, hc⟩ := letter_at a0 a1
        refine x_idx_str signs_len ec ?_
        repeat ac_rfl
        refine x_p ?a ?b
        case' a =>
          intro hw
          repeat ac_rfl
          obtain ⟨v3, x3, b0, b1, hx3, e3⟩ := hT x2 7 hx2 (by decide) (by decide)
          refine x_call0 e3 ?_
          repeat ac_rfl
          obtain ⟨lab, el, hlab, hl5⟩ := word_at b0 b1
          refine x_idx_lst el ?_
          have hl1 : lab.length ≤ 5 ∧ (0 < way → lab.length = 1) := ⟨hl5, fun h => absurd hw (by omega)⟩
        case' b =>
          intro hw
          obtain ⟨x3, hx3, e3⟩ : ∃ x3, Src x3 ∧ x3 = x2 := ⟨x2, hx2, rfl⟩
          rw [← e3]
          obtain ⟨lab, el, hlab, hl1⟩ : ∃ lab : PySem.Str, oneSign c = .str lab ∧ NameOk lab ∧ (lab.length ≤ 5 ∧ (0 < way → lab.length = 1)) := ⟨_, rfl, name_one hc, by show 1 ≤ 5; decide, fun _ => rfl⟩
          rw [el]
        all_goals
          repeat ac_rfl
          obtain ⟨v4, x4, d0, d1, hx4, e4⟩ := hT x3 8 hx3 (by decide) (by decide)
          refine x_call0 e4 ?_
          repeat ac_rfl
          obtain ⟨t, et, ht⟩ := four_at (a := .int 0) (b := .int 0) (c := .int 1) (d := .int v4) w0 w1
          refine x_idx_lst et ?_
          obtain ⟨tn, rfl, ht0, ht1⟩ : ∃ tn : Int, t = .int tn ∧ 0 ≤ tn ∧ lab.length + tn ≤ 8 := by
            rcases ht with ⟨_, rfl⟩ | ⟨_, rfl⟩ | ⟨_, rfl⟩ | ⟨hw2, rfl⟩
            · exact ⟨_, rfl, by decide, by have := hl1.1; omega⟩
            · exact ⟨_, rfl, by decide, by have := hl1.1; omega⟩
            · exact ⟨_, rfl, by decide, by have := hl1.1; omega⟩
            · exact ⟨_, rfl, d0, by have := hl1.2 (by omega); omega⟩
          repeat ac_rfl
          obtain ⟨js, ej, hjl⟩ := range_ints 0 tn.toNat
          rw [ej]
          refine forA Dat.int (fun js m => ∃ (x : Dat) (lab : PySem.Str) (y7 y9 : Option Slo), Src x ∧ m = [some (.own x), some (.dat (.int z)), some (.dat (.str signsS)), some (.own (.lst (ns.map .str))), some (.own (.lst (wordsL.map .str))), some (.dat (.int k)), some (.dat (.int way)), y7, some (.dat (.str lab)), y9, none] ∧ NameOk lab ∧ lab.length + js.length ≤ 8) ?_ ?_ _ _ ⟨_, _, _, _, hx4, rfl, hlab, by rw [hjl]; omega⟩
          · rintro j js m ⟨x, lab, y7, y9, hx, rfl, hlab, hl8⟩
            rw [List.length_cons] at hl8
            repeat ac_rfl
            obtain ⟨v5, x5, f0, f1, hx5, e5⟩ := hT x 36 hx (by decide) (by decide)
            refine x_call0 e5 ?_
            repeat ac_rfl
            obtain ⟨c2, ec2, hc2⟩ := sign_at f0 f1
            refine x_idx_str signs_len ec2 ?_
            repeat ac_rfl
            refine x_lft (bin_add_str (a := lab) (b := ⟨#[c2]⟩) (by show lab.length + 1 ≤ sizeLine; unfold sizeLine; omega)) ?_
            repeat ac_rfl
            refine ⟨x5, _, _, _, hx5, rfl, name_app hlab (by omega) hc2, ?_⟩
            have : (lab ++ (⟨#[c2]⟩ : PySem.Str)).length = lab.length + 1 := by
              show (lab ++ (⟨#[c2]⟩ : PySem.Str)).cps.toList.length = lab.cps.toList.length + 1
              rw [cps_app, List.length_append]
              rfl
            omega
          · rintro m ⟨x, lab, y7, y9, hx, rfl, hlab, hl8⟩
            repeat ac_rfl
            have hlen : ns.length < 26 := by rw [List.length_cons] at hl; omega
            refine x_p (fun hin => ?_) (fun hin => ?_)
            · repeat ac_rfl
              refine x_comp ?_
              repeat ac_rfl
              rw [letters_cut]
              refine x_compA oneSign (fun rest acc m => ∃ (y : Option Slo), m = [some (.own x), some (.dat (.int z)), some (.dat (.str signsS)), some (.own (.lst (ns.map .str))), some (.own (.lst (wordsL.map .str))), some (.dat (.int k)), some (.dat (.int way)), y7, some (.dat (.str lab)), y9, y] ∧ acc.length + rest.length ≤ 26 ∧ (acc = [] → ∀ c ∈ lettersL, c ∈ rest ∨ (⟨#[c]⟩ : PySem.Str) ∈ ns) ∧ (∀ c ∈ rest, isLow c = true) ∧ (∀ d ∈ acc, ∃ c, d = oneSign c ∧ isLow c = true ∧ (⟨#[c]⟩ : PySem.Str) ∉ ns)) _ rfl ⟨none, rfl, by decide, fun _ c hc => Or.inl hc, by decide, by intro d hd; cases hd⟩ ?_ ?_
              · rintro c rest acc m ⟨y, rfl, ha, hb, hc, hd⟩
                rw [List.length_cons] at ha
                refine x_turnT ?_
                repeat ac_rfl
                refine x_map (show cmpV .NotIn (oneSign c) (.lst (ns.map .str)) = some (!decide ((⟨#[c]⟩ : PySem.Str) ∈ ns)) from cmp_ni_strs) ?_
                repeat ac_rfl
                refine x_b (fun hf => ?_) (fun hf => ?_)
                · repeat ac_rfl
                  refine ⟨by unfold sizeLine; omega, _, rfl, by rw [List.length_append, List.length_singleton]; omega, fun e => absurd e (by simp), fun e he => hc e (List.mem_cons_of_mem _ he), fun d h => ?_⟩
                  rcases List.mem_append.mp h with h | h
                  · exact hd d h
                  · rw [List.mem_singleton] at h
                    exact ⟨c, h, hc c (by simp), by simpa using hf⟩
                · refine ⟨_, rfl, by omega, fun e d h => ?_, fun e he => hc e (List.mem_cons_of_mem _ he), hd⟩
                  rcases hb e d h with h | h
                  · rcases List.mem_cons.mp h with rfl | h
                    · exact Or.inr (by simpa using hf)
                    · exact Or.inl h
                  · exact Or.inr h
              · rintro acc m ⟨y, rfl, ha, hb, hc, hd⟩
                refine x_compR ?_
                repeat ac_rfl
                cases acc with
                | nil => exact absurd (fun c h => (hb rfl c h).resolve_left (by simp)) (letters_free hlen)
                | cons d acc =>
                  obtain ⟨c, rfl, hc, hni⟩ := hd d (by simp)
                  refine x_idx_lst (d := oneSign c) atI0 ?_
                  have hlab : NameOk ⟨#[c]⟩ := name_one hc
                  obtain ⟨lab, el, hin⟩ : ∃ lab : PySem.Str, lab = ⟨#[c]⟩ ∧ lab ∉ ns := ⟨_, rfl, hni⟩
                  rw [← el] at hlab
                  rw [show oneSign c = .str lab by rw [el]; rfl]
                  repeat ac_rfl
                  refine x_app2 ?_ ?_
                  · rw [List.length_map]; unfold sizeLine; omega
                  repeat ac_rfl
                  refine ⟨x, is, ns ++ [lab], _, _, _, _, _, hx, rfl, by rw [List.map_append]; rfl, ?_, ?_, ?_⟩
                  · rw [List.length_cons] at hl; rw [List.length_append, List.length_singleton]; omega
                  · rw [List.nodup_append]
                    exact ⟨hnd, by simp, fun a ha b hb e => hin (by rw [List.mem_singleton] at hb; rw [← hb, ← e]; exact ha)⟩
                  · intro s hs
                    rcases List.mem_append.mp hs with h | h
                    · exact hok s h
                    · rw [List.mem_singleton] at h; rw [h]; exact hlab
            · repeat ac_rfl
              refine x_app2 ?_ ?_
              · rw [List.length_map]; unfold sizeLine; omega
              repeat ac_rfl
              refine ⟨x, is, ns ++ [lab], _, _, _, _, _, hx, rfl, by rw [List.map_append]; rfl, ?_, ?_, ?_⟩
              · rw [List.length_cons] at hl; rw [List.length_append, List.length_singleton]; omega
              · rw [List.nodup_append]
                exact ⟨hnd, by simp, fun a ha b hb e => hin (by rw [List.mem_singleton] at hb; rw [← hb, ← e]; exact ha)⟩
              · intro s hs
                rcases List.mem_append.mp hs with h | h
                · exact hok s h
                · rw [List.mem_singleton] at h; rw [h]; exact hlab
    · rintro m ⟨x, is, ns, y5, y6, y7, y8, y9, hx, hd, rfl, hl, hnd, hok⟩
      repeat ac_rfl
      cases is with
      | nil => exact ⟨ns, x, hx, by simpa using hl, hnd, hok, rfl, rfl⟩
      | cons => cases hd
    · obtain ⟨is, e, hl⟩ := range_ints 0 z.toNat
      exact ⟨x, is, [], _, _, _, _, _, hx, e, rfl, by rw [hl, List.length_nil]; omega, List.nodup_nil, (by intro s hs; cases hs)⟩
  obtain ⟨r, mo, e, ns, x', a1, a2, a3, a4, rfl, rfl⟩ := of_wC key
  exact ⟨ns, x', a1, a2, a3, a4, e⟩
end SB.P
set_option maxHeartbeats 0
namespace SB.P
open PySem L2 TL
local macro_rules
  | `(tactic| ac_rfl) => `(tactic| first
    | (with_reducible first
      | refine x_ok ?_
      | refine x_out ?_
      | refine x_true ?_
      | refine x_false ?_
      | refine x_nottrue ?_
      | refine x_notfalse ?_
      | refine x_var ?_
      | refine x_varO ?_
      | refine x_cst ?_
      | refine x_asBl ?_
      | refine wM_evs_nil.mpr ?_
      | refine wM_evs_cons.mpr ?_
      | refine x_look_pdat ?_
      | refine x_look_pown ?_
      | refine x_look_pbor ?_
      | refine x_look_borD ?_
      | refine x_look_dat ?_
      | refine x_look_own ?_
      | refine x_look_bor ?_
      | refine x_frz_pdat ?_
      | refine x_frz_pown ?_
      | refine x_frz_pbor ?_
      | refine x_frz_pborD ?_
      | refine x_frz_dat ?_
      | refine x_frz_bor ?_
      | refine x_frz_borD ?_
      | refine x_frzs_nil ?_
      | refine x_frzs_cons ?_
      | refine x_looks_nil ?_
      | refine x_looks_cons ?_
      | refine wM_bin.mpr ?_
      | refine wM_una.mpr ?_
      | refine wM_cmp.mpr ?_
      | refine wM_chn.mpr ?_
      | refine wM_and.mpr ?_
      | refine wM_or.mpr ?_
      | refine wM_not.mpr ?_
      | refine wM_ife.mpr ?_
      | refine wM_tup.mpr ?_
      | refine wM_lst.mpr ?_
      | refine wM_dic0.mpr ?_
      | refine wM_idx.mpr ?_
      | refine wM_sli.mpr ?_
      | refine wM_partM_nil.mpr ?_
      | refine wM_part_cst.mpr ?_
      | refine wM_part_bin.mpr ?_
      | refine wM_part_var.mpr ?_
      | refine wM_part_una.mpr ?_
      | refine wM_att.mpr ?_
      | refine wM_cal.mpr ?_
      | refine wM_calm.mpr ?_
      | refine wM_mak.mpr ?_
      | refine wM_makv.mpr ?_
      | refine wM_blt.mpr ?_
      | refine wM_isi.mpr ?_
      | refine wM_met.mpr ?_
      | refine wM_kmak.mpr ?_
      | refine wM_kcal.mpr ?_
      | refine wM_omet.mpr ?_
      | refine wM_cmet.mpr ?_
      | refine wM_evs_star.mpr ?_
      | refine x_callMo ?_
      | refine x_app ?_
      | refine x_pop ?_
      | refine x_pop2 ?_
      | refine wM_fmt.mpr ?_
      | refine wM_jst.mpr ?_
      | refine x_ret ?_
      | refine x_some ?_
      | refine wS_seq.mpr ?_
      | refine wS_nil.mpr ?_
      | refine wS_asg.mpr ?_
      | refine wS_par.mpr ?_
      | refine wS_exp.mpr ?_
      | refine wS_ret.mpr ?_
      | refine wS_ife.mpr ?_
      | refine wS_retn.mpr ?_
      | refine wS_pas.mpr ?_
      | refine wS_tryq.mpr ?_
      | refine x_bind_nam ?_
      | refine x_bind_tup ?_
      | refine x_bind_cons ?_
      | refine x_bind_nil ?_
      | refine wS_loop.mpr ?_
      | refine wS_hdr.mpr ?_
      | refine wS_hand_dat.mpr ?_
      | refine wS_hand_own.mpr ?_
      | refine x_hand_bor ?_
      | refine x_hand_borD ?_
      | refine seqQ_nxt.mpr ?_
      | refine seqQ_ret.mpr ?_
      | refine turnQ_nxt.mpr ?_
      | refine turnQ_ret.mpr ?_
      | refine endQ_ret.mpr ?_
      | refine endQ_nxt.mpr ?_
      | refine fstQ_true.mpr ?_
      | refine fstQ_false.mpr ?_
      | refine notExc_nxt.mpr ?_
      | refine notExc_ret.mpr ?_
      | refine wM_asg_nam.mpr ?_
      | refine wM_asg_tup.mpr ?_
      | refine wM_asgs_nil.mpr ?_
      | refine wM_asgs_cons.mpr ?_
      | refine wM_asg_sub.mpr ?_
      | refine x_asg_sub ?_
      | refine wM_asg_att.mpr ?_
      | refine x_sub0 ?_
      | refine x_sub1 ?_
      | refine x_sub2 ?_
      | refine x_set_dat ?_
      | refine x_set_own ?_
      | refine x_set_bor ?_
      | refine wM_hold_dat.mpr ?_
      | refine wM_hold_own.mpr ?_
      | refine wM_hold_bor.mpr ?_
      | refine wM_it_pl.mpr ?_
      | refine wM_it_en.mpr ?_
      | refine wM_it_zi.mpr ?_
      | refine wM_it_r1.mpr ?_
      | refine wM_it_r2.mpr ?_
      | refine putQ_dat.mpr ?_
      | refine putQ_own.mpr ?_
      | refine cndQ_bl.mpr ?_
      | refine x_map cmp_eq_int ?_
      | refine x_map cmp_ne_int ?_
      | refine x_map cmp_eq_str ?_
      | refine x_map cmp_ne_str ?_
      | refine x_map cmp_in_strs ?_
      | refine x_map cmp_in_strsT ?_
      | refine x_map cmp_ni_strs ?_
      | refine x_map cmp_ni_strsT ?_
      | refine x_lft (bin_mod (by first | decide | assumption | omega)) ?_
      | refine x_lft (bin_fdiv (by first | decide | assumption | omega) (by first | decide | assumption | omega)) ?_
      | refine x_lft (bin_mul_l (by decide)) ?_
      | refine x_lft (bin_mul_r (by decide)) ?_
      | refine x_pos (by decide) ?_
      | refine x_neg (by decide) ?_
      | refine x_npos (by decide) ?_
      | refine x_nneg (by decide) ?_
      | refine x_part ?_
      | refine x_star_lst ?_
      | refine x_star_tup ?_
      | refine x_en_lst ?_
      | refine x_en_tup ?_
      | refine x_zi_lst ?_
      | refine x_zi_tup ?_
      | refine x_r1 (by omega) (by omega) ?_
      | refine x_r2 (by omega) (by omega) (by omega) (by omega) ?_
      | refine x_size (by decide) ?_
      | refine x_ifp (by decide) ?_
      | refine x_ifn (by decide) ?_)
    | ((with_reducible apply x_map); exact rfl)
    | ((with_reducible apply x_lft); exact rfl)
    | ((with_reducible apply x_idx_lst); exact rfl)
    | ((with_reducible apply x_idx_tup); exact rfl)
    | ((with_reducible apply x_blt); exact rfl)
    | ((with_reducible apply x_tupQ); exact rfl)
    | ((with_reducible apply x_size); exact Nat.le_of_ble_eq_true rfl))
/-- a part: a name or a written number -/
inductive Pt where
  | nm (s : PySem.Str)
  | nu (n : Nat)
def Pt.dat : Pt → Dat
  | .nm s => .str s
  | .nu n => .int n
def PtOk (ns : List PySem.Str) : Pt → Prop
  | .nm s => s ∈ ns
  | .nu n => n ≤ 1000000000000
def SpPiece (C : Calls) (i : Nat) : Prop := ∀ x (ns : List PySem.Str), Src x → 0 < ns.length → ns.length < 1000 → ∃ p x', Src x' ∧ PtOk ns p ∧ C i [.own x, .dat (.lst (ns.map .str))] = some (.ok (.dat p.dat), some x')
theorem six_at {v : Int} (h0 : 0 ≤ v) (h1 : v < 6) : ∃ n : Int, L2.atI [.int 10, .int 10, .int 10, .int 100, .int 1000000, .int 3] v = some (Dat.int n) ∧ 0 < n ∧ n ≤ 1000000 := by
  have : v = 0 ∨ v = 1 ∨ v = 2 ∨ v = 3 ∨ v = 4 ∨ v = 5 := by omega
  rcases this with rfl | rfl | rfl | rfl | rfl | rfl <;> exact ⟨_, rfl, by decide, by decide⟩
theorem piece_ok {T : Tab} {fuel n i it : Nat} {nn : Bool} {kws : List (Nat × List PySem.Str × List Nat)} (hT : SpTake (callN T fuel n) it) (hf : T.fns[i]? = some ⟨2, 4, true, nn, b_l_piece it, kws⟩) : SpPiece (callN T fuel (n + 1)) i := by
  intro x ns hx h0 h1
  have key : wC (callN T fuel (n + 1)) i [.own x, .dat (.lst (ns.map .str))] fun r mo => ∃ p x', Src x' ∧ PtOk ns p ∧ r = .ok (.dat p.dat) ∧ mo = some x' := by
    refine wC_of (m0 := [some (.own x), some (.dat (.lst (ns.map .str))), none, none]) hf rfl (by decide) rfl ?_
    unfold b_l_piece
    repeat ac_rfl
    obtain ⟨v, x1, w0, w1, hx1, e1⟩ := hT x 4 hx (by decide) (by decide)
    refine x_call0 e1 ?_
    repeat ac_rfl
    refine x_p (fun hv => ?_) (fun hv => ?_)
    · repeat ac_rfl
      obtain ⟨v, x2, w0, w1, hx2, e2⟩ := hT x1 ((ns.map Dat.str).length : Nat) hx1 (by rw [List.length_map]; omega) (by rw [List.length_map]; omega)
      rw [List.length_map] at w1
      refine x_call0 e2 ?_
      obtain ⟨s, e, hs⟩ := atI_get w0 w1
      repeat ac_rfl
      refine x_idx_lst (d := .str s) (by rw [atI_map, e]; rfl) ?_
      repeat ac_rfl
      exact ⟨.nm s, x2, hx2, hs, rfl, rfl⟩
    · repeat ac_rfl
      obtain ⟨v, x2, w0, w1, hx2, e2⟩ := hT x1 6 hx1 (by decide) (by decide)
      refine x_call0 e2 ?_
      repeat ac_rfl
      obtain ⟨t, et, t0, t1⟩ := six_at w0 w1
      refine x_idx_lst et ?_
      repeat ac_rfl
      obtain ⟨u, x3, u0, u1, hx3, e3⟩ := hT x2 t hx2 t0 (by omega)
      refine x_call0 e3 ?_
      repeat ac_rfl
      refine x_p (fun hv => ?_) (fun hv => ?_)
      · repeat ac_rfl
        exact ⟨.nu (1000000000000 - u).toNat, x3, hx3, by show (1000000000000 - u).toNat ≤ _; omega, by show _ = Except.ok (RV.dat (.int ((1000000000000 - u).toNat : Nat))); rw [show (((1000000000000 - u).toNat : Nat) : Int) = 1000000000000 - u by omega]; rfl, rfl⟩
      · repeat ac_rfl
        exact ⟨.nu u.toNat, x3, hx3, by show u.toNat ≤ _; omega, by show _ = Except.ok (RV.dat (.int (u.toNat : Nat))); rw [show ((u.toNat : Nat) : Int) = u by omega], rfl⟩
  obtain ⟨r, mo, e, p, x', a1, a2, rfl, rfl⟩ := of_wC key
  exact ⟨p, x', a1, a2, e⟩
/-- a line: its name, high or low, its rank, its parts -/
structure Ln where
  nm : PySem.Str
  hi : Bool
  k : Nat
  ps : List Pt
def wordT (hi : Bool) : PySem.Str := if hi then "high" else "low"
def Ln.dat (l : Ln) : Dat := .tup [.str l.nm, .str (wordT l.hi), .int (l.k : Nat), .lst (l.ps.map Pt.dat)]
structure LnOk (ns : List PySem.Str) (l : Ln) : Prop where
  k1 : 1 ≤ l.k
  k2 : l.k ≤ l.ps.length
  le : l.ps.length ≤ 6
  ok : ∀ p ∈ l.ps, PtOk ns p
def SpLine (C : Calls) (i : Nat) : Prop := ∀ x nm (ns ss : List PySem.Str), Src x → 0 < ns.length → ns.length < 1000 → 0 < ss.length → ss.length ≤ 4 → (∀ s ∈ ss, s ∈ ns) → ∃ (l : Ln) (x' : Dat), Src x' ∧ LnOk ns l ∧ l.nm = nm ∧ C i [.own x, .dat (.str nm), .dat (.lst (ns.map .str)), .dat (.lst (ss.map .str))] = some (.ok (.dat l.dat), some x')
theorem two_at {a b : Dat} {v : Int} (h0 : 0 ≤ v) (h1 : v < 2) : L2.atI [a, b] v = some (if v = 0 then a else b) := by
  have : v = 0 ∨ v = 1 := by omega
  rcases this with rfl | rfl <;> rfl
theorem line_ok {T : Tab} {fuel n i it ip : Nat} {nn : Bool} {kws : List (Nat × List PySem.Str × List Nat)} (hT : SpTake (callN T fuel n) it) (hP : SpPiece (callN T fuel n) ip) (hf : T.fns[i]? = some ⟨4, 6, true, nn, b_l_line it ip, kws⟩) : SpLine (callN T fuel (n + 1)) i := by
  intro x nm ns ss hx h0 h1 h2 h3 h4
  have key : wC (callN T fuel (n + 1)) i [.own x, .dat (.str nm), .dat (.lst (ns.map .str)), .dat (.lst (ss.map .str))] fun r mo => ∃ (l : Ln) (x' : Dat), Src x' ∧ LnOk ns l ∧ l.nm = nm ∧ r = .ok (.dat l.dat) ∧ mo = some x' := by
    refine wC_of (m0 := [some (.own x), some (.dat (.str nm)), some (.dat (.lst (ns.map .str))), some (.dat (.lst (ss.map .str))), none, none]) hf rfl (by decide) rfl ?_
    unfold b_l_line
    repeat ac_rfl
    refine x_comp ?_
    repeat ac_rfl
    obtain ⟨v, x1, w0, w1, hx1, e1⟩ := hT x 6 hx (by decide) (by decide)
    refine x_call0 e1 ?_
    repeat ac_rfl
    obtain ⟨is, ei, hil⟩ := range_ints 0 (1 + v).toNat
    rw [ei]
    refine x_compA Dat.int (fun rest acc m => ∃ (x : Dat) (ps : List Pt) (y : Option Slo), m = [some (.own x), some (.dat (.str nm)), some (.dat (.lst (ns.map .str))), some (.dat (.lst (ss.map .str))), none, y] ∧ Src x ∧ acc = ps.map Pt.dat ∧ ps.length + rest.length = (1 + v).toNat ∧ ∀ p ∈ ps, PtOk ns p) _ rfl ⟨x1, [], none, rfl, hx1, rfl, by rw [hil, List.length_nil]; omega, by intro p hp; cases hp⟩ ?_ ?_
    · rintro a rest acc m ⟨x, ps, y, rfl, hx, rfl, hl, hp⟩
      rw [List.length_cons] at hl
      refine x_turnF ?_
      repeat ac_rfl
      obtain ⟨p, x2, hx2, hp2, e2⟩ := hP x ns hx h0 h1
      refine x_call0 e2 ?_
      repeat ac_rfl
      refine ⟨by rw [List.length_map]; unfold sizeLine; omega, x2, ps ++ [p], _, rfl, hx2, by rw [List.map_append]; rfl, by rw [List.length_append, List.length_singleton]; omega, fun q hq => ?_⟩
      rcases List.mem_append.mp hq with h | h
      · exact hp q h
      · rw [List.mem_singleton] at h; rw [h]; exact hp2
    · rintro acc m ⟨x, ps, y, rfl, hx, rfl, hl, hp⟩
      rw [List.length_nil] at hl
      refine x_compR ?_
      repeat ac_rfl
      obtain ⟨v2, x2, b0, b1, hx2, e2⟩ := hT x 3 hx (by decide) (by decide)
      refine x_call0 e2 ?_
      repeat ac_rfl
      refine x_p ?caA ?caB
      case' caA =>
        intro hv
        obtain ⟨qs, eq, hq1, hq2, hq3⟩ : ∃ qs : List Pt, ss.map Dat.str = qs.map Pt.dat ∧ 1 ≤ qs.length ∧ qs.length ≤ 6 ∧ ∀ p ∈ qs, PtOk ns p := ⟨ss.map Pt.nm, by rw [List.map_map]; rfl, by rw [List.length_map]; omega, by rw [List.length_map]; omega, by
          intro p hp
          obtain ⟨s, hs, rfl⟩ := List.mem_map.mp hp
          exact h4 s hs⟩
        rw [eq]
      case' caB =>
        intro hv
        obtain ⟨qs, eq, hq1, hq2, hq3⟩ : ∃ qs : List Pt, ps.map Pt.dat = qs.map Pt.dat ∧ 1 ≤ qs.length ∧ qs.length ≤ 6 ∧ ∀ p ∈ qs, PtOk ns p := ⟨ps, rfl, by omega, by omega, hp⟩
        rw [eq]
      all_goals
        repeat ac_rfl
        obtain ⟨v3, x3, c0, c1, hx3, e3⟩ := hT x2 2 hx2 (by decide) (by decide)
        refine x_call0 e3 ?_
        repeat ac_rfl
        refine x_idx_lst (two_at c0 c1) ?_
        repeat ac_rfl
        obtain ⟨v4, x4, d0, d1, hx4, e4⟩ := hT x3 ((qs.map Pt.dat).length : Nat) hx3 (by rw [List.length_map]; omega) (by rw [List.length_map]; omega)
        rw [List.length_map] at d1
        refine x_call0 e4 ?_
        repeat ac_rfl
        refine ⟨⟨nm, decide (v3 = 0), (1 + v4).toNat, qs⟩, x4, hx4, ⟨by show 1 ≤ (1 + v4).toNat; omega, by show (1 + v4).toNat ≤ qs.length; omega, hq2, hq3⟩, rfl, ?_, rfl⟩
        show _ = Except.ok (RV.dat (.tup [_, _, .int (((1 + v4).toNat : Nat) : Int), _]))
        rw [show (((1 + v4).toNat : Nat) : Int) = 1 + v4 by omega]
        by_cases hv3 : v3 = 0 <;> simp [hv3, wordT]
  obtain ⟨r, mo, e, l, x', a1, a2, a3, rfl, rfl⟩ := of_wC key
  exact ⟨l, x', a1, a2, a3, e⟩
/-- a row: its condition, its seller and its part -/
structure Rw where
  cond : Option (Pt × Bool × Pt)
  sale : Option (Pt × Pt)
def lessT (b : Bool) : PySem.Str := if b then "<" else "<="
def condD : Option (Pt × Bool × Pt) → Dat
  | none => .non
  | some (p, b, q) => .tup [p.dat, .str (lessT b), q.dat]
def whoD : Option (Pt × Pt) → Dat
  | none => .non
  | some (w, _) => w.dat
def atD : Option (Pt × Pt) → Dat
  | none => .non
  | some (_, p) => p.dat
def Rw.dat (r : Rw) : Dat := .tup [condD r.cond, whoD r.sale, atD r.sale]
def WhOk (ss : List PySem.Str) : Pt → Prop
  | .nm s => s ∈ ss
  | .nu k => 1 ≤ k ∧ k ≤ ss.length
structure RwOk (ns ss : List PySem.Str) (r : Rw) : Prop where
  cond : ∀ p b q, r.cond = some (p, b, q) → PtOk ns p ∧ PtOk ns q
  sale : ∀ w p, r.sale = some (w, p) → WhOk ss w ∧ PtOk ns p
def SpRow (C : Calls) (i : Nat) : Prop := ∀ x b (ns ss : List PySem.Str), Src x → 0 < ns.length → ns.length < 1000 → 0 < ss.length → ss.length ≤ 4 → ∃ (r : Rw) (x' : Dat), Src x' ∧ RwOk ns ss r ∧ (r.cond = none ↔ b = true) ∧ C i [.own x, .dat (.bl b), .dat (.lst (ns.map .str)), .dat (.lst (ss.map .str))] = some (.ok (.dat r.dat), some x')
theorem is_pt {p : Pt} : cmpV .Is p.dat .non = some false := by cases p <;> rfl
theorem five_at {a b c d e : Dat} {v : Int} (h0 : 0 ≤ v) (h1 : v < 5) : ∃ x, L2.atI [a, b, c, d, e] v = some x ∧ (x = a ∨ x = b ∨ x = c ∨ x = d ∨ x = e) := by
  have : v = 0 ∨ v = 1 ∨ v = 2 ∨ v = 3 ∨ v = 4 := by omega
  rcases this with rfl | rfl | rfl | rfl | rfl
  · exact ⟨a, rfl, Or.inl rfl⟩
  · exact ⟨b, rfl, Or.inr (Or.inl rfl)⟩
  · exact ⟨c, rfl, Or.inr (Or.inr (Or.inl rfl))⟩
  · exact ⟨d, rfl, Or.inr (Or.inr (Or.inr (Or.inl rfl)))⟩
  · exact ⟨e, rfl, Or.inr (Or.inr (Or.inr (Or.inr rfl)))⟩
theorem row_ok {T : Tab} {fuel n i it ip : Nat} {nn : Bool} {kws : List (Nat × List PySem.Str × List Nat)} (hT : SpTake (callN T fuel n) it) (hP : SpPiece (callN T fuel n) ip) (hf : T.fns[i]? = some ⟨4, 9, true, nn, b_l_row ip it, kws⟩) : SpRow (callN T fuel (n + 1)) i := by
  intro x b ns ss hx h0 h1 h2 h3
  have key : wC (callN T fuel (n + 1)) i [.own x, .dat (.bl b), .dat (.lst (ns.map .str)), .dat (.lst (ss.map .str))] fun r mo => ∃ (l : Rw) (x' : Dat), Src x' ∧ RwOk ns ss l ∧ (l.cond = none ↔ b = true) ∧ r = .ok (.dat l.dat) ∧ mo = some x' := by
    refine wC_of (m0 := [some (.own x), some (.dat (.bl b)), some (.dat (.lst (ns.map .str))), some (.dat (.lst (ss.map .str))), none, none, none, none, none]) hf rfl (by decide) rfl ?_
    unfold b_l_row
    repeat ac_rfl
    obtain ⟨v, x1, w0, w1, hx1, e1⟩ := hT x 5 hx (by decide) (by decide)
    refine x_call0 e1 ?_
    repeat ac_rfl
    obtain ⟨u, x2, u0, u1, hx2, e2⟩ := hT x1 ((ss.map Dat.str).length : Nat) hx1 (by rw [List.length_map]; omega) (by rw [List.length_map]; omega)
    rw [List.length_map] at u1
    refine x_call0 e2 ?_
    repeat ac_rfl
    obtain ⟨s, es, hs⟩ := atI_get u0 u1
    refine x_idx_lst (d := .str s) (by rw [atI_map, es]; rfl) ?_
    repeat ac_rfl
    obtain ⟨d, ed, hd⟩ := five_at (a := .non) (b := .int 1) (c := .int 1) (d := .int (1 + u)) (e := .str s) w0 w1
    refine x_idx_lst ed ?_
    repeat ac_rfl
    have hd2 : d = .non ∨ ∃ w : Pt, d = w.dat ∧ WhOk ss w := by
      rcases hd with h | h | h | h | h
      · exact Or.inl h
      · exact Or.inr ⟨.nu 1, h, Nat.le_refl _, h2⟩
      · exact Or.inr ⟨.nu 1, h, Nat.le_refl _, h2⟩
      · exact Or.inr ⟨.nu (1 + u).toNat, by rw [h]; show _ = Dat.int (((1 + u).toNat : Nat) : Int); rw [show (((1 + u).toNat : Nat) : Int) = 1 + u by omega], by omega, by omega⟩
      · exact Or.inr ⟨.nm s, h, hs⟩
    refine (Or.elim hd2 ?caA ?caB)
    case' caA =>
      rintro rfl
      repeat ac_rfl
      obtain ⟨sale, ew, ea, hsale⟩ : ∃ sale : Option (Pt × Pt), Dat.non = whoD sale ∧ Dat.non = atD sale ∧ ∀ w p, sale = some (w, p) → WhOk ss w ∧ PtOk ns p := ⟨none, rfl, rfl, by intro w p h; cases h⟩
      obtain ⟨x3, hx3, e3⟩ : ∃ x3, Src x3 ∧ x3 = x2 := ⟨x2, hx2, rfl⟩
      rw [← e3]
    case' caB =>
      rintro ⟨w, rfl, hw⟩
      repeat ac_rfl
      refine x_ifn (by cases w <;> exact Bool.false_ne_true) ?_
      repeat ac_rfl
      obtain ⟨p, x3, hx3, hp, e3⟩ := hP x2 ns hx2 h0 h1
      refine x_call0 e3 ?_
      repeat ac_rfl
      obtain ⟨sale, ew, ea, hsale⟩ : ∃ sale : Option (Pt × Pt), w.dat = whoD sale ∧ p.dat = atD sale ∧ ∀ w p, sale = some (w, p) → WhOk ss w ∧ PtOk ns p := ⟨some (w, p), rfl, rfl, by intro w p h; cases h; exact ⟨hw, hp⟩⟩
    all_goals
      cases b with
      | true =>
        repeat ac_rfl
        exact ⟨⟨none, sale⟩, x3, hx3, ⟨fun p b q h => (by cases h), hsale⟩, by simp, by unfold Rw.dat; rw [← ew, ← ea]; rfl, rfl⟩
      | false =>
        repeat ac_rfl
        obtain ⟨p1, x4, hx4, hp1, e4⟩ := hP x3 ns hx3 h0 h1
        refine x_call0 e4 ?_
        repeat ac_rfl
        obtain ⟨v5, x5, c0, c1, hx5, e5⟩ := hT x4 2 hx4 (by decide) (by decide)
        refine x_call0 e5 ?_
        repeat ac_rfl
        refine x_idx_lst (two_at c0 c1) ?_
        repeat ac_rfl
        obtain ⟨p2, x6, hx6, hp2, e6⟩ := hP x5 ns hx5 h0 h1
        refine x_call0 e6 ?_
        repeat ac_rfl
        refine ⟨⟨some (p1, decide (v5 = 0), p2), sale⟩, x6, hx6, ⟨fun p b q h => (by cases h; exact ⟨hp1, hp2⟩), hsale⟩, by simp, ?_, rfl⟩
        unfold Rw.dat
        rw [← ew, ← ea]
        by_cases hv : v5 = 0 <;> simp [hv, condD, lessT]
  obtain ⟨r, mo, e, l, x', a1, a2, a3, rfl, rfl⟩ := of_wC key
  exact ⟨l, x', a1, a2, a3, e⟩
end SB.P
set_option maxHeartbeats 0
namespace SB.P
open PySem L2 TL
local macro_rules
  | `(tactic| ac_rfl) => `(tactic| first
    | (with_reducible first
      | refine x_ok ?_
      | refine x_out ?_
      | refine x_true ?_
      | refine x_false ?_
      | refine x_nottrue ?_
      | refine x_notfalse ?_
      | refine x_var ?_
      | refine x_varO ?_
      | refine x_cst ?_
      | refine x_asBl ?_
      | refine wM_evs_nil.mpr ?_
      | refine wM_evs_cons.mpr ?_
      | refine x_look_pdat ?_
      | refine x_look_pown ?_
      | refine x_look_pbor ?_
      | refine x_look_borD ?_
      | refine x_look_dat ?_
      | refine x_look_own ?_
      | refine x_look_bor ?_
      | refine x_frz_pdat ?_
      | refine x_frz_pown ?_
      | refine x_frz_pbor ?_
      | refine x_frz_pborD ?_
      | refine x_frz_dat ?_
      | refine x_frz_bor ?_
      | refine x_frz_borD ?_
      | refine x_frzs_nil ?_
      | refine x_frzs_cons ?_
      | refine x_looks_nil ?_
      | refine x_looks_cons ?_
      | refine wM_bin.mpr ?_
      | refine wM_una.mpr ?_
      | refine wM_cmp.mpr ?_
      | refine wM_chn.mpr ?_
      | refine wM_and.mpr ?_
      | refine wM_or.mpr ?_
      | refine wM_not.mpr ?_
      | refine wM_ife.mpr ?_
      | refine wM_tup.mpr ?_
      | refine wM_lst.mpr ?_
      | refine wM_dic0.mpr ?_
      | refine wM_idx.mpr ?_
      | refine wM_sli.mpr ?_
      | refine wM_partM_nil.mpr ?_
      | refine wM_part_cst.mpr ?_
      | refine wM_part_bin.mpr ?_
      | refine wM_part_var.mpr ?_
      | refine wM_part_una.mpr ?_
      | refine wM_att.mpr ?_
      | refine wM_cal.mpr ?_
      | refine wM_calm.mpr ?_
      | refine wM_mak.mpr ?_
      | refine wM_makv.mpr ?_
      | refine wM_blt.mpr ?_
      | refine wM_isi.mpr ?_
      | refine wM_met.mpr ?_
      | refine wM_kmak.mpr ?_
      | refine wM_kcal.mpr ?_
      | refine wM_omet.mpr ?_
      | refine wM_cmet.mpr ?_
      | refine wM_evs_star.mpr ?_
      | refine x_callMo ?_
      | refine x_app ?_
      | refine x_pop ?_
      | refine x_pop2 ?_
      | refine wM_fmt.mpr ?_
      | refine wM_jst.mpr ?_
      | refine x_ret ?_
      | refine x_some ?_
      | refine wS_seq.mpr ?_
      | refine wS_nil.mpr ?_
      | refine wS_asg.mpr ?_
      | refine wS_par.mpr ?_
      | refine wS_exp.mpr ?_
      | refine wS_ret.mpr ?_
      | refine wS_ife.mpr ?_
      | refine wS_retn.mpr ?_
      | refine wS_pas.mpr ?_
      | refine wS_tryq.mpr ?_
      | refine x_bind_nam ?_
      | refine x_bind_tup ?_
      | refine x_bind_cons ?_
      | refine x_bind_nil ?_
      | refine wS_loop.mpr ?_
      | refine wS_hdr.mpr ?_
      | refine wS_hand_dat.mpr ?_
      | refine wS_hand_own.mpr ?_
      | refine x_hand_bor ?_
      | refine x_hand_borD ?_
      | refine seqQ_nxt.mpr ?_
      | refine seqQ_ret.mpr ?_
      | refine turnQ_nxt.mpr ?_
      | refine turnQ_ret.mpr ?_
      | refine endQ_ret.mpr ?_
      | refine endQ_nxt.mpr ?_
      | refine fstQ_true.mpr ?_
      | refine fstQ_false.mpr ?_
      | refine notExc_nxt.mpr ?_
      | refine notExc_ret.mpr ?_
      | refine wM_asg_nam.mpr ?_
      | refine wM_asg_tup.mpr ?_
      | refine wM_asgs_nil.mpr ?_
      | refine wM_asgs_cons.mpr ?_
      | refine wM_asg_sub.mpr ?_
      | refine x_asg_sub ?_
      | refine wM_asg_att.mpr ?_
      | refine x_sub0 ?_
      | refine x_sub1 ?_
      | refine x_sub2 ?_
      | refine x_set_dat ?_
      | refine x_set_own ?_
      | refine x_set_bor ?_
      | refine wM_hold_dat.mpr ?_
      | refine wM_hold_own.mpr ?_
      | refine wM_hold_bor.mpr ?_
      | refine wM_it_pl.mpr ?_
      | refine wM_it_en.mpr ?_
      | refine wM_it_zi.mpr ?_
      | refine wM_it_r1.mpr ?_
      | refine wM_it_r2.mpr ?_
      | refine putQ_dat.mpr ?_
      | refine putQ_own.mpr ?_
      | refine cndQ_bl.mpr ?_
      | refine x_map cmp_eq_int ?_
      | refine x_map cmp_ne_int ?_
      | refine x_map cmp_eq_str ?_
      | refine x_map cmp_ne_str ?_
      | refine x_map cmp_in_strs ?_
      | refine x_map cmp_in_strsT ?_
      | refine x_map cmp_ni_strs ?_
      | refine x_map cmp_ni_strsT ?_
      | refine x_lft (bin_mod (by first | decide | assumption | omega)) ?_
      | refine x_lft (bin_fdiv (by first | decide | assumption | omega) (by first | decide | assumption | omega)) ?_
      | refine x_lft (bin_mul_l (by decide)) ?_
      | refine x_lft (bin_mul_r (by decide)) ?_
      | refine x_pos (by decide) ?_
      | refine x_neg (by decide) ?_
      | refine x_npos (by decide) ?_
      | refine x_nneg (by decide) ?_
      | refine x_part ?_
      | refine x_star_lst ?_
      | refine x_star_tup ?_
      | refine x_en_lst ?_
      | refine x_en_tup ?_
      | refine x_zi_lst ?_
      | refine x_zi_tup ?_
      | refine x_r1 (by omega) (by omega) ?_
      | refine x_r2 (by omega) (by omega) (by omega) (by omega) ?_
      | refine x_size (by decide) ?_
      | refine x_ifp (by decide) ?_
      | refine x_ifn (by decide) ?_)
    | ((with_reducible apply x_map); exact rfl)
    | ((with_reducible apply x_lft); exact rfl)
    | ((with_reducible apply x_idx_lst); exact rfl)
    | ((with_reducible apply x_idx_tup); exact rfl)
    | ((with_reducible apply x_blt); exact rfl)
    | ((with_reducible apply x_tupQ); exact rfl)
    | ((with_reducible apply x_size); exact Nat.le_of_ble_eq_true rfl))
theorem cutD_take {l : List Dat} {k : Int} (h : 0 ≤ k) : cutD l none (some k) = l.take k.toNat := by
  obtain ⟨j, rfl⟩ := Int.eq_ofNat_of_zero_le h
  unfold cutD
  rw [HT.sIx_none, HT.sIx_nat, List.drop_zero, Nat.sub_zero, Int.toNat_natCast]
  by_cases hj : j ≤ l.length
  · rw [Nat.min_eq_left hj]
  · rw [Nat.min_eq_right (by omega), List.take_of_length_le (Nat.le_refl _), List.take_of_length_le (by omega)]
theorem rngV_eq : ∀ (n k : Nat), rngV (k : Int) n = (List.range' k n).map fun i : Nat => Dat.int i
  | 0, _ => rfl
  | n + 1, k => by
    rw [rngV, List.range'_succ, List.map_cons, ← rngV_eq n (k + 1)]
    rfl
theorem atI_nat {α : Type} {l : List α} {i : Int} {k : Nat} {a : α} (e : i = k) (h : l[k]? = some a) : L2.atI l i = some a := by
  subst e
  unfold L2.atI L2.ixN
  obtain ⟨hk, _⟩ := List.getElem?_eq_some_iff.mp h
  rw [if_pos (by omega), if_pos (by omega)]
  simpa using h
structure Pl where
  ss : List PySem.Str
  ls : List Ln
  rs : List Rw
def Pl.ns (p : Pl) : List PySem.Str := p.ss ++ p.ls.map Ln.nm
def Pl.dat (p : Pl) : Dat := .lst [.lst (p.ss.map .str), .lst (p.ls.map Ln.dat), .lst (p.rs.map Rw.dat)]
def LinesOk : List PySem.Str → List Ln → Prop
  | _, [] => True
  | ns, l :: r => LnOk ns l ∧ LinesOk (ns ++ [l.nm]) r
theorem lines_app : ∀ {ls : List Ln} {ns : List PySem.Str} {l : Ln}, LinesOk ns ls → LnOk (ns ++ ls.map Ln.nm) l → LinesOk ns (ls ++ [l])
  | [], ns, l, _, h => ⟨by simpa using h, trivial⟩
  | k :: ls, ns, l, h, h2 => ⟨h.1, lines_app h.2 (by simpa using h2)⟩
structure PlOk (p : Pl) : Prop where
  s1 : 1 ≤ p.ss.length
  s2 : p.ss.length ≤ 4
  l2 : p.ls.length ≤ 8
  r1 : 1 ≤ p.rs.length
  r2 : p.rs.length ≤ 6
  nd : p.ns.Nodup
  nok : ∀ s ∈ p.ns, NameOk s
  lok : LinesOk p.ss p.ls
  rok : ∀ r ∈ p.rs, RwOk p.ns p.ss r
  last : ∀ (i : Nat) (r : Rw), p.rs[i]? = some r → (r.cond = none ↔ i + 1 = p.rs.length)
def SpPlan (C : Calls) (i : Nat) : Prop := ∀ x (a b c : Nat), Src x → 1 ≤ a → a ≤ 4 → b ≤ 8 → 1 ≤ c → c ≤ 6 → ∃ (p : Pl) (x' : Dat), Src x' ∧ PlOk p ∧ C i [.own x, .dat (.int a), .dat (.int b), .dat (.int c)] = some (.ok (.own p.dat), some x')
theorem plan_ok {T : Tab} {fuel n i iN iL iR : Nat} {nn : Bool} {kws : List (Nat × List PySem.Str × List Nat)} (hN : SpNames (callN T fuel n) iN) (hL : SpLine (callN T fuel n) iL) (hR : SpRow (callN T fuel n) iR) (hf : T.fns[i]? = some ⟨4, 9, true, nn, b_l_plan iR iL iN, kws⟩) : SpPlan (callN T fuel (n + 1)) i := by
  intro x a b c hx h0 h1 h2 h3 h4
  have key : wC (callN T fuel (n + 1)) i [.own x, .dat (.int a), .dat (.int b), .dat (.int c)] fun r mo => ∃ (p : Pl) (x' : Dat), Src x' ∧ PlOk p ∧ r = .ok (.own p.dat) ∧ mo = some x' := by
    refine wC_of (m0 := [some (.own x), some (.dat (.int a)), some (.dat (.int b)), some (.dat (.int c)), none, none, none, none, none]) hf rfl (by decide) rfl ?_
    unfold b_l_plan
    repeat ac_rfl
    obtain ⟨ns, x1, hx1, hnl, hnd, hnok, e1⟩ := hN x (a + b) hx (by omega) (by omega)
    refine x_call0 e1 ?_
    repeat ac_rfl
    rw [cutD_take (by omega), ← List.map_take]
    simp only [Int.toNat_natCast]
    rw [show rngV 0 b = _ from rngV_eq b 0]
    have hla : (ns.take a).length = a := by rw [List.length_take]; omega
    generalize hss : ns.take a = ss at hla
    refine forA _ (fun rest m => ∃ (x : Dat) (ls : List Ln) (n : Nat) (y6 y7 : Option Slo), m = [some (.own x), some (.dat (.int a)), some (.dat (.int b)), some (.dat (.int c)), some (.own (.lst (ns.map .str))), some (.own (.lst (ls.map Ln.dat))), y6, y7, none] ∧ Src x ∧ (y6 = some (.own (.lst (ss.map .str))) ∨ y6 = some (.dat (.lst (ss.map .str)))) ∧
      rest = List.range' ls.length n ∧ ls.length + n = b ∧ ns.take (a + ls.length) = ss ++ ls.map Ln.nm ∧ LinesOk ss ls) ?_ ?_ _ _ ⟨x1, [], b, _, _, rfl, hx1, Or.inl rfl, rfl, by simp, by simpa using hss, trivial⟩
    · rintro k rest m ⟨x, ls, n, y6, y7, rfl, hx, h6, hr, hlb, htk, hlo⟩
      cases n with
      | zero => cases hr
      | succ n =>
      rw [List.range'_succ] at hr
      cases hr
      have hget : ∃ nm, ns[a + ls.length]? = some nm := ⟨ns[a + ls.length]'(by omega), by rw [List.getElem?_eq_getElem]⟩
      obtain ⟨nm, hget⟩ := hget
      rcases h6 with rfl | rfl
      all_goals
        repeat ac_rfl
        refine x_idx_lst (d := .str nm) (atI_nat (k := a + ls.length) (by omega) (by rw [List.getElem?_map, hget]; rfl)) ?_
        repeat ac_rfl
        rw [cutD_take (by omega), ← List.map_take, show ((a : Int) + (ls.length : Int)).toNat = a + ls.length by omega, htk]
        obtain ⟨l, x2, hx2, hlk, rfl, e2⟩ := hL x nm (ss ++ ls.map Ln.nm) ss hx (by rw [List.length_append]; omega) (by rw [List.length_append, List.length_map]; omega) (by omega) (by omega) (fun s hs => List.mem_append_left _ hs)
        refine x_call0 e2 ?_
        repeat ac_rfl
        refine x_app2 ?_ ?_
        · rw [List.length_map]; unfold sizeLine; omega
        repeat ac_rfl
        refine ⟨x2, ls ++ [l], n, _, _, by rw [List.map_append]; rfl, hx2, Or.inr rfl, by rw [List.length_append]; rfl, by rw [List.length_append, List.length_singleton]; omega, ?_, lines_app hlo hlk⟩
        rw [List.length_append, List.length_singleton, ← Nat.add_assoc, List.take_add_one, htk, hget, List.map_append, ← List.append_assoc]
        rfl
    · rintro m ⟨x, ls, n, y6, y7, rfl, hx, h6, hr, hlb, htk, hlo⟩
      cases n with
      | succ n => rw [List.range'_succ] at hr; cases hr
      | zero =>
      have hns : ns = ss ++ ls.map Ln.nm := by rw [← htk, List.take_of_length_le (by omega)]
      clear hx1 e1 htk
      repeat ac_rfl
      rw [show rngV 0 ((c : Int).toNat) = (List.range' 0 c).map fun i : Nat => Dat.int i from rngV_eq c 0]
      refine forA _ (fun rest m => ∃ (x : Dat) (rs : List Rw) (n : Nat) (y4 y6 y7 : Option Slo), m = [some (.own x), some (.dat (.int a)), some (.dat (.int b)), some (.dat (.int c)), y4, some (.own (.lst (ls.map Ln.dat))), y6, y7, some (.own (.lst (rs.map Rw.dat)))] ∧ Src x ∧ (y6 = some (.own (.lst (ss.map .str))) ∨ y6 = some (.dat (.lst (ss.map .str)))) ∧ (y4 = some (.own (.lst (ns.map .str))) ∨ y4 = some (.dat (.lst (ns.map .str)))) ∧
        rest = List.range' rs.length n ∧ rs.length + n = c ∧ (∀ r ∈ rs, RwOk ns ss r) ∧ ∀ (i : Nat) (r : Rw), rs[i]? = some r → (r.cond = none ↔ i + 1 = c)) ?_ ?_ _ _ ⟨x, [], c, _, _, _, rfl, hx, h6, Or.inl rfl, rfl, by simp, by simp, by simp⟩
      · rintro k rest m ⟨x, rs, n, y4, y6, y7, rfl, hx, h6, h44, hr, hlb2, hrk, hlast⟩
        cases n with
        | zero => cases hr
        | succ n =>
        rw [List.range'_succ] at hr
        cases hr
        rcases h6 with rfl | rfl
        all_goals
          rcases h44 with rfl | rfl
          all_goals
            repeat ac_rfl
            obtain ⟨r, x2, hx2, hrw, hrc, e2⟩ := hR x (decide ((rs.length : Int) = (c : Int) - 1)) ns ss hx (by omega) (by omega) (by omega) (by omega)
            refine x_call0 e2 ?_
            repeat ac_rfl
            refine x_app2 ?_ ?_
            · rw [List.length_map]; unfold sizeLine; omega
            repeat ac_rfl
            refine ⟨x2, rs ++ [r], n, _, _, _, by rw [List.map_append]; rfl, hx2, Or.inr rfl, Or.inr rfl, by rw [List.length_append]; rfl, by rw [List.length_append, List.length_singleton]; omega, ?_, ?_⟩
            · intro q hq
              rcases List.mem_append.mp hq with h | h
              · exact hrk q h
              · rw [List.mem_singleton] at h; rw [h]; exact hrw
            · intro i q hq
              by_cases hi : i < rs.length
              · rw [List.getElem?_append_left hi] at hq
                exact hlast i q hq
              · rw [List.getElem?_append_right (by omega)] at hq
                have : i - rs.length = 0 := by
                  cases hj : i - rs.length with
                  | zero => rfl
                  | succ j => rw [hj] at hq; cases hq
                rw [this] at hq
                cases hq
                rw [hrc, decide_eq_true_eq]
                omega
      · rintro m ⟨x, rs, n, y4, y6, y7, rfl, hx, h6, h44, hr, hlb2, hrk, hlast⟩
        cases n with
        | succ n => rw [List.range'_succ] at hr; cases hr
        | zero =>
        rcases h6 with rfl | rfl
        all_goals
          repeat ac_rfl
          exact ⟨⟨ss, ls, rs⟩, x, hx, ⟨by show 1 ≤ ss.length; omega, by show ss.length ≤ 4; omega, by show ls.length ≤ 8; omega, by show 1 ≤ rs.length; omega, by show rs.length ≤ 6; omega, by show (ss ++ ls.map Ln.nm).Nodup; rw [← hns]; exact hnd, by show ∀ s ∈ ss ++ ls.map Ln.nm, _; rw [← hns]; exact hnok, hlo, by show ∀ r ∈ rs, RwOk (ss ++ ls.map Ln.nm) ss r; rw [← hns]; exact hrk, by intro i r h; rw [hlast i r h]; show _ ↔ i + 1 = rs.length; omega⟩, rfl, rfl⟩
  obtain ⟨r, mo, e, l, x', a1, a2, rfl, rfl⟩ := of_wC key
  exact ⟨l, x', a1, a2, e⟩
end SB.P
set_option maxHeartbeats 0
namespace SB.P
open PySem L2 TL
local macro_rules
  | `(tactic| ac_rfl) => `(tactic| first
    | (with_reducible first
      | refine x_ok ?_
      | refine x_out ?_
      | refine x_true ?_
      | refine x_false ?_
      | refine x_nottrue ?_
      | refine x_notfalse ?_
      | refine x_var ?_
      | refine x_varO ?_
      | refine x_cst ?_
      | refine x_asBl ?_
      | refine wM_evs_nil.mpr ?_
      | refine wM_evs_cons.mpr ?_
      | refine x_look_pdat ?_
      | refine x_look_pown ?_
      | refine x_look_pbor ?_
      | refine x_look_borD ?_
      | refine x_look_dat ?_
      | refine x_look_own ?_
      | refine x_look_bor ?_
      | refine x_frz_pdat ?_
      | refine x_frz_pown ?_
      | refine x_frz_pbor ?_
      | refine x_frz_pborD ?_
      | refine x_frz_dat ?_
      | refine x_frz_bor ?_
      | refine x_frz_borD ?_
      | refine x_frzs_nil ?_
      | refine x_frzs_cons ?_
      | refine x_looks_nil ?_
      | refine x_looks_cons ?_
      | refine wM_bin.mpr ?_
      | refine wM_una.mpr ?_
      | refine wM_cmp.mpr ?_
      | refine wM_chn.mpr ?_
      | refine wM_and.mpr ?_
      | refine wM_or.mpr ?_
      | refine wM_not.mpr ?_
      | refine wM_ife.mpr ?_
      | refine wM_tup.mpr ?_
      | refine wM_lst.mpr ?_
      | refine wM_dic0.mpr ?_
      | refine wM_idx.mpr ?_
      | refine wM_sli.mpr ?_
      | refine wM_partM_nil.mpr ?_
      | refine wM_part_cst.mpr ?_
      | refine wM_part_bin.mpr ?_
      | refine wM_part_var.mpr ?_
      | refine wM_part_una.mpr ?_
      | refine wM_att.mpr ?_
      | refine wM_cal.mpr ?_
      | refine wM_calm.mpr ?_
      | refine wM_mak.mpr ?_
      | refine wM_makv.mpr ?_
      | refine wM_blt.mpr ?_
      | refine wM_isi.mpr ?_
      | refine wM_met.mpr ?_
      | refine wM_kmak.mpr ?_
      | refine wM_kcal.mpr ?_
      | refine wM_omet.mpr ?_
      | refine wM_cmet.mpr ?_
      | refine wM_evs_star.mpr ?_
      | refine x_callMo ?_
      | refine x_app ?_
      | refine x_pop ?_
      | refine x_pop2 ?_
      | refine wM_fmt.mpr ?_
      | refine wM_jst.mpr ?_
      | refine x_ret ?_
      | refine x_some ?_
      | refine wS_seq.mpr ?_
      | refine wS_nil.mpr ?_
      | refine wS_asg.mpr ?_
      | refine wS_par.mpr ?_
      | refine wS_exp.mpr ?_
      | refine wS_ret.mpr ?_
      | refine wS_ife.mpr ?_
      | refine wS_retn.mpr ?_
      | refine wS_pas.mpr ?_
      | refine wS_tryq.mpr ?_
      | refine x_bind_nam ?_
      | refine x_bind_tup ?_
      | refine x_bind_cons ?_
      | refine x_bind_nil ?_
      | refine wS_loop.mpr ?_
      | refine wS_hdr.mpr ?_
      | refine wS_hand_dat.mpr ?_
      | refine wS_hand_own.mpr ?_
      | refine x_hand_bor ?_
      | refine x_hand_borD ?_
      | refine seqQ_nxt.mpr ?_
      | refine seqQ_ret.mpr ?_
      | refine turnQ_nxt.mpr ?_
      | refine turnQ_ret.mpr ?_
      | refine endQ_ret.mpr ?_
      | refine endQ_nxt.mpr ?_
      | refine fstQ_true.mpr ?_
      | refine fstQ_false.mpr ?_
      | refine notExc_nxt.mpr ?_
      | refine notExc_ret.mpr ?_
      | refine wM_asg_nam.mpr ?_
      | refine wM_asg_tup.mpr ?_
      | refine wM_asgs_nil.mpr ?_
      | refine wM_asgs_cons.mpr ?_
      | refine wM_asg_sub.mpr ?_
      | refine x_asg_sub ?_
      | refine wM_asg_att.mpr ?_
      | refine x_sub0 ?_
      | refine x_sub1 ?_
      | refine x_sub2 ?_
      | refine x_set_dat ?_
      | refine x_set_own ?_
      | refine x_set_bor ?_
      | refine wM_hold_dat.mpr ?_
      | refine wM_hold_own.mpr ?_
      | refine wM_hold_bor.mpr ?_
      | refine wM_it_pl.mpr ?_
      | refine wM_it_en.mpr ?_
      | refine wM_it_zi.mpr ?_
      | refine wM_it_r1.mpr ?_
      | refine wM_it_r2.mpr ?_
      | refine putQ_dat.mpr ?_
      | refine putQ_own.mpr ?_
      | refine cndQ_bl.mpr ?_
      | refine x_map cmp_eq_int ?_
      | refine x_map cmp_ne_int ?_
      | refine x_map cmp_eq_str ?_
      | refine x_map cmp_ne_str ?_
      | refine x_map cmp_in_strs ?_
      | refine x_map cmp_in_strsT ?_
      | refine x_map cmp_ni_strs ?_
      | refine x_map cmp_ni_strsT ?_
      | refine x_lft (bin_mod (by first | decide | assumption | omega)) ?_
      | refine x_lft (bin_fdiv (by first | decide | assumption | omega) (by first | decide | assumption | omega)) ?_
      | refine x_lft (bin_mul_l (by decide)) ?_
      | refine x_lft (bin_mul_r (by decide)) ?_
      | refine x_pos (by decide) ?_
      | refine x_neg (by decide) ?_
      | refine x_npos (by decide) ?_
      | refine x_nneg (by decide) ?_
      | refine x_part ?_
      | refine x_star_lst ?_
      | refine x_star_tup ?_
      | refine x_en_lst ?_
      | refine x_en_tup ?_
      | refine x_zi_lst ?_
      | refine x_zi_tup ?_
      | refine x_r1 (by omega) (by omega) ?_
      | refine x_r2 (by omega) (by omega) (by omega) (by omega) ?_
      | refine x_size (by decide) ?_
      | refine x_ifp (by decide) ?_
      | refine x_ifn (by decide) ?_)
    | ((with_reducible apply x_map); exact rfl)
    | ((with_reducible apply x_lft); exact rfl)
    | ((with_reducible apply x_idx_lst); exact rfl)
    | ((with_reducible apply x_idx_tup); exact rfl)
    | ((with_reducible apply x_blt); exact rfl)
    | ((with_reducible apply x_tupQ); exact rfl)
    | ((with_reducible apply x_size); exact Nat.le_of_ble_eq_true rfl))
open TL
theorem len_app (a b : PySem.Str) : (a ++ b).length = a.length + b.length := by rw [len_tl, tl_append, List.length_append, ← len_tl, ← len_tl]
theorem joinL_len (S : List Nat) : ∀ ps : List (List Nat), (joinL S ps).length ≤ (ps.map List.length).sum + ps.length * S.length
  | [] => by simp [joinL]
  | [p] => by simp [joinL]
  | p :: q :: r => by
    have := joinL_len S (q :: r)
    rw [joinL, List.length_append, List.length_append, List.map_cons, List.sum_cons, List.length_cons (a := p), Nat.succ_mul]
    omega
theorem sum_le {B : Nat} : ∀ l : List Nat, (∀ n ∈ l, n ≤ B) → l.sum ≤ l.length * B
  | [], _ => by simp
  | n :: l, h => by
    have := sum_le l fun k hk => h k (List.mem_cons_of_mem _ hk)
    have := h n (by simp)
    rw [List.sum_cons, List.length_cons, Nat.succ_mul]
    omega
theorem join_len {a : PySem.Str} {ys : List PySem.Str} {B : Nat} (h : ∀ y ∈ ys, y.length ≤ B) : (Txt.join a ys).length ≤ ys.length * (B + a.length) := by
  rw [join_eq, len_tl, tl_join]
  have h1 := joinL_len (tl a) (ys.map tl)
  have h2 := sum_le (B := B) ((ys.map tl).map List.length) (by
    intro n hn
    obtain ⟨z, hz, rfl⟩ := List.mem_map.mp hn
    obtain ⟨y, hy, rfl⟩ := List.mem_map.mp hz
    exact h y hy)
  rw [List.length_map, List.length_map] at h2
  rw [List.length_map, ← len_tl] at h1
  rw [Nat.mul_add]
  omega
theorem join_fit {a : PySem.Str} {ys : List PySem.Str} {B : Nat} (h : ∀ y ∈ ys, y.length ≤ B) (hz : ys.length * (B + a.length) ≤ 16777216) : (ys.map (·.length)).sum + ys.length * a.length ≤ 16777216 := by
  have h2 := sum_le (B := B) (ys.map (·.length)) (by
    intro n hn
    obtain ⟨y, hy, rfl⟩ := List.mem_map.mp hn
    exact h y hy)
  rw [List.length_map] at h2
  rw [Nat.mul_add] at hz
  omega
theorem strs_map : ∀ l : List PySem.Str, strsD (l.map .str) = some l
  | [] => rfl
  | s :: r => by rw [List.map_cons, strsD, strs_map r]; rfl
theorem met_join {a : PySem.Str} {ys : List PySem.Str} {B : Nat} (h : ∀ y ∈ ys, y.length ≤ B) (hz : ys.length * (B + a.length) ≤ 16777216) : metV .join (.str a) [.lst (ys.map .str)] = some (.dat (.str (Txt.join a ys))) := by
  show (match strsD (ys.map .str) with
    | some ys => if (ys.map fun y : PySem.Str => y.length).sum + ys.length * a.length ≤ 16777216 then some (RV.dat (.str (Txt.join a ys))) else none
    | none => none) = _
  rw [strs_map]
  dsimp only
  rw [if_pos (join_fit h hz)]
/-! ### texts of a plan -/
def numT (n : Nat) : PySem.Str := Str.ofString (toString (n : Int))
def Pt.txt : Pt → PySem.Str
  | .nm s => s
  | .nu n => numT n
def Ln.txt (l : Ln) : PySem.Str := Txt.join " " (wordT l.hi :: numT l.k :: l.ps.map Pt.txt)
def deedT : Option (Pt × Pt) → PySem.Str
  | none => "keep"
  | some (w, p) => ((("sell " : PySem.Str) ++ w.txt) ++ " at ") ++ p.txt
def Rw.txt (r : Rw) : PySem.Str := match r.cond with
  | none => deedT r.sale
  | some (p, b, q) => Txt.join " " ["if", p.txt, lessT b, q.txt ++ ":", deedT r.sale]
def headT (ss : List PySem.Str) : PySem.Str := Txt.join " " ("seats" :: ss)
def lineT (l : Ln) : PySem.Str := (l.nm ++ " = ") ++ l.txt
def Pl.txt (p : Pl) : PySem.Str := Txt.join "\n" ((headT p.ss :: p.ls.map lineT) ++ p.rs.map Rw.txt)
def PtFit : Pt → Prop
  | .nm s => s.length ≤ 8
  | .nu n => n ≤ 1000000000000
structure LnFit (l : Ln) : Prop where
  nm : l.nm.length ≤ 8
  k : l.k ≤ 6
  le : l.ps.length ≤ 6
  ok : ∀ p ∈ l.ps, PtFit p
structure RwFit (r : Rw) : Prop where
  cond : ∀ p b q, r.cond = some (p, b, q) → PtFit p ∧ PtFit q
  sale : ∀ w p, r.sale = some (w, p) → PtFit w ∧ PtFit p
theorem pt_fit {ns : List PySem.Str} {p : Pt} (hn : ∀ s ∈ ns, NameOk s) (h : PtOk ns p) : PtFit p := by
  cases p with
  | nm s => exact (hn s h).len.2
  | nu n => exact h
theorem wh_fit {ns : List PySem.Str} {p : Pt} (hn : ∀ s ∈ ns, NameOk s) (hl : ns.length ≤ 4) (h : WhOk ns p) : PtFit p := by
  cases p with
  | nm s => exact (hn s h).len.2
  | nu n =>
    have : n ≤ ns.length := h.2
    show n ≤ 1000000000000
    omega
theorem num_len {n : Nat} (h : n ≤ 1000000000000) : (numT n).length ≤ 13 := by
  unfold numT
  rw [len_tl, tl_num]
  exact numL_len (by decide) (by omega)
theorem pt_len {p : Pt} (h : PtFit p) : p.txt.length ≤ 13 := by
  cases p with
  | nm s => exact Nat.le_trans h (by decide)
  | nu n => exact num_len h
theorem num_log {n : Nat} (h : n ≤ 1000000000000) : ((n : Nat) : Int).natAbs.log2 < 1920 := by
  rw [Int.natAbs_natCast]
  by_cases h0 : n = 0
  · subst h0; decide
  · exact Nat.lt_of_lt_of_le ((Nat.log2_lt h0 (k := 40)).mpr (by omega)) (by decide)
section
variable {T : Tab} {C : Calls}
theorem str_pt {rs : List RV} {p : Pt} (h : PtFit p) : bltM T C .str rs [p.dat] = lft (some (.dat (.str p.txt))) := by
  cases p with
  | nm s => rfl
  | nu n => exact bltM_str_int (num_log h)
theorem str_nu {rs : List RV} {n : Nat} (h : n ≤ 1000000000000) : bltM T C .str rs [.int (n : Nat)] = lft (some (.dat (.str (numT n)))) := bltM_str_int (num_log h)
end
/-- a comprehension that makes each item by itself -/
theorem x_compM {α : Type} (f g : α → Dat) (P : Frm → Prop) {T : Tab} {C : Calls} {m : Frm} {elt : Ex} {p : Pat} {cond : Ex} {own : List Nat} {Q : Except Exn RV → Frm → Prop} (l : List α) (h : (own.all (fun i => !isOwn m[i]? && decide (i < m.length)) && (patIx p).all own.contains) = true) (hl : l.length ≤ sizeLine) (hp : P m)
    (h1 : ∀ a ∈ l, ∀ m, P m → turnW T C p own false cond elt (f a) m (fun _ => False) fun x m5 => x = g a ∧ P m5) (h0 : ∀ m5, P m5 → compQ Q m own (.ok (l.map g)) m5) : compP T C elt p false cond own Q (l.map f) m :=
  x_compA f (fun rest acc m => P m ∧ ∃ dn, dn ++ rest = l ∧ acc = dn.map g) l h ⟨hp, [], rfl, rfl⟩ (fun a r acc m hi => by
    obtain ⟨hp, dn, e, rfl⟩ := hi
    refine turnW_mono (h1 a (by rw [← e]; simp) m hp) (fun _ h => h.elim) fun x m5 h => ⟨?_, h.2, dn ++ [a], by rw [← e]; simp, by rw [h.1, List.map_append]; rfl⟩
    have : l.length = dn.length + (r.length + 1) := by rw [← e, List.length_append, List.length_cons]
    rw [List.length_map]
    omega) (fun acc m5 hi => by
    obtain ⟨hp, dn, e, rfl⟩ := hi
    rw [List.append_nil] at e
    rw [e]
    exact h0 m5 hp)
end SB.P
set_option maxHeartbeats 0
namespace SB.P
open PySem L2 TL
local macro_rules
  | `(tactic| ac_rfl) => `(tactic| first
    | (with_reducible first
      | refine x_ok ?_
      | refine x_out ?_
      | refine x_true ?_
      | refine x_false ?_
      | refine x_nottrue ?_
      | refine x_notfalse ?_
      | refine x_var ?_
      | refine x_varO ?_
      | refine x_cst ?_
      | refine x_asBl ?_
      | refine wM_evs_nil.mpr ?_
      | refine wM_evs_cons.mpr ?_
      | refine x_look_pdat ?_
      | refine x_look_pown ?_
      | refine x_look_pbor ?_
      | refine x_look_borD ?_
      | refine x_look_dat ?_
      | refine x_look_own ?_
      | refine x_look_bor ?_
      | refine x_frz_pdat ?_
      | refine x_frz_pown ?_
      | refine x_frz_pbor ?_
      | refine x_frz_pborD ?_
      | refine x_frz_dat ?_
      | refine x_frz_bor ?_
      | refine x_frz_borD ?_
      | refine x_frzs_nil ?_
      | refine x_frzs_cons ?_
      | refine x_looks_nil ?_
      | refine x_looks_cons ?_
      | refine wM_bin.mpr ?_
      | refine wM_una.mpr ?_
      | refine wM_cmp.mpr ?_
      | refine wM_chn.mpr ?_
      | refine wM_and.mpr ?_
      | refine wM_or.mpr ?_
      | refine wM_not.mpr ?_
      | refine wM_ife.mpr ?_
      | refine wM_tup.mpr ?_
      | refine wM_lst.mpr ?_
      | refine wM_dic0.mpr ?_
      | refine wM_idx.mpr ?_
      | refine wM_sli.mpr ?_
      | refine wM_partM_nil.mpr ?_
      | refine wM_part_cst.mpr ?_
      | refine wM_part_bin.mpr ?_
      | refine wM_part_var.mpr ?_
      | refine wM_part_una.mpr ?_
      | refine wM_att.mpr ?_
      | refine wM_cal.mpr ?_
      | refine wM_calm.mpr ?_
      | refine wM_mak.mpr ?_
      | refine wM_makv.mpr ?_
      | refine wM_blt.mpr ?_
      | refine wM_isi.mpr ?_
      | refine wM_met.mpr ?_
      | refine wM_kmak.mpr ?_
      | refine wM_kcal.mpr ?_
      | refine wM_omet.mpr ?_
      | refine wM_cmet.mpr ?_
      | refine wM_evs_star.mpr ?_
      | refine x_callMo ?_
      | refine x_app ?_
      | refine x_pop ?_
      | refine x_pop2 ?_
      | refine wM_fmt.mpr ?_
      | refine wM_jst.mpr ?_
      | refine x_ret ?_
      | refine x_some ?_
      | refine wS_seq.mpr ?_
      | refine wS_nil.mpr ?_
      | refine wS_asg.mpr ?_
      | refine wS_par.mpr ?_
      | refine wS_exp.mpr ?_
      | refine wS_ret.mpr ?_
      | refine wS_ife.mpr ?_
      | refine wS_retn.mpr ?_
      | refine wS_pas.mpr ?_
      | refine wS_tryq.mpr ?_
      | refine x_bind_nam ?_
      | refine x_bind_tup ?_
      | refine x_bind_cons ?_
      | refine x_bind_nil ?_
      | refine wS_loop.mpr ?_
      | refine wS_hdr.mpr ?_
      | refine wS_hand_dat.mpr ?_
      | refine wS_hand_own.mpr ?_
      | refine x_hand_bor ?_
      | refine x_hand_borD ?_
      | refine seqQ_nxt.mpr ?_
      | refine seqQ_ret.mpr ?_
      | refine turnQ_nxt.mpr ?_
      | refine turnQ_ret.mpr ?_
      | refine endQ_ret.mpr ?_
      | refine endQ_nxt.mpr ?_
      | refine fstQ_true.mpr ?_
      | refine fstQ_false.mpr ?_
      | refine notExc_nxt.mpr ?_
      | refine notExc_ret.mpr ?_
      | refine wM_asg_nam.mpr ?_
      | refine wM_asg_tup.mpr ?_
      | refine wM_asgs_nil.mpr ?_
      | refine wM_asgs_cons.mpr ?_
      | refine wM_asg_sub.mpr ?_
      | refine x_asg_sub ?_
      | refine wM_asg_att.mpr ?_
      | refine x_sub0 ?_
      | refine x_sub1 ?_
      | refine x_sub2 ?_
      | refine x_set_dat ?_
      | refine x_set_own ?_
      | refine x_set_bor ?_
      | refine wM_hold_dat.mpr ?_
      | refine wM_hold_own.mpr ?_
      | refine wM_hold_bor.mpr ?_
      | refine wM_it_pl.mpr ?_
      | refine wM_it_en.mpr ?_
      | refine wM_it_zi.mpr ?_
      | refine wM_it_r1.mpr ?_
      | refine wM_it_r2.mpr ?_
      | refine putQ_dat.mpr ?_
      | refine putQ_own.mpr ?_
      | refine cndQ_bl.mpr ?_
      | refine x_map cmp_eq_int ?_
      | refine x_map cmp_ne_int ?_
      | refine x_map cmp_eq_str ?_
      | refine x_map cmp_ne_str ?_
      | refine x_map cmp_in_strs ?_
      | refine x_map cmp_in_strsT ?_
      | refine x_map cmp_ni_strs ?_
      | refine x_map cmp_ni_strsT ?_
      | refine x_lft (bin_mod (by first | decide | assumption | omega)) ?_
      | refine x_lft (bin_fdiv (by first | decide | assumption | omega) (by first | decide | assumption | omega)) ?_
      | refine x_lft (bin_mul_l (by decide)) ?_
      | refine x_lft (bin_mul_r (by decide)) ?_
      | refine x_pos (by decide) ?_
      | refine x_neg (by decide) ?_
      | refine x_npos (by decide) ?_
      | refine x_nneg (by decide) ?_
      | refine x_part ?_
      | refine x_star_lst ?_
      | refine x_star_tup ?_
      | refine x_en_lst ?_
      | refine x_en_tup ?_
      | refine x_zi_lst ?_
      | refine x_zi_tup ?_
      | refine x_r1 (by omega) (by omega) ?_
      | refine x_r2 (by omega) (by omega) (by omega) (by omega) ?_
      | refine x_size (by decide) ?_
      | refine x_ifp (by decide) ?_
      | refine x_ifn (by decide) ?_)
    | ((with_reducible apply x_map); exact rfl)
    | ((with_reducible apply x_lft); exact rfl)
    | ((with_reducible apply x_idx_lst); exact rfl)
    | ((with_reducible apply x_idx_tup); exact rfl)
    | ((with_reducible apply x_blt); exact rfl)
    | ((with_reducible apply x_tupQ); exact rfl)
    | ((with_reducible apply x_size); exact Nat.le_of_ble_eq_true rfl))
def SpTermT (C : Calls) (i : Nat) : Prop := ∀ l, LnFit l → C i [.dat l.dat] = some (.ok (.dat (.str l.txt)), none)
def SpDeedT (C : Calls) (i : Nat) : Prop := ∀ r, RwFit r → C i [.dat r.dat] = some (.ok (.dat (.str r.txt)), none)
section
variable {T : Tab} {fuel n i : Nat} {nn : Bool} {kws : List (Nat × List PySem.Str × List Nat)}
theorem word_len (b : Bool) : (wordT b).length ≤ 13 := by cases b <;> decide +kernel
theorem ln_mem {l : Ln} (h : LnFit l) : ∀ y ∈ wordT l.hi :: numT l.k :: l.ps.map Pt.txt, y.length ≤ 13 := by
  intro y hy
  rcases List.mem_cons.mp hy with rfl | hy
  · exact word_len _
  rcases List.mem_cons.mp hy with rfl | hy
  · exact num_len (by have := h.k; omega)
  obtain ⟨p, hp, rfl⟩ := List.mem_map.mp hy
  exact pt_len (h.ok p hp)
theorem termT_ok (hf : T.fns[i]? = some ⟨1, 2, false, nn, b_l_term, kws⟩) : SpTermT (callN T fuel (n + 1)) i := by
  intro l hl
  have key : wC (callN T fuel (n + 1)) i [.dat l.dat] fun r mo => r = .ok (.dat (.str l.txt)) ∧ mo = none := by
    refine wC_of (m0 := [some (.dat l.dat), none]) hf rfl (by decide) rfl ?_
    unfold b_l_term Ln.dat
    repeat ac_rfl
    refine x_blt (str_nu (by have := hl.k; omega)) ?_
    repeat ac_rfl
    refine x_comp ?_
    repeat ac_rfl
    refine x_compM Pt.dat (fun p => .str p.txt) (fun m => ∃ y, m = [some (.dat (.tup [.str l.nm, .str (wordT l.hi), .int (l.k : Nat), .lst (l.ps.map Pt.dat)])), y]) l.ps rfl (by have := hl.le; unfold sizeLine; omega) ⟨none, rfl⟩ ?_ ?_
    · rintro p hp m ⟨y, rfl⟩
      refine x_turnF ?_
      repeat ac_rfl
      refine x_blt (str_pt (hl.ok p hp)) ?_
      repeat ac_rfl
      exact ⟨rfl, _, rfl⟩
    · rintro m ⟨y, rfl⟩
      refine x_compR ?_
      repeat ac_rfl
      refine x_lft (bin_add_lst (by rw [List.length_map]; have := hl.le; show 2 + _ ≤ sizeLine; unfold sizeLine; omega)) ?_
      repeat ac_rfl
      have e : ([Dat.str (wordT l.hi), Dat.str (numT l.k)] ++ l.ps.map fun p => Dat.str p.txt) = (wordT l.hi :: numT l.k :: l.ps.map Pt.txt).map .str := by
        rw [List.map_cons, List.map_cons, List.map_map]
        rfl
      rw [e]
      refine x_lft (met_join (ln_mem hl) (by rw [List.length_cons, List.length_cons, List.length_map]; have := hl.le; show _ * (13 + 1) ≤ _; omega)) ?_
      repeat ac_rfl
      exact ⟨rfl, rfl⟩
  obtain ⟨r, mo, e, rfl, rfl⟩ := of_wC key
  exact e
theorem deedT_len {o : Option (Pt × Pt)} (h : ∀ w p, o = some (w, p) → PtFit w ∧ PtFit p) : (deedT o).length ≤ 35 := by
  cases o with
  | none => decide +kernel
  | some q =>
    obtain ⟨w, p⟩ := q
    obtain ⟨h1, h2⟩ := h w p rfl
    have := pt_len h1
    have := pt_len h2
    unfold deedT
    dsimp only
    rw [len_app, len_app, len_app, show ("sell " : PySem.Str).length = 5 from rfl, show (" at " : PySem.Str).length = 4 from rfl]
    omega
theorem deedT_ok (hf : T.fns[i]? = some ⟨1, 5, false, nn, b_l_deed, kws⟩) : SpDeedT (callN T fuel (n + 1)) i := by
  intro l hl
  have key : wC (callN T fuel (n + 1)) i [.dat l.dat] fun r mo => r = .ok (.dat (.str l.txt)) ∧ mo = none := by
    refine wC_of (m0 := [some (.dat l.dat), none, none, none, none]) hf rfl (by decide) rfl ?_
    unfold b_l_deed Rw.dat
    obtain ⟨cond, sale⟩ := l
    obtain ⟨h1, h2⟩ := hl
    dsimp only at h1 h2 ⊢
    repeat ac_rfl
    have hdl := deedT_len h2
    cases sale
    case' none =>
      unfold whoD atD
      repeat ac_rfl
      obtain ⟨dt, edt, edl⟩ : ∃ dt : PySem.Str, dt = deedT none ∧ dt = "keep" := ⟨_, rfl, rfl⟩
      rw [← edl]
      rw [← edt] at hdl
      obtain ⟨wd, hwd⟩ : ∃ wd : Dat, wd = .non := ⟨_, rfl⟩
    case' some q =>
      obtain ⟨w, p⟩ := q
      obtain ⟨hw, hp⟩ := h2 w p rfl
      unfold whoD atD
      dsimp only
      repeat ac_rfl
      refine x_ifn (by cases w <;> exact Bool.false_ne_true) ?_
      repeat ac_rfl
      refine x_blt (str_pt hw) ?_
      repeat ac_rfl
      have hw1 := pt_len hw
      have hp1 := pt_len hp
      refine x_lft (bin_add_str (by show 5 + _ ≤ sizeLine; unfold sizeLine; omega)) ?_
      repeat ac_rfl
      refine x_lft (bin_add_str (by rw [len_app]; show (5 + _) + 4 ≤ sizeLine; unfold sizeLine; omega)) ?_
      repeat ac_rfl
      refine x_blt (str_pt hp) ?_
      repeat ac_rfl
      refine x_lft (bin_add_str (by rw [len_app, len_app]; show (5 + _) + 4 + _ ≤ sizeLine; unfold sizeLine; omega)) ?_
      repeat ac_rfl
      obtain ⟨dt, edt⟩ : ∃ dt : PySem.Str, dt = deedT (some (w, p)) := ⟨_, rfl⟩
      rw [show (("sell " : PySem.Str) ++ w.txt ++ (" at " : PySem.Str) ++ p.txt) = dt from edt.symm]
      rw [← edt] at hdl
    all_goals
      cases cond with
      | none =>
        unfold condD
        repeat ac_rfl
        exact ⟨by rw [edt]; rfl, rfl⟩
      | some c =>
        obtain ⟨p1, b, p2⟩ := c
        obtain ⟨hp1, hp2⟩ := h1 p1 b p2 rfl
        unfold condD
        dsimp only
        repeat ac_rfl
        refine x_blt (str_pt hp1) ?_
        repeat ac_rfl
        refine x_blt (str_pt hp2) ?_
        repeat ac_rfl
        have hp3 := pt_len hp1
        have hp4 := pt_len hp2
        refine x_lft (bin_add_str (by show _ + 1 ≤ sizeLine; unfold sizeLine; omega)) ?_
        repeat ac_rfl
        refine x_lft (met_join (B := 100) (ys := ["if", p1.txt, lessT b, p2.txt ++ ":", dt]) (by
          intro y hy
          simp only [List.mem_cons, List.not_mem_nil, or_false] at hy
          rcases hy with rfl | rfl | rfl | rfl | rfl
          · decide +kernel
          · omega
          · cases b <;> decide +kernel
          · rw [len_app]; show _ + 1 ≤ 100; omega
          · omega) (by show 5 * (100 + 1) ≤ _; omega)) ?_
        repeat ac_rfl
        exact ⟨by rw [edt]; rfl, rfl⟩
  obtain ⟨r, mo, e, rfl, rfl⟩ := of_wC key
  exact e
/-- what is passed to the class -/
def Pl.s (p : Pl) : Dat := .tup (p.ss.map .str)
def Pl.l (p : Pl) : Dat := .tup (p.ls.map fun l => .tup [.str l.nm, .str l.txt])
def Pl.r (p : Pl) : Dat := .tup (p.rs.map fun r => .str r.txt)
structure PlFit (p : Pl) : Prop where
  s2 : p.ss.length ≤ 4
  l2 : p.ls.length ≤ 8
  r2 : p.rs.length ≤ 6
  sf : ∀ s ∈ p.ss, s.length ≤ 8
  lf : ∀ l ∈ p.ls, LnFit l
  rf : ∀ r ∈ p.rs, RwFit r
def SpTriple (C : Calls) (i : Nat) : Prop := ∀ p, PlFit p → C i [.dat p.dat] = some (.ok (.dat (.tup [p.s, p.l, p.r])), none)
def SpWhole (C : Calls) (i : Nat) : Prop := ∀ p, PlFit p → C i [.dat p.dat] = some (.ok (.dat (.str p.txt)), none)
theorem triple_ok {iT iD : Nat} (hT : SpTermT (callN T fuel n) iT) (hD : SpDeedT (callN T fuel n) iD) (hf : T.fns[i]? = some ⟨1, 4, false, nn, b_l_triple iD iT, kws⟩) : SpTriple (callN T fuel (n + 1)) i := by
  intro p hp
  have key : wC (callN T fuel (n + 1)) i [.dat p.dat] fun r mo => r = .ok (.dat (.tup [p.s, p.l, p.r])) ∧ mo = none := by
    refine wC_of (m0 := [some (.dat p.dat), none, none, none]) hf rfl (by decide) rfl ?_
    unfold b_l_triple Pl.dat
    repeat ac_rfl
    refine x_comp ?_
    repeat ac_rfl
    refine x_compM Ln.dat (fun l => .tup [.str l.nm, .str l.txt]) (fun m => ∃ y, m = [some (.dat (.lst [.lst (p.ss.map .str), .lst (p.ls.map Ln.dat), .lst (p.rs.map Rw.dat)])), none, y, none]) p.ls rfl (by have := hp.l2; unfold sizeLine; omega) ⟨none, rfl⟩ ?_ ?_
    · rintro l hl m ⟨y, rfl⟩
      refine x_turnF ?_
      repeat ac_rfl
      refine x_idx_tup (l := [.str l.nm, .str (wordT l.hi), .int (l.k : Nat), .lst (l.ps.map Pt.dat)]) (d := .str l.nm) rfl ?_
      repeat ac_rfl
      refine x_cal (hT l (hp.lf l hl)) ?_
      repeat ac_rfl
      exact ⟨rfl, _, rfl⟩
    · rintro m ⟨y, rfl⟩
      refine x_compR ?_
      repeat ac_rfl
      refine x_comp ?_
      repeat ac_rfl
      refine x_compM Rw.dat (fun l => .str l.txt) (fun m => ∃ y, m = [some (.dat (.lst [.lst (p.ss.map .str), .lst (p.ls.map Ln.dat), .lst (p.rs.map Rw.dat)])), some (.dat p.l), none, y]) p.rs rfl (by have := hp.r2; unfold sizeLine; omega) ⟨none, rfl⟩ ?_ ?_
      · rintro l hl m ⟨y, rfl⟩
        refine x_turnF ?_
        repeat ac_rfl
        refine x_cal (hD l (hp.rf l hl)) ?_
        repeat ac_rfl
        exact ⟨rfl, _, rfl⟩
      · rintro m ⟨y, rfl⟩
        refine x_compR ?_
        repeat ac_rfl
        exact ⟨rfl, rfl⟩
  obtain ⟨r, mo, e, rfl, rfl⟩ := of_wC key
  exact e
theorem ln_len {l : Ln} (h : LnFit l) : l.txt.length ≤ 112 := by
  have h2 : (wordT l.hi :: numT l.k :: l.ps.map Pt.txt).length ≤ 8 := by
    rw [List.length_cons, List.length_cons, List.length_map]
    have := h.le
    omega
  exact Nat.le_trans (join_len (ln_mem h)) (Nat.le_trans (Nat.mul_le_mul_right _ h2) (show 8 * (13 + 1) ≤ 112 by omega))
theorem rw_len {r : Rw} (h : RwFit r) : r.txt.length ≤ 500 := by
  have hd := deedT_len h.sale
  unfold Rw.txt
  split
  · omega
  · rename_i p b q e
    obtain ⟨h1, h2⟩ := h.cond p b q e
    have h1 := pt_len h1
    have h2 := pt_len h2
    refine Nat.le_trans (join_len (B := 40) ?_) (show 5 * (40 + 1) ≤ 500 by omega)
    intro y hy
    simp only [List.mem_cons, List.not_mem_nil, or_false] at hy
    rcases hy with rfl | rfl | rfl | rfl | rfl
    · decide +kernel
    · omega
    · cases b <;> decide +kernel
    · rw [len_app]; show _ + 1 ≤ 40; omega
    · omega
theorem lineT_len {l : Ln} (h : LnFit l) : (lineT l).length ≤ 500 := by
  have := ln_len h
  have := h.nm
  unfold lineT
  rw [len_app, len_app]
  show _ + 3 + _ ≤ 500
  omega
theorem headT_len {ss : List PySem.Str} (h : ss.length ≤ 4) (h2 : ∀ s ∈ ss, s.length ≤ 8) : (headT ss).length ≤ 500 := by
  refine Nat.le_trans (join_len (B := 8) ?_) (show (("seats" : PySem.Str) :: ss).length * (8 + 1) ≤ 500 by rw [List.length_cons]; omega)
  intro y hy
  rcases List.mem_cons.mp hy with rfl | hy
  · decide +kernel
  · exact h2 y hy
theorem pl_mem {p : Pl} (hp : PlFit p) : ∀ y ∈ (headT p.ss :: p.ls.map lineT) ++ p.rs.map Rw.txt, y.length ≤ 500 := by
  intro y hy
  rcases List.mem_append.mp hy with h | h
  · rcases List.mem_cons.mp h with rfl | h
    · exact headT_len hp.s2 hp.sf
    · obtain ⟨l, hl, rfl⟩ := List.mem_map.mp h
      exact lineT_len (hp.lf l hl)
  · obtain ⟨l, hl, rfl⟩ := List.mem_map.mp h
    exact rw_len (hp.rf l hl)
theorem pl_le {p : Pl} (hp : PlFit p) : ((headT p.ss :: p.ls.map lineT) ++ p.rs.map Rw.txt).length ≤ 15 := by
  rw [List.length_append, List.length_cons, List.length_map, List.length_map]
  have := hp.l2
  have := hp.r2
  omega
theorem pl_len {p : Pl} (hp : PlFit p) : p.txt.length ≤ 8000 := by
  refine Nat.le_trans (join_len (pl_mem hp)) ?_
  have : ("\n" : PySem.Str).length = 1 := rfl
  rw [this]
  have := pl_le hp
  omega
theorem whole_ok {iT iD : Nat} (hT : SpTermT (callN T fuel n) iT) (hD : SpDeedT (callN T fuel n) iD) (hf : T.fns[i]? = some ⟨1, 4, false, nn, b_l_whole iD iT, kws⟩) : SpWhole (callN T fuel (n + 1)) i := by
  intro p hp
  have key : wC (callN T fuel (n + 1)) i [.dat p.dat] fun r mo => r = .ok (.dat (.str p.txt)) ∧ mo = none := by
    refine wC_of (m0 := [some (.dat p.dat), none, none, none]) hf rfl (by decide) rfl ?_
    unfold b_l_whole Pl.dat
    repeat ac_rfl
    refine x_lft (bin_add_lst (l := [Dat.str "seats"]) (by rw [List.length_map]; have := hp.s2; show 1 + _ ≤ sizeLine; unfold sizeLine; omega)) ?_
    repeat ac_rfl
    refine x_lft (met_join (B := 8) (ys := "seats" :: p.ss) (by
      intro y hy
      rcases List.mem_cons.mp hy with rfl | hy
      · decide +kernel
      · exact hp.sf y hy) (by rw [List.length_cons]; have := hp.s2; show _ * (8 + 1) ≤ _; omega)) ?_
    repeat ac_rfl
    refine x_comp ?_
    repeat ac_rfl
    refine x_compM Ln.dat (fun l => .str (lineT l)) (fun m => ∃ y, m = [some (.dat (.lst [.lst (p.ss.map .str), .lst (p.ls.map Ln.dat), .lst (p.rs.map Rw.dat)])), some (.own (.lst [.str (headT p.ss)])), y, none]) p.ls rfl (by have := hp.l2; unfold sizeLine; omega) ⟨none, rfl⟩ ?_ ?_
    · rintro l hl m ⟨y, rfl⟩
      refine x_turnF ?_
      have := ln_len (hp.lf l hl)
      have := (hp.lf l hl).nm
      repeat ac_rfl
      refine x_idx_tup (l := [.str l.nm, .str (wordT l.hi), .int (l.k : Nat), .lst (l.ps.map Pt.dat)]) (d := .str l.nm) rfl ?_
      repeat ac_rfl
      refine x_lft (bin_add_str (by show _ + 3 ≤ sizeLine; unfold sizeLine; omega)) ?_
      repeat ac_rfl
      refine x_cal (hT l (hp.lf l hl)) ?_
      repeat ac_rfl
      refine x_lft (bin_add_str (by rw [len_app]; show _ + 3 + _ ≤ sizeLine; unfold sizeLine; omega)) ?_
      repeat ac_rfl
      exact ⟨rfl, _, rfl⟩
    · rintro m ⟨y, rfl⟩
      refine x_compR ?_
      repeat ac_rfl
      refine x_lft (bin_add_lst (by rw [List.length_map]; have := hp.l2; show 1 + _ ≤ sizeLine; unfold sizeLine; omega)) ?_
      repeat ac_rfl
      refine x_comp ?_
      repeat ac_rfl
      refine x_compM Rw.dat (fun l => .str l.txt) (fun m => ∃ y, m = [some (.dat (.lst [.lst (p.ss.map .str), .lst (p.ls.map Ln.dat), .lst (p.rs.map Rw.dat)])), some (.own (.lst ([.str (headT p.ss)] ++ p.ls.map fun l => .str (lineT l)))), none, y]) p.rs rfl (by have := hp.r2; unfold sizeLine; omega) ⟨none, rfl⟩ ?_ ?_
      · rintro l hl m ⟨y, rfl⟩
        refine x_turnF ?_
        repeat ac_rfl
        refine x_cal (hD l (hp.rf l hl)) ?_
        repeat ac_rfl
        exact ⟨rfl, _, rfl⟩
      · rintro m ⟨y, rfl⟩
        refine x_compR ?_
        repeat ac_rfl
        refine x_lft (bin_add_lst (by rw [List.length_map, List.length_append, List.length_map]; have := hp.l2; have := hp.r2; show 1 + _ + _ ≤ sizeLine; unfold sizeLine; omega)) ?_
        repeat ac_rfl
        have e : (([Dat.str (headT p.ss)] ++ p.ls.map fun l => Dat.str (lineT l)) ++ p.rs.map fun l => Dat.str l.txt) = ((headT p.ss :: p.ls.map lineT) ++ p.rs.map Rw.txt).map .str := by
          rw [List.map_append, List.map_cons, List.map_map, List.map_map]
          rfl
        rw [e]
        refine x_lft (met_join (pl_mem hp) (by have := pl_le hp; show _ * (500 + 1) ≤ _; omega)) ?_
        repeat ac_rfl
        exact ⟨rfl, rfl⟩
  obtain ⟨r, mo, e, rfl, rfl⟩ := of_wC key
  exact e
end
end SB.P
set_option maxHeartbeats 0
namespace SB.P
open PySem L2 TL
local macro_rules
  | `(tactic| ac_rfl) => `(tactic| first
    | (with_reducible first
      | refine x_ok ?_
      | refine x_out ?_
      | refine x_true ?_
      | refine x_false ?_
      | refine x_nottrue ?_
      | refine x_notfalse ?_
      | refine x_var ?_
      | refine x_varO ?_
      | refine x_cst ?_
      | refine x_asBl ?_
      | refine wM_evs_nil.mpr ?_
      | refine wM_evs_cons.mpr ?_
      | refine x_look_pdat ?_
      | refine x_look_pown ?_
      | refine x_look_pbor ?_
      | refine x_look_borD ?_
      | refine x_look_dat ?_
      | refine x_look_own ?_
      | refine x_look_bor ?_
      | refine x_frz_pdat ?_
      | refine x_frz_pown ?_
      | refine x_frz_pbor ?_
      | refine x_frz_pborD ?_
      | refine x_frz_dat ?_
      | refine x_frz_bor ?_
      | refine x_frz_borD ?_
      | refine x_frzs_nil ?_
      | refine x_frzs_cons ?_
      | refine x_looks_nil ?_
      | refine x_looks_cons ?_
      | refine wM_bin.mpr ?_
      | refine wM_una.mpr ?_
      | refine wM_cmp.mpr ?_
      | refine wM_chn.mpr ?_
      | refine wM_and.mpr ?_
      | refine wM_or.mpr ?_
      | refine wM_not.mpr ?_
      | refine wM_ife.mpr ?_
      | refine wM_tup.mpr ?_
      | refine wM_lst.mpr ?_
      | refine wM_dic0.mpr ?_
      | refine wM_idx.mpr ?_
      | refine wM_sli.mpr ?_
      | refine wM_partM_nil.mpr ?_
      | refine wM_part_cst.mpr ?_
      | refine wM_part_bin.mpr ?_
      | refine wM_part_var.mpr ?_
      | refine wM_part_una.mpr ?_
      | refine wM_att.mpr ?_
      | refine wM_cal.mpr ?_
      | refine wM_calm.mpr ?_
      | refine wM_mak.mpr ?_
      | refine wM_makv.mpr ?_
      | refine wM_blt.mpr ?_
      | refine wM_isi.mpr ?_
      | refine wM_met.mpr ?_
      | refine wM_kmak.mpr ?_
      | refine wM_kcal.mpr ?_
      | refine wM_omet.mpr ?_
      | refine wM_cmet.mpr ?_
      | refine wM_evs_star.mpr ?_
      | refine x_callMo ?_
      | refine x_app ?_
      | refine x_pop ?_
      | refine x_pop2 ?_
      | refine wM_fmt.mpr ?_
      | refine wM_jst.mpr ?_
      | refine x_ret ?_
      | refine x_some ?_
      | refine wS_seq.mpr ?_
      | refine wS_nil.mpr ?_
      | refine wS_asg.mpr ?_
      | refine wS_par.mpr ?_
      | refine wS_exp.mpr ?_
      | refine wS_ret.mpr ?_
      | refine wS_ife.mpr ?_
      | refine wS_retn.mpr ?_
      | refine wS_pas.mpr ?_
      | refine wS_tryq.mpr ?_
      | refine x_bind_nam ?_
      | refine x_bind_tup ?_
      | refine x_bind_cons ?_
      | refine x_bind_nil ?_
      | refine wS_loop.mpr ?_
      | refine wS_hdr.mpr ?_
      | refine wS_hand_dat.mpr ?_
      | refine wS_hand_own.mpr ?_
      | refine x_hand_bor ?_
      | refine x_hand_borD ?_
      | refine seqQ_nxt.mpr ?_
      | refine seqQ_ret.mpr ?_
      | refine turnQ_nxt.mpr ?_
      | refine turnQ_ret.mpr ?_
      | refine endQ_ret.mpr ?_
      | refine endQ_nxt.mpr ?_
      | refine fstQ_true.mpr ?_
      | refine fstQ_false.mpr ?_
      | refine notExc_nxt.mpr ?_
      | refine notExc_ret.mpr ?_
      | refine wM_asg_nam.mpr ?_
      | refine wM_asg_tup.mpr ?_
      | refine wM_asgs_nil.mpr ?_
      | refine wM_asgs_cons.mpr ?_
      | refine wM_asg_sub.mpr ?_
      | refine x_asg_sub ?_
      | refine wM_asg_att.mpr ?_
      | refine x_sub0 ?_
      | refine x_sub1 ?_
      | refine x_sub2 ?_
      | refine x_set_dat ?_
      | refine x_set_own ?_
      | refine x_set_bor ?_
      | refine wM_hold_dat.mpr ?_
      | refine wM_hold_own.mpr ?_
      | refine wM_hold_bor.mpr ?_
      | refine wM_it_pl.mpr ?_
      | refine wM_it_en.mpr ?_
      | refine wM_it_zi.mpr ?_
      | refine wM_it_r1.mpr ?_
      | refine wM_it_r2.mpr ?_
      | refine putQ_dat.mpr ?_
      | refine putQ_own.mpr ?_
      | refine cndQ_bl.mpr ?_
      | refine x_map cmp_eq_int ?_
      | refine x_map cmp_ne_int ?_
      | refine x_map cmp_eq_str ?_
      | refine x_map cmp_ne_str ?_
      | refine x_map cmp_in_strs ?_
      | refine x_map cmp_in_strsT ?_
      | refine x_map cmp_ni_strs ?_
      | refine x_map cmp_ni_strsT ?_
      | refine x_lft (bin_mod (by first | decide | assumption | omega)) ?_
      | refine x_lft (bin_fdiv (by first | decide | assumption | omega) (by first | decide | assumption | omega)) ?_
      | refine x_lft (bin_mul_l (by decide)) ?_
      | refine x_lft (bin_mul_r (by decide)) ?_
      | refine x_pos (by decide) ?_
      | refine x_neg (by decide) ?_
      | refine x_npos (by decide) ?_
      | refine x_nneg (by decide) ?_
      | refine x_part ?_
      | refine x_star_lst ?_
      | refine x_star_tup ?_
      | refine x_en_lst ?_
      | refine x_en_tup ?_
      | refine x_zi_lst ?_
      | refine x_zi_tup ?_
      | refine x_r1 (by omega) (by omega) ?_
      | refine x_r2 (by omega) (by omega) (by omega) (by omega) ?_
      | refine x_size (by decide) ?_
      | refine x_ifp (by decide) ?_
      | refine x_ifn (by decide) ?_)
    | ((with_reducible apply x_map); exact rfl)
    | ((with_reducible apply x_lft); exact rfl)
    | ((with_reducible apply x_idx_lst); exact rfl)
    | ((with_reducible apply x_idx_tup); exact rfl)
    | ((with_reducible apply x_blt); exact rfl)
    | ((with_reducible apply x_tupQ); exact rfl)
    | ((with_reducible apply x_size); exact Nat.le_of_ble_eq_true rfl))
section
variable {T : Tab} {C : Calls} {m m' : Frm} {Q : Except Exn RV → Frm → Prop} {c g : Nat} {cd : Cd} {fs : List (PySem.Str × Dat)} {f : PySem.Str}
theorem x_make {ds : List Dat} (hc : T.cls[c]? = some cd) (hx : cd.exc = false) (hi : cd.init = some g) (e : C g (.own (.obj c []) :: ds.map .dat) = some (.ok (.dat .non), some (.obj c fs))) (h : Q (.ok (.dat (.obj c fs))) m) : wM (makeM T C c ds) m Q := by
  have e2 : makeM T C c ds m = some (.ok (.dat (.obj c fs)), m) := by
    unfold makeM
    simp only [hc, hx, hi, e]
    simp
  unfold wM
  exact ⟨_, _, e2, h⟩
theorem x_fld {r : RV} {d : Dat} (hc : T.cls[c]? = some cd) (hx : cd.exc = false) (hf : cd.flds.contains f = true) (e : fs.lookup f = some d) (h : Q (.ok (.dat d)) m) : wM (attV T C r (.obj c fs) f) m Q := by
  have e2 : attV T C r (.obj c fs) f = lft (some (.dat d)) := by
    unfold attV
    simp only [hc, hx, hf, e]
    simp
  rw [e2]
  exact wM_some.mpr h
theorem x_prp {d : Dat} {v : RV} {mo : Option Dat} (hc : T.cls[c]? = some cd) (hx : cd.exc = false) (hf : cd.flds.contains f = false) (hp : cd.props.lookup f = some g) (e : C g [.dat d] = some (.ok v, mo)) (h : Q (.ok v) m) : wM (attV T C (.dat d) (.obj c fs) f) m Q := by
  have e2 : attV T C (.dat d) (.obj c fs) f m = some (.ok v, m) := by
    unfold attV
    simp only [hc, hx, hf, hp]
    simp [bnd, frz, callP, e]
  unfold wM
  exact ⟨_, _, e2, h⟩
theorem x_spec {ds : List Dat} {v : RV} {mo : Option Dat} (hc : T.cls[c]? = some cd) (hx : cd.exc = false) (hm : cd.mets.lookup f = some g) (e : C g (ds.map .dat) = some (.ok v, mo)) (h : Q (.ok v) m) : wM (specM T C f c (ds.map .dat)) m Q := by
  have e2 : specM T C f c (ds.map .dat) = bnd (frzs (ds.map .dat)) fun ds => callF C g ds := by
    unfold specM
    simp only [hc, hx, hm]
    simp
  rw [e2]
  have e3 : ∀ (ds : List Dat), frzs (ds.map .dat) m = some (.ok ds, m) := by
    intro ds
    induction ds with
    | nil => rfl
    | cons d r ih =>
      rw [List.map_cons, frzs]
      simp [bnd, frz, ih, SB.ret]
  have e4 : (bnd (frzs (ds.map .dat)) fun ds => callF C g ds) m = some (.ok v, m) := by
    simp [bnd, e3, callF, e]
  unfold wM
  exact ⟨_, _, e4, h⟩
theorem x_attM {i : Nat} {v : Dat} {Q : Except Exn Unit → Frm → Prop} [h : GetAt m i (some (.own (.obj c fs)))] [s : SetAt m i (some (.own (.obj c (putD f v fs)))) m'] (hc : T.cls[c]? = some cd) (hx : cd.exc = false) (hf : cd.flds.contains f = true) (hl : fs.length < 900) (q : Q (.ok ()) m') : wM (attM T i f v) m Q :=
  wM_attM h.eq hc (by rw [hx, hf]; rfl) hl (by rw [s.eq]; exact q)
theorem x_cls {i : Nat} {Q : Except Exn Unit → Frm → Prop} [h : GetAt m i (some (.dat (.cls c)))] (hc : T.cls[c]? = some cd) (hx : cd.exc = false) (q : Q (.ok ()) m) : wM (clsM T i c) m Q := by
  have e : clsM T i c m = some (.ok (), m) := by
    unfold clsM lft'
    dsimp only
    rw [h.eq, hc]
    simp [hx]
  unfold wM
  exact ⟨_, _, e, q⟩
end
/-! ### names and numbers -/
theorem letters_toL : ("abcdefghijklmnopqrstuvwxyz" : PySem.Str).cps.toList = lettersL := by decide +kernel
abbrev digitsL : List Nat := [48, 49, 50, 51, 52, 53, 54, 55, 56, 57]
theorem digits_toL : ("0123456789" : PySem.Str).cps.toList = digitsL := by decide +kernel
theorem low_mem {c : Nat} (h : isLow c = true) : c ∈ lettersL := by
  unfold isLow at h
  simp at h
  simp only [lettersL, List.mem_cons, List.not_mem_nil, or_false]
  omega
theorem low_nd {c : Nat} (h : isLow c = true) : c ∉ digitsL := by
  unfold isLow at h
  simp at h
  simp only [digitsL, List.mem_cons, List.not_mem_nil, or_false]
  omega
theorem al_mem {c : Nat} (h : isAl c = true) : c ∈ lettersL ++ digitsL := by
  unfold isAl isLow at h
  simp at h
  simp only [lettersL, digitsL, List.mem_append, List.mem_cons, List.not_mem_nil, or_false]
  omega
theorem dig_mem {c : Nat} (h : 48 ≤ c ∧ c ≤ 57) : c ∈ digitsL := by
  simp only [digitsL, List.mem_cons, List.not_mem_nil, or_false]
  omega
def SpIsName (C : Calls) (i : Nat) : Prop := ∀ s, NameOk s → C i [.dat (.str s)] = some (.ok (.dat (.bl true)), none)
section
variable {T : Tab} {fuel n i : Nat} {nn : Bool} {kws : List (Nat × List PySem.Str × List Nat)}
theorem isName_ok (hf : T.fns[i]? = some ⟨1, 2, false, nn, b_is_name, kws⟩) : SpIsName (callN T fuel (n + 1)) i := by
  intro s hs
  have key : wC (callN T fuel (n + 1)) i [.dat (.str s)] fun r mo => r = .ok (.dat (.bl true)) ∧ mo = none := by
    refine wC_of (m0 := [some (.dat (.str s)), none]) hf rfl (by decide) rfl ?_
    unfold b_is_name
    obtain ⟨h1, h2⟩ := hs.len
    repeat ac_rfl
    refine x_len_str (by unfold sizeLine; omega) ?_
    repeat ac_rfl
    refine x_pos (by omega) ?_
    repeat ac_rfl
    refine x_npos (by omega) ?_
    repeat ac_rfl
    obtain ⟨c, r, e, hc, hr, hl⟩ := hs
    refine x_idx_str (c := c) (by unfold sizeLine; omega) (by rw [e]; exact atI0) ?_
    repeat ac_rfl
    refine x_pos (by rw [letters_toL]; exact low_mem hc) ?_
    repeat ac_rfl
    refine x_comp ?_
    repeat ac_rfl
    refine x_compM oneSign (fun _ => .bl true) (fun m => ∃ y, m = [some (.dat (.str s)), y]) _ rfl (by show s.length ≤ _; unfold sizeLine; omega) ⟨none, rfl⟩ ?_ ?_
    · rintro d hd m ⟨y, rfl⟩
      refine x_turnF ?_
      repeat ac_rfl
      refine ⟨?_, _, rfl⟩
      rw [cps_app, letters_toL, digits_toL]
      rw [e] at hd
      rcases List.mem_cons.mp hd with rfl | hd
      · rw [decide_eq_true (al_mem (by unfold isAl; rw [hc]; rfl))]
      · rw [decide_eq_true (al_mem (List.all_eq_true.mp hr d hd))]
    · rintro m ⟨y, rfl⟩
      refine x_compR ?_
      repeat ac_rfl
      refine x_blt (bltM_all (f := fun _ => true)) ?_
      repeat ac_rfl
      exact ⟨by simp, rfl⟩
  obtain ⟨r, mo, e, rfl, rfl⟩ := of_wC key
  exact e
/-- number or not: of names and of written numbers -/
structure SpWritten (C : Calls) (i : Nat) : Prop where
  nm : ∀ s, NameOk s → C i [.dat (.str s)] = some (.ok (.dat .non), none)
  nu : ∀ n, n ≤ 1000000000000 → C i [.dat (.str (numT n))] = some (.ok (.dat (.int (n : Nat))), none)
theorem bltM_int_str {C : Calls} {rs : List RV} {s : PySem.Str} {k : Int} (h : s.length ≤ 640) (e : intText? s = some k) : bltM T C .int rs [.str s] = lft (some (.dat (.int k))) := by
  show lft (if s.length ≤ 640 then (intText? s).map fun n => RV.dat (.int n) else none) = _
  rw [if_pos h, e]
  rfl
theorem numT_l (n : Nat) : (numT n).cps.toList = numL n := tl_num n
theorem written_ok (hf : T.fns[i]? = some ⟨1, 3, false, nn, b_written, kws⟩) : SpWritten (callN T fuel (n + 1)) i := by
  constructor
  · intro s hs
    have key : wC (callN T fuel (n + 1)) i [.dat (.str s)] fun r mo => r = .ok (.dat .non) ∧ mo = none := by
      refine wC_of (m0 := [some (.dat (.str s)), none, none]) hf rfl (by decide) rfl ?_
      unfold b_written
      obtain ⟨h1, h2⟩ := hs.len
      obtain ⟨c, r, e, hc, hr, hl⟩ := hs
      repeat ac_rfl
      refine x_p (fun h => ?_) (fun _ => ?_)
      · repeat ac_rfl
        exact ⟨rfl, rfl⟩
      repeat ac_rfl
      refine x_len_str (by unfold sizeLine; omega) ?_
      repeat ac_rfl
      refine x_neg (by omega) ?_
      repeat ac_rfl
      refine x_comp ?_
      repeat ac_rfl
      refine x_compM oneSign (fun c => .bl (decide (c ∈ digitsL))) (fun m => ∃ y, m = [some (.dat (.str s)), y, none]) _ rfl (by show s.length ≤ _; unfold sizeLine; omega) ⟨none, rfl⟩ ?_ ?_
      · rintro d hd m ⟨y, rfl⟩
        refine x_turnF ?_
        repeat ac_rfl
        exact ⟨by rw [digits_toL], _, rfl⟩
      · rintro m ⟨y, rfl⟩
        refine x_compR ?_
        repeat ac_rfl
        refine x_blt (bltM_all (f := fun c => decide (c ∈ digitsL))) ?_
        repeat ac_rfl
        have hall : (s.cps.toList.all fun c => decide (c ∈ digitsL)) = false := by
          rw [e, List.all_cons, decide_eq_false (low_nd hc)]
          rfl
        rw [hall]
        repeat ac_rfl
        exact ⟨rfl, rfl⟩
    obtain ⟨r, mo, e, rfl, rfl⟩ := of_wC key
    exact e
  · intro k hk
    have key : wC (callN T fuel (n + 1)) i [.dat (.str (numT k))] fun r mo => r = .ok (.dat (.int (k : Nat))) ∧ mo = none := by
      refine wC_of (m0 := [some (.dat (.str (numT k))), none, none]) hf rfl (by decide) rfl ?_
      unfold b_written
      have hl := num_len hk
      repeat ac_rfl
      refine x_p (fun h => ?_) (fun _ => ?_)
      · have h2 : (numT k).cps.toList = [] := by rw [h]; rfl
        rw [numT_l] at h2
        exact absurd h2 (numL_ne k)
      repeat ac_rfl
      refine x_len_str (by unfold sizeLine; omega) ?_
      repeat ac_rfl
      refine x_neg (by omega) ?_
      repeat ac_rfl
      refine x_comp ?_
      repeat ac_rfl
      refine x_compM oneSign (fun c => .bl true) (fun m => ∃ y, m = [some (.dat (.str (numT k))), y, none]) _ rfl (by show (numT k).length ≤ _; unfold sizeLine; omega) ⟨none, rfl⟩ ?_ ?_
      · rintro d hd m ⟨y, rfl⟩
        refine x_turnF ?_
        repeat ac_rfl
        refine ⟨?_, _, rfl⟩
        rw [digits_toL]
        rw [numT_l] at hd
        rw [decide_eq_true (dig_mem (numL_digits k d hd))]
      · rintro m ⟨y, rfl⟩
        refine x_compR ?_
        repeat ac_rfl
        refine x_blt (bltM_all (f := fun c => true)) ?_
        repeat ac_rfl
        rw [show ((numT k).cps.toList.all fun c => true) = true by simp]
        repeat ac_rfl
        refine x_blt (bltM_int_str (by omega) (int_num (n := k) (by rw [← numT_l]; show (numT k).length ≤ _; omega))) ?_
        repeat ac_rfl
        refine x_blt (str_nu hk) ?_
        repeat ac_rfl
        refine x_pos rfl ?_
        repeat ac_rfl
        refine x_pos (by omega) ?_
        repeat ac_rfl
        exact ⟨rfl, rfl⟩
    obtain ⟨r, mo, e, rfl, rfl⟩ := of_wC key
    exact e
end
end SB.P
set_option maxHeartbeats 0
namespace SB.P
open PySem L2 TL
local macro_rules
  | `(tactic| ac_rfl) => `(tactic| first
    | (with_reducible first
      | refine x_ok ?_
      | refine x_out ?_
      | refine x_true ?_
      | refine x_false ?_
      | refine x_nottrue ?_
      | refine x_notfalse ?_
      | refine x_var ?_
      | refine x_varO ?_
      | refine x_cst ?_
      | refine x_asBl ?_
      | refine wM_evs_nil.mpr ?_
      | refine wM_evs_cons.mpr ?_
      | refine x_look_pdat ?_
      | refine x_look_pown ?_
      | refine x_look_pbor ?_
      | refine x_look_borD ?_
      | refine x_look_dat ?_
      | refine x_look_own ?_
      | refine x_look_bor ?_
      | refine x_frz_pdat ?_
      | refine x_frz_pown ?_
      | refine x_frz_pbor ?_
      | refine x_frz_pborD ?_
      | refine x_frz_dat ?_
      | refine x_frz_bor ?_
      | refine x_frz_borD ?_
      | refine x_frzs_nil ?_
      | refine x_frzs_cons ?_
      | refine x_looks_nil ?_
      | refine x_looks_cons ?_
      | refine wM_bin.mpr ?_
      | refine wM_una.mpr ?_
      | refine wM_cmp.mpr ?_
      | refine wM_chn.mpr ?_
      | refine wM_and.mpr ?_
      | refine wM_or.mpr ?_
      | refine wM_not.mpr ?_
      | refine wM_ife.mpr ?_
      | refine wM_tup.mpr ?_
      | refine wM_lst.mpr ?_
      | refine wM_dic0.mpr ?_
      | refine wM_idx.mpr ?_
      | refine wM_sli.mpr ?_
      | refine wM_partM_nil.mpr ?_
      | refine wM_part_cst.mpr ?_
      | refine wM_part_bin.mpr ?_
      | refine wM_part_var.mpr ?_
      | refine wM_part_una.mpr ?_
      | refine wM_att.mpr ?_
      | refine wM_cal.mpr ?_
      | refine wM_calm.mpr ?_
      | refine wM_mak.mpr ?_
      | refine wM_makv.mpr ?_
      | refine wM_blt.mpr ?_
      | refine wM_isi.mpr ?_
      | refine wM_met.mpr ?_
      | refine wM_kmak.mpr ?_
      | refine wM_kcal.mpr ?_
      | refine wM_omet.mpr ?_
      | refine wM_cmet.mpr ?_
      | refine wM_evs_star.mpr ?_
      | refine x_callMo ?_
      | refine x_app ?_
      | refine x_pop ?_
      | refine x_pop2 ?_
      | refine wM_fmt.mpr ?_
      | refine wM_jst.mpr ?_
      | refine x_ret ?_
      | refine x_some ?_
      | refine wS_seq.mpr ?_
      | refine wS_nil.mpr ?_
      | refine wS_asg.mpr ?_
      | refine wS_par.mpr ?_
      | refine wS_exp.mpr ?_
      | refine wS_ret.mpr ?_
      | refine wS_ife.mpr ?_
      | refine wS_retn.mpr ?_
      | refine wS_pas.mpr ?_
      | refine wS_tryq.mpr ?_
      | refine x_bind_nam ?_
      | refine x_bind_tup ?_
      | refine x_bind_cons ?_
      | refine x_bind_nil ?_
      | refine wS_loop.mpr ?_
      | refine wS_hdr.mpr ?_
      | refine wS_hand_dat.mpr ?_
      | refine wS_hand_own.mpr ?_
      | refine x_hand_bor ?_
      | refine x_hand_borD ?_
      | refine seqQ_nxt.mpr ?_
      | refine seqQ_ret.mpr ?_
      | refine turnQ_nxt.mpr ?_
      | refine turnQ_ret.mpr ?_
      | refine endQ_ret.mpr ?_
      | refine endQ_nxt.mpr ?_
      | refine fstQ_true.mpr ?_
      | refine fstQ_false.mpr ?_
      | refine notExc_nxt.mpr ?_
      | refine notExc_ret.mpr ?_
      | refine wM_asg_nam.mpr ?_
      | refine wM_asg_tup.mpr ?_
      | refine wM_asgs_nil.mpr ?_
      | refine wM_asgs_cons.mpr ?_
      | refine wM_asg_sub.mpr ?_
      | refine x_asg_sub ?_
      | refine wM_asg_att.mpr ?_
      | refine x_sub0 ?_
      | refine x_sub1 ?_
      | refine x_sub2 ?_
      | refine x_set_dat ?_
      | refine x_set_own ?_
      | refine x_set_bor ?_
      | refine wM_hold_dat.mpr ?_
      | refine wM_hold_own.mpr ?_
      | refine wM_hold_bor.mpr ?_
      | refine wM_it_pl.mpr ?_
      | refine wM_it_en.mpr ?_
      | refine wM_it_zi.mpr ?_
      | refine wM_it_r1.mpr ?_
      | refine wM_it_r2.mpr ?_
      | refine putQ_dat.mpr ?_
      | refine putQ_own.mpr ?_
      | refine cndQ_bl.mpr ?_
      | refine x_map cmp_eq_int ?_
      | refine x_map cmp_ne_int ?_
      | refine x_map cmp_eq_str ?_
      | refine x_map cmp_ne_str ?_
      | refine x_map cmp_in_strs ?_
      | refine x_map cmp_in_strsT ?_
      | refine x_map cmp_ni_strs ?_
      | refine x_map cmp_ni_strsT ?_
      | refine x_lft (bin_mod (by first | decide | assumption | omega)) ?_
      | refine x_lft (bin_fdiv (by first | decide | assumption | omega) (by first | decide | assumption | omega)) ?_
      | refine x_lft (bin_mul_l (by decide)) ?_
      | refine x_lft (bin_mul_r (by decide)) ?_
      | refine x_pos (by decide) ?_
      | refine x_neg (by decide) ?_
      | refine x_npos (by decide) ?_
      | refine x_nneg (by decide) ?_
      | refine x_part ?_
      | refine x_star_lst ?_
      | refine x_star_tup ?_
      | refine x_en_lst ?_
      | refine x_en_tup ?_
      | refine x_zi_lst ?_
      | refine x_zi_tup ?_
      | refine x_r1 (by omega) (by omega) ?_
      | refine x_r2 (by omega) (by omega) (by omega) (by omega) ?_
      | refine x_size (by decide) ?_
      | refine x_ifp (by decide) ?_
      | refine x_ifn (by decide) ?_)
    | ((with_reducible apply x_map); exact rfl)
    | ((with_reducible apply x_lft); exact rfl)
    | ((with_reducible apply x_idx_lst); exact rfl)
    | ((with_reducible apply x_idx_tup); exact rfl)
    | ((with_reducible apply x_blt); exact rfl)
    | ((with_reducible apply x_tupQ); exact rfl)
    | ((with_reducible apply x_size); exact Nat.le_of_ble_eq_true rfl))
/-! ### parsing -/
theorem al_not {c d : Nat} (h : isAl c = true) (hd : isAl d = false) : c ≠ d := by
  intro e
  rw [e, hd] at h
  cases h
theorem name_al {s : PySem.Str} (h : NameOk s) : ∀ c ∈ tl s, isAl c = true := by
  obtain ⟨c, r, e, hc, hr, hl⟩ := h
  intro d hd
  have hd : d ∈ c :: r := by rw [← e]; exact hd
  rcases List.mem_cons.mp hd with rfl | hd
  · unfold isAl; rw [hc]; rfl
  · exact List.all_eq_true.mp hr d hd
theorem num_al (n : Nat) : ∀ c ∈ tl (numT n), isAl c = true := by
  intro d hd
  have hd : d ∈ numL n := by rw [← numT_l]; exact hd
  have := numL_digits n d hd
  unfold isAl
  simp [this]
theorem pt_al {ns : List PySem.Str} {p : Pt} (hn : ∀ s ∈ ns, NameOk s) (h : PtOk ns p) : ∀ c ∈ tl p.txt, isAl c = true := by
  cases p with
  | nm s => exact name_al (hn s h)
  | nu n => exact num_al n
theorem wh_al {ns : List PySem.Str} {p : Pt} (hn : ∀ s ∈ ns, NameOk s) (h : WhOk ns p) : ∀ c ∈ tl p.txt, isAl c = true := by
  cases p with
  | nm s => exact name_al (hn s h)
  | nu n => exact num_al n
theorem not_mem {s : PySem.Str} (h : ∀ c ∈ tl s, isAl c = true) {d : Nat} (hd : isAl d = false) : d ∉ tl s := fun hm => al_not (h d hm) hd rfl
theorem cutD_drop {l : List Dat} {k : Nat} (h : k ≤ l.length) : cutD l (some (k : Int)) none = l.drop k := by
  unfold cutD
  rw [HT.sIx_nat, HT.sIx_none, Nat.min_eq_left h, List.take_of_length_le (by rw [List.length_drop]; omega)]
theorem met_split {a y : PySem.Str} {s : Nat} {S : List Nat} (ey : tl y = s :: S) (hk : y.cps.all (· < 256) = true) {parts : List PySem.Str} (hne : parts ≠ []) (hp : ∀ p ∈ parts, s ∉ tl p) (ha : a = Txt.join y parts) (hl : a.length + 2 ≤ sizeLine) : metV .split (.str a) [.str y] = some (.own (.lst (parts.map .str))) := by
  show (if (y.length == 0) = false ∧ a.length + 2 ≤ sizeLine then some (RV.own (.lst ((Txt.split a y).map .str))) else none) = _
  have h0 : (y.length == 0) = false := by rw [len_tl, ey]; rfl
  rw [if_pos ⟨h0, hl⟩, ha, split_join ey hk hne hp]
def SpIsPart (C : Calls) (i : Nat) : Prop := ∀ (p : Pt) (ns : List PySem.Str), PtOk ns p → C i [.dat (.str p.txt), .dat (.lst (ns.map .str))] = some (.ok (.dat (.bl true)), none) ∧ C i [.dat (.str p.txt), .dat (.tup (ns.map .str))] = some (.ok (.dat (.bl true)), none)
section
variable {T : Tab} {fuel n i : Nat} {nn : Bool} {kws : List (Nat × List PySem.Str × List Nat)}
theorem isPart_ok {iW : Nat} (hW : SpWritten (callN T fuel n) iW) (hf : T.fns[i]? = some ⟨2, 2, false, nn, b_is_part iW, kws⟩) : SpIsPart (callN T fuel (n + 1)) i := by
  intro p ns hp
  have key : ∀ d, (d = .lst (ns.map .str) ∨ d = .tup (ns.map .str)) → wC (callN T fuel (n + 1)) i [.dat (.str p.txt), .dat d] fun r mo => r = .ok (.dat (.bl true)) ∧ mo = none := by
    intro d hd
    refine wC_of (m0 := [some (.dat (.str p.txt)), some (.dat d)]) hf rfl (by decide) rfl ?_
    unfold b_is_part
    rcases hd with rfl | rfl
    all_goals
      repeat ac_rfl
      refine x_p (fun h => ?_) (fun h => ?_)
      · repeat ac_rfl
        exact ⟨rfl, rfl⟩
      · repeat ac_rfl
        cases p with
        | nm s => exact absurd hp h
        | nu k =>
          refine x_cal (hW.nu k hp) ?_
          repeat ac_rfl
          exact ⟨rfl, rfl⟩
  constructor
  · obtain ⟨r, mo, e, rfl, rfl⟩ := of_wC (key _ (Or.inl rfl))
    exact e
  · obtain ⟨r, mo, e, rfl, rfl⟩ := of_wC (key _ (Or.inr rfl))
    exact e
/-- classes of the program that hold what they were given -/
structure TermC (T : Tab) (c g : Nat) : Prop where
  cls : ∃ cd, T.cls[c]? = some cd ∧ cd.exc = false ∧ cd.init = some g ∧ cd.flds = [("rank" : PySem.Str), "parts"]
structure RowC (T : Tab) (c g : Nat) : Prop where
  cls : ∃ cd, T.cls[c]? = some cd ∧ cd.exc = false ∧ cd.init = some g ∧ cd.flds = [("condition" : PySem.Str), "who", "part"]
def termO (c : Nat) (r p : Dat) : Dat := .obj c [("rank", r), ("parts", p)]
def rowO (c : Nat) (a b d : Dat) : Dat := .obj c [("condition", a), ("who", b), ("part", d)]
def SpTermI (C : Calls) (c g : Nat) : Prop := ∀ r p, C g [.own (.obj c []), .dat r, .dat p] = some (.ok (.dat .non), some (termO c r p))
def SpRowI (C : Calls) (c g : Nat) : Prop := ∀ a b d, C g [.own (.obj c []), .dat a, .dat b, .dat d] = some (.ok (.dat .non), some (rowO c a b d))
theorem termI_ok {c : Nat} (hc : TermC T c i) (hf : T.fns[i]? = some ⟨3, 3, true, nn, b_Term_init, kws⟩) : SpTermI (callN T fuel (n + 1)) c i := by
  intro r p
  obtain ⟨cd, h1, h2, h3, h4⟩ := hc.cls
  have key : wC (callN T fuel (n + 1)) i [.own (.obj c []), .dat r, .dat p] fun q mo => q = .ok (.dat .non) ∧ mo = some (termO c r p) := by
    refine wC_of (m0 := [some (.own (.obj c [])), some (.dat r), some (.dat p)]) hf rfl (by decide) rfl ?_
    unfold b_Term_init
    repeat ac_rfl
    refine x_attM h1 h2 (by rw [h4]; rfl) (by decide) ?_
    repeat ac_rfl
    refine x_attM h1 h2 (by rw [h4]; rfl) (by show 1 < 900; decide) ?_
    repeat ac_rfl
    exact ⟨rfl, rfl⟩
  obtain ⟨q, mo, e, rfl, rfl⟩ := of_wC key
  exact e
theorem rowI_ok {c : Nat} (hc : RowC T c i) (hf : T.fns[i]? = some ⟨4, 4, true, nn, b_Row_init, kws⟩) : SpRowI (callN T fuel (n + 1)) c i := by
  intro a b d
  obtain ⟨cd, h1, h2, h3, h4⟩ := hc.cls
  have key : wC (callN T fuel (n + 1)) i [.own (.obj c []), .dat a, .dat b, .dat d] fun q mo => q = .ok (.dat .non) ∧ mo = some (rowO c a b d) := by
    refine wC_of (m0 := [some (.own (.obj c [])), some (.dat a), some (.dat b), some (.dat d)]) hf rfl (by decide) rfl ?_
    unfold b_Row_init
    repeat ac_rfl
    refine x_attM h1 h2 (by rw [h4]; rfl) (by decide) ?_
    repeat ac_rfl
    refine x_attM h1 h2 (by rw [h4]; rfl) (by show 1 < 900; decide) ?_
    repeat ac_rfl
    refine x_attM h1 h2 (by rw [h4]; rfl) (by show 2 < 900; decide) ?_
    repeat ac_rfl
    exact ⟨rfl, rfl⟩
  obtain ⟨q, mo, e, rfl, rfl⟩ := of_wC key
  exact e
theorem cut2 {a b : PySem.Str} {ps : List Pt} : cutD (List.map Dat.str (a :: b :: List.map Pt.txt ps)) (some 2) none = ps.map fun p => .str p.txt := by
  have := cutD_drop (l := List.map Dat.str (a :: b :: List.map Pt.txt ps)) (k := 2) (by simp)
  rw [show ((2 : Nat) : Int) = 2 from rfl] at this
  rw [this, List.map_cons, List.map_cons, List.drop_succ_cons, List.drop_succ_cons, List.drop_zero, List.map_map]
  rfl
theorem atI1 {α : Type} {d e : α} {l : List α} : L2.atI (d :: e :: l) 1 = some e := atI_nat (k := 1) rfl rfl
theorem atI2 {α : Type} {d e f : α} {l : List α} : L2.atI (d :: e :: f :: l) 2 = some f := atI_nat (k := 2) rfl rfl
theorem atI3 {α : Type} {d e f g : α} {l : List α} : L2.atI (d :: e :: f :: g :: l) 3 = some g := atI_nat (k := 3) rfl rfl
/-- the rank in high order -/
def Ln.rank (l : Ln) : Int := if l.hi then (l.k : Int) else (l.ps.length : Int) + 1 - l.k
def Ln.obj (c : Nat) (l : Ln) : Dat := termO c (.int l.rank) (.tup (l.ps.map fun p => .str p.txt))
def SpPTerm (C : Calls) (c i : Nat) : Prop := ∀ (l : Ln) (ns : List PySem.Str), LnFit l → LnOk ns l → (∀ s ∈ ns, NameOk s) → C i [.dat (.str l.txt), .dat (.lst (ns.map .str))] = some (.ok (.dat (l.obj c)), none)
theorem pTerm_ok {c g iP iW : Nat} (hc : TermC T c g) (hI : SpTermI (callN T fuel n) c g) (hP : SpIsPart (callN T fuel n) iP) (hW : SpWritten (callN T fuel n) iW) (hf : T.fns[i]? = some ⟨2, 6, false, nn, b_parsed_term c iP iW, kws⟩) : SpPTerm (callN T fuel (n + 1)) c i := by
  intro l ns hl ho hn
  obtain ⟨cd, q1, q2, q3, q4⟩ := hc.cls
  have key : wC (callN T fuel (n + 1)) i [.dat (.str l.txt), .dat (.lst (ns.map .str))] fun q mo => q = .ok (.dat (l.obj c)) ∧ mo = none := by
    refine wC_of (m0 := [some (.dat (.str l.txt)), some (.dat (.lst (ns.map .str))), none, none, none, none]) hf rfl (by decide) rfl ?_
    unfold b_parsed_term
    have hlen := ln_len hl
    repeat ac_rfl
    refine x_lft (met_split (a := l.txt) (y := " ") (s := 32) (S := []) (parts := wordT l.hi :: numT l.k :: l.ps.map Pt.txt) (by decide +kernel) (by decide +kernel) (by simp) ?_ rfl (by unfold sizeLine; omega)) ?_
    · intro y hy
      rcases List.mem_cons.mp hy with rfl | hy
      · cases l.hi <;> decide +kernel
      rcases List.mem_cons.mp hy with rfl | hy
      · exact not_mem (num_al _) rfl
      obtain ⟨p, hp, rfl⟩ := List.mem_map.mp hy
      exact not_mem (pt_al hn (ho.ok p hp)) rfl
    have hk1 := ho.k1
    have hk2 := ho.k2
    have hle := ho.le
    obtain ⟨nm, hi, k, ps⟩ := l
    dsimp only at hk1 hk2 hle ⊢
    cases hi
    all_goals
      repeat ac_rfl
      rw [cut2]
      refine x_idx_lst (d := .str _) atI0 ?_
      repeat ac_rfl
      refine x_pos (by rw [List.length_map]; omega) ?_
      repeat ac_rfl
      refine x_npos (by rw [List.length_map]; omega) ?_
      repeat ac_rfl
      refine x_idx_lst (d := .str _) atI1 ?_
      repeat ac_rfl
      refine x_cal (hW.nu k (by omega)) ?_
      repeat ac_rfl
      refine x_pos (by omega) ?_
      repeat ac_rfl
      refine x_npos (by rw [List.length_map]; omega) ?_
      repeat ac_rfl
      refine x_comp ?_
      repeat ac_rfl
      refine x_compM (fun p : Pt => .str p.txt) (fun _ => .bl true) (fun m => ∃ y w, m = [some (.dat (.str w)), some (.dat (.lst (ns.map .str))), _, _, _, y]) ps rfl (by unfold sizeLine; omega) ⟨none, _, rfl⟩ ?_ ?_
      · rintro p hp m ⟨y, w, rfl⟩
        refine x_turnF ?_
        repeat ac_rfl
        refine x_cal (hP p ns (ho.ok p hp)).1 ?_
        repeat ac_rfl
        exact ⟨rfl, _, _, rfl⟩
      · rintro m ⟨y, w, rfl⟩
        refine x_compR ?_
        repeat ac_rfl
        refine x_blt (bltM_all (f := fun _ => true)) ?_
        rw [show (ps.all fun _ => true) = true by simp]
        repeat ac_rfl
        refine x_idx_lst (d := .str _) atI0 ?_
        repeat ac_rfl
        refine x_make q1 q2 q3 (hI _ _) ?_
        repeat ac_rfl
        refine ⟨?_, rfl⟩
        unfold Ln.obj Ln.rank
        simp [wordT]
        rfl
  obtain ⟨r, mo, e, rfl, rfl⟩ := of_wC key
  exact e
end
end SB.P
set_option maxHeartbeats 0
namespace SB.P
open PySem L2 TL
local macro_rules
  | `(tactic| ac_rfl) => `(tactic| first
    | (with_reducible first
      | refine x_ok ?_
      | refine x_out ?_
      | refine x_true ?_
      | refine x_false ?_
      | refine x_nottrue ?_
      | refine x_notfalse ?_
      | refine x_var ?_
      | refine x_varO ?_
      | refine x_cst ?_
      | refine x_asBl ?_
      | refine wM_evs_nil.mpr ?_
      | refine wM_evs_cons.mpr ?_
      | refine x_look_pdat ?_
      | refine x_look_pown ?_
      | refine x_look_pbor ?_
      | refine x_look_borD ?_
      | refine x_look_dat ?_
      | refine x_look_own ?_
      | refine x_look_bor ?_
      | refine x_frz_pdat ?_
      | refine x_frz_pown ?_
      | refine x_frz_pbor ?_
      | refine x_frz_pborD ?_
      | refine x_frz_dat ?_
      | refine x_frz_bor ?_
      | refine x_frz_borD ?_
      | refine x_frzs_nil ?_
      | refine x_frzs_cons ?_
      | refine x_looks_nil ?_
      | refine x_looks_cons ?_
      | refine wM_bin.mpr ?_
      | refine wM_una.mpr ?_
      | refine wM_cmp.mpr ?_
      | refine wM_chn.mpr ?_
      | refine wM_and.mpr ?_
      | refine wM_or.mpr ?_
      | refine wM_not.mpr ?_
      | refine wM_ife.mpr ?_
      | refine wM_tup.mpr ?_
      | refine wM_lst.mpr ?_
      | refine wM_dic0.mpr ?_
      | refine wM_idx.mpr ?_
      | refine wM_sli.mpr ?_
      | refine wM_partM_nil.mpr ?_
      | refine wM_part_cst.mpr ?_
      | refine wM_part_bin.mpr ?_
      | refine wM_part_var.mpr ?_
      | refine wM_part_una.mpr ?_
      | refine wM_att.mpr ?_
      | refine wM_cal.mpr ?_
      | refine wM_calm.mpr ?_
      | refine wM_mak.mpr ?_
      | refine wM_makv.mpr ?_
      | refine wM_blt.mpr ?_
      | refine wM_isi.mpr ?_
      | refine wM_met.mpr ?_
      | refine wM_kmak.mpr ?_
      | refine wM_kcal.mpr ?_
      | refine wM_omet.mpr ?_
      | refine wM_cmet.mpr ?_
      | refine wM_evs_star.mpr ?_
      | refine x_callMo ?_
      | refine x_app ?_
      | refine x_pop ?_
      | refine x_pop2 ?_
      | refine wM_fmt.mpr ?_
      | refine wM_jst.mpr ?_
      | refine x_ret ?_
      | refine x_some ?_
      | refine wS_seq.mpr ?_
      | refine wS_nil.mpr ?_
      | refine wS_asg.mpr ?_
      | refine wS_par.mpr ?_
      | refine wS_exp.mpr ?_
      | refine wS_ret.mpr ?_
      | refine wS_ife.mpr ?_
      | refine wS_retn.mpr ?_
      | refine wS_pas.mpr ?_
      | refine wS_tryq.mpr ?_
      | refine x_bind_nam ?_
      | refine x_bind_tup ?_
      | refine x_bind_cons ?_
      | refine x_bind_nil ?_
      | refine wS_loop.mpr ?_
      | refine wS_hdr.mpr ?_
      | refine wS_hand_dat.mpr ?_
      | refine wS_hand_own.mpr ?_
      | refine x_hand_bor ?_
      | refine x_hand_borD ?_
      | refine seqQ_nxt.mpr ?_
      | refine seqQ_ret.mpr ?_
      | refine turnQ_nxt.mpr ?_
      | refine turnQ_ret.mpr ?_
      | refine endQ_ret.mpr ?_
      | refine endQ_nxt.mpr ?_
      | refine fstQ_true.mpr ?_
      | refine fstQ_false.mpr ?_
      | refine notExc_nxt.mpr ?_
      | refine notExc_ret.mpr ?_
      | refine wM_asg_nam.mpr ?_
      | refine wM_asg_tup.mpr ?_
      | refine wM_asgs_nil.mpr ?_
      | refine wM_asgs_cons.mpr ?_
      | refine wM_asg_sub.mpr ?_
      | refine x_asg_sub ?_
      | refine wM_asg_att.mpr ?_
      | refine x_sub0 ?_
      | refine x_sub1 ?_
      | refine x_sub2 ?_
      | refine x_set_dat ?_
      | refine x_set_own ?_
      | refine x_set_bor ?_
      | refine wM_hold_dat.mpr ?_
      | refine wM_hold_own.mpr ?_
      | refine wM_hold_bor.mpr ?_
      | refine wM_it_pl.mpr ?_
      | refine wM_it_en.mpr ?_
      | refine wM_it_zi.mpr ?_
      | refine wM_it_r1.mpr ?_
      | refine wM_it_r2.mpr ?_
      | refine putQ_dat.mpr ?_
      | refine putQ_own.mpr ?_
      | refine cndQ_bl.mpr ?_
      | refine x_map cmp_eq_int ?_
      | refine x_map cmp_ne_int ?_
      | refine x_map cmp_eq_str ?_
      | refine x_map cmp_ne_str ?_
      | refine x_map cmp_in_strs ?_
      | refine x_map cmp_in_strsT ?_
      | refine x_map cmp_ni_strs ?_
      | refine x_map cmp_ni_strsT ?_
      | refine x_lft (bin_mod (by first | decide | assumption | omega)) ?_
      | refine x_lft (bin_fdiv (by first | decide | assumption | omega) (by first | decide | assumption | omega)) ?_
      | refine x_lft (bin_mul_l (by decide)) ?_
      | refine x_lft (bin_mul_r (by decide)) ?_
      | refine x_pos (by decide) ?_
      | refine x_neg (by decide) ?_
      | refine x_npos (by decide) ?_
      | refine x_nneg (by decide) ?_
      | refine x_part ?_
      | refine x_star_lst ?_
      | refine x_star_tup ?_
      | refine x_en_lst ?_
      | refine x_en_tup ?_
      | refine x_zi_lst ?_
      | refine x_zi_tup ?_
      | refine x_r1 (by omega) (by omega) ?_
      | refine x_r2 (by omega) (by omega) (by omega) (by omega) ?_
      | refine x_size (by decide) ?_
      | refine x_ifp (by decide) ?_
      | refine x_ifn (by decide) ?_)
    | ((with_reducible apply x_map); exact rfl)
    | ((with_reducible apply x_lft); exact rfl)
    | ((with_reducible apply x_idx_lst); exact rfl)
    | ((with_reducible apply x_idx_tup); exact rfl)
    | ((with_reducible apply x_blt); exact rfl)
    | ((with_reducible apply x_tupQ); exact rfl)
    | ((with_reducible apply x_size); exact Nat.le_of_ble_eq_true rfl))
/-! ### equal lists of texts -/
def Low (s : PySem.Str) : Prop := ∀ c ∈ tl s, c < 256
theorem pds_strs : ∀ l : List PySem.Str, pds (l.map .str) = some (l.map .str)
  | [] => rfl
  | s :: r => by rw [List.map_cons, pds, pds_strs r]; rfl
theorem pd_strs (l : List PySem.Str) : pd (.lst (l.map .str)) = some (.list (l.map .str)) := by rw [pd, pds_strs]; rfl
theorem ok_low {s : PySem.Str} (h : Low s) : PyData.strOk s = true := by
  unfold PyData.strOk
  rw [Array.all_eq_true']
  intro c hc
  have := h c (by simpa using hc)
  exact decide_eq_true (by omega)
theorem can_low : ∀ l : List PySem.Str, (∀ s ∈ l, Low s) → PyData.canLayAll0 (l.map .str) = true
  | [], _ => rfl
  | s :: r, h => by
    rw [List.map_cons, PyData.canLayAll0, can_low r fun t ht => h t (by simp [ht])]
    show PyData.strOk s && true = true
    rw [ok_low (h s (by simp))]
    rfl
theorem dep_strs : ∀ l : List PySem.Str, PyData.depthAll (l.map .str) = 0
  | [] => rfl
  | s :: r => by
    rw [List.map_cons, PyData.depthAll, dep_strs r]
    rfl
theorem shaped_strs {l : List PySem.Str} (h : ∀ s ∈ l, Low s) : SeqAt.shaped (.list (l.map .str)) = true := by
  unfold SeqAt.shaped
  rw [PyData.canLay0, can_low l h, PyData.depth, dep_strs]
  rfl
theorem eqv_strs : ∀ a b : List PySem.Str, PyData.eqvAll (a.map .str) (b.map .str) = decide (a = b)
  | [], [] => rfl
  | [], _ :: _ => rfl
  | _ :: _, [] => rfl
  | x :: a, y :: b => by
    rw [List.map_cons, List.map_cons, PyData.eqvAll, eqv_strs a b]
    show (x == y && _) = _
    by_cases h : x = y
    · subst h; simp
    · simp [h]
theorem eq_strs {a b : List PySem.Str} (ha : ∀ s ∈ a, Low s) (hb : ∀ s ∈ b, Low s) : cmpV .Eq (.lst (a.map .str)) (.lst (b.map .str)) = some (decide (a = b)) := by
  show eqD _ _ = _
  unfold eqD
  rw [show scalD (.lst (a.map .str)) (.lst (b.map .str)) = false from rfl, pd_strs, pd_strs]
  simp only [Bool.false_eq_true, if_false, shaped_strs ha, shaped_strs hb, Bool.and_self, if_true]
  rw [PyData.eqv, eqv_strs]
theorem low_al {s : PySem.Str} (h : ∀ c ∈ tl s, isAl c = true) : Low s := fun c hc => by
  have := h c hc
  unfold isAl isLow at this
  simp at this
  omega
/-! ### the words of rows -/
def deedW : Option (Pt × Pt) → List PySem.Str
  | none => ["keep"]
  | some (w, p) => ["sell", w.txt, "at", p.txt]
def Rw.words (r : Rw) : List PySem.Str := match r.cond with
  | none => deedW r.sale
  | some (p, b, q) => [("if" : PySem.Str), p.txt, lessT b, q.txt ++ ":"] ++ deedW r.sale
theorem sell_tl : tl ("sell " : PySem.Str) = tl ("sell" : PySem.Str) ++ tl (" " : PySem.Str) := by decide +kernel
theorem at_tl : tl (" at " : PySem.Str) = tl (" " : PySem.Str) ++ (tl ("at" : PySem.Str) ++ tl (" " : PySem.Str)) := by decide +kernel
theorem deed_join (o : Option (Pt × Pt)) : deedT o = Txt.join " " (deedW o) := by
  cases o with
  | none => exact ext_tl (by rw [join_eq, tl_join]; rfl)
  | some q =>
    obtain ⟨w, p⟩ := q
    refine ext_tl ?_
    rw [join_eq, tl_join]
    unfold deedT deedW
    dsimp only
    rw [tl_append, tl_append, tl_append, sell_tl, at_tl]
    simp [joinL, List.append_assoc]
theorem joinL_app (S : List Nat) {b : List (List Nat)} (hb : b ≠ []) : ∀ a : List (List Nat), joinL S (a ++ [joinL S b]) = joinL S (a ++ b)
  | [] => by simp [joinL]
  | [x] => by
    cases b with
    | nil => exact absurd rfl hb
    | cons y b => simp [joinL]
  | x :: y :: a => by
    have := joinL_app S hb (y :: a)
    simp only [List.cons_append] at this ⊢
    rw [joinL, joinL, this]
theorem row_join (r : Rw) : r.txt = Txt.join " " r.words := by
  obtain ⟨cond, sale⟩ := r
  cases cond with
  | none => exact deed_join _
  | some c =>
    obtain ⟨p, b, q⟩ := c
    refine ext_tl ?_
    show tl (Txt.join " " [("if" : PySem.Str), p.txt, lessT b, q.txt ++ ":", deedT sale]) = tl (Txt.join " " ([("if" : PySem.Str), p.txt, lessT b, q.txt ++ ":"] ++ deedW sale))
    rw [deed_join, join_eq, join_eq, join_eq, tl_join, tl_join, List.map_append]
    have hne : (deedW sale).map tl ≠ [] := by
      cases sale with
      | none => simp [deedW]
      | some q => obtain ⟨w, p⟩ := q; simp [deedW]
    rw [← joinL_app _ hne]
    simp only [List.map_cons, List.map_nil, List.cons_append, List.nil_append, tl_join]
structure SaleOk (ns ss : List PySem.Str) (o : Option (Pt × Pt)) : Prop where
  ok : ∀ w p, o = some (w, p) → WhOk ss w ∧ PtOk ns p
theorem deedW_nosp {ns ss : List PySem.Str} {o : Option (Pt × Pt)} (hn : ∀ s ∈ ns, NameOk s) (hs : ∀ s ∈ ss, NameOk s) (h : SaleOk ns ss o) : ∀ y ∈ deedW o, (∀ c ∈ tl y, isAl c = true) := by
  intro y hy
  cases o with
  | none =>
    rcases List.mem_singleton.mp hy with rfl
    decide +kernel
  | some q =>
    obtain ⟨w, p⟩ := q
    obtain ⟨hw, hp⟩ := h.ok w p rfl
    simp only [deedW, List.mem_cons, List.not_mem_nil, or_false] at hy
    rcases hy with rfl | rfl | rfl | rfl
    · decide +kernel
    · exact wh_al hs hw
    · decide +kernel
    · exact pt_al hn hp
theorem words_nosp {ns ss : List PySem.Str} {r : Rw} (hn : ∀ s ∈ ns, NameOk s) (hs : ∀ s ∈ ss, NameOk s) (h : RwOk ns ss r) : ∀ y ∈ r.words, 32 ∉ tl y ∧ (61 ∉ tl y ∨ y = lessT false) := by
  intro y hy
  have hd : ∀ y ∈ deedW r.sale, 32 ∉ tl y ∧ (61 ∉ tl y ∨ y = lessT false) := fun y hy => by
    have := deedW_nosp hn hs ⟨h.sale⟩ y hy
    exact ⟨not_mem this rfl, Or.inl (not_mem this rfl)⟩
  unfold Rw.words at hy
  split at hy
  · exact hd y hy
  · rename_i p b q e
    obtain ⟨hp, hq⟩ := h.cond p b q e
    rcases List.mem_append.mp hy with hy | hy
    · simp only [List.mem_cons, List.not_mem_nil, or_false] at hy
      rcases hy with rfl | rfl | rfl | rfl
      · exact ⟨by decide +kernel, Or.inl (by decide +kernel)⟩
      · exact ⟨not_mem (pt_al hn hp) rfl, Or.inl (not_mem (pt_al hn hp) rfl)⟩
      · cases b
        · exact ⟨by decide +kernel, Or.inr rfl⟩
        · exact ⟨by decide +kernel, Or.inl (by decide +kernel)⟩
      · rw [tl_append]
        have e1 : tl (":" : PySem.Str) = [58] := by decide +kernel
        rw [e1]
        simp only [List.mem_append, List.mem_singleton]
        exact ⟨fun h => h.elim (not_mem (pt_al hn hq) rfl) (by decide), Or.inl fun h => h.elim (not_mem (pt_al hn hq) rfl) (by decide)⟩
    · exact hd y hy
theorem num_not_name {k : Nat} (h : NameOk (numT k)) : False := by
  obtain ⟨c, r, e, hc, _⟩ := h
  rw [numT_l] at e
  have := numL_digits k c (by rw [e]; simp)
  unfold isLow at hc
  simp at hc
  omega
end SB.P
set_option maxHeartbeats 0
namespace SB.P
open PySem L2 TL
local macro_rules
  | `(tactic| ac_rfl) => `(tactic| first
    | (with_reducible first
      | refine x_ok ?_
      | refine x_out ?_
      | refine x_true ?_
      | refine x_false ?_
      | refine x_nottrue ?_
      | refine x_notfalse ?_
      | refine x_var ?_
      | refine x_varO ?_
      | refine x_cst ?_
      | refine x_asBl ?_
      | refine wM_evs_nil.mpr ?_
      | refine wM_evs_cons.mpr ?_
      | refine x_look_pdat ?_
      | refine x_look_pown ?_
      | refine x_look_pbor ?_
      | refine x_look_borD ?_
      | refine x_look_dat ?_
      | refine x_look_own ?_
      | refine x_look_bor ?_
      | refine x_frz_pdat ?_
      | refine x_frz_pown ?_
      | refine x_frz_pbor ?_
      | refine x_frz_pborD ?_
      | refine x_frz_dat ?_
      | refine x_frz_bor ?_
      | refine x_frz_borD ?_
      | refine x_frzs_nil ?_
      | refine x_frzs_cons ?_
      | refine x_looks_nil ?_
      | refine x_looks_cons ?_
      | refine wM_bin.mpr ?_
      | refine wM_una.mpr ?_
      | refine wM_cmp.mpr ?_
      | refine wM_chn.mpr ?_
      | refine wM_and.mpr ?_
      | refine wM_or.mpr ?_
      | refine wM_not.mpr ?_
      | refine wM_ife.mpr ?_
      | refine wM_tup.mpr ?_
      | refine wM_lst.mpr ?_
      | refine wM_dic0.mpr ?_
      | refine wM_idx.mpr ?_
      | refine wM_sli.mpr ?_
      | refine wM_partM_nil.mpr ?_
      | refine wM_part_cst.mpr ?_
      | refine wM_part_bin.mpr ?_
      | refine wM_part_var.mpr ?_
      | refine wM_part_una.mpr ?_
      | refine wM_att.mpr ?_
      | refine wM_cal.mpr ?_
      | refine wM_calm.mpr ?_
      | refine wM_mak.mpr ?_
      | refine wM_makv.mpr ?_
      | refine wM_blt.mpr ?_
      | refine wM_isi.mpr ?_
      | refine wM_met.mpr ?_
      | refine wM_kmak.mpr ?_
      | refine wM_kcal.mpr ?_
      | refine wM_omet.mpr ?_
      | refine wM_cmet.mpr ?_
      | refine wM_evs_star.mpr ?_
      | refine x_callMo ?_
      | refine x_app ?_
      | refine x_pop ?_
      | refine x_pop2 ?_
      | refine wM_fmt.mpr ?_
      | refine wM_jst.mpr ?_
      | refine x_ret ?_
      | refine x_some ?_
      | refine wS_seq.mpr ?_
      | refine wS_nil.mpr ?_
      | refine wS_asg.mpr ?_
      | refine wS_par.mpr ?_
      | refine wS_exp.mpr ?_
      | refine wS_ret.mpr ?_
      | refine wS_ife.mpr ?_
      | refine wS_retn.mpr ?_
      | refine wS_pas.mpr ?_
      | refine wS_tryq.mpr ?_
      | refine x_bind_nam ?_
      | refine x_bind_tup ?_
      | refine x_bind_cons ?_
      | refine x_bind_nil ?_
      | refine wS_loop.mpr ?_
      | refine wS_hdr.mpr ?_
      | refine wS_hand_dat.mpr ?_
      | refine wS_hand_own.mpr ?_
      | refine x_hand_bor ?_
      | refine x_hand_borD ?_
      | refine seqQ_nxt.mpr ?_
      | refine seqQ_ret.mpr ?_
      | refine turnQ_nxt.mpr ?_
      | refine turnQ_ret.mpr ?_
      | refine endQ_ret.mpr ?_
      | refine endQ_nxt.mpr ?_
      | refine fstQ_true.mpr ?_
      | refine fstQ_false.mpr ?_
      | refine notExc_nxt.mpr ?_
      | refine notExc_ret.mpr ?_
      | refine wM_asg_nam.mpr ?_
      | refine wM_asg_tup.mpr ?_
      | refine wM_asgs_nil.mpr ?_
      | refine wM_asgs_cons.mpr ?_
      | refine wM_asg_sub.mpr ?_
      | refine x_asg_sub ?_
      | refine wM_asg_att.mpr ?_
      | refine x_sub0 ?_
      | refine x_sub1 ?_
      | refine x_sub2 ?_
      | refine x_set_dat ?_
      | refine x_set_own ?_
      | refine x_set_bor ?_
      | refine wM_hold_dat.mpr ?_
      | refine wM_hold_own.mpr ?_
      | refine wM_hold_bor.mpr ?_
      | refine wM_it_pl.mpr ?_
      | refine wM_it_en.mpr ?_
      | refine wM_it_zi.mpr ?_
      | refine wM_it_r1.mpr ?_
      | refine wM_it_r2.mpr ?_
      | refine putQ_dat.mpr ?_
      | refine putQ_own.mpr ?_
      | refine cndQ_bl.mpr ?_
      | refine x_map cmp_eq_int ?_
      | refine x_map cmp_ne_int ?_
      | refine x_map cmp_eq_str ?_
      | refine x_map cmp_ne_str ?_
      | refine x_map cmp_in_strs ?_
      | refine x_map cmp_in_strsT ?_
      | refine x_map cmp_ni_strs ?_
      | refine x_map cmp_ni_strsT ?_
      | refine x_lft (bin_mod (by first | decide | assumption | omega)) ?_
      | refine x_lft (bin_fdiv (by first | decide | assumption | omega) (by first | decide | assumption | omega)) ?_
      | refine x_lft (bin_mul_l (by decide)) ?_
      | refine x_lft (bin_mul_r (by decide)) ?_
      | refine x_pos (by decide) ?_
      | refine x_neg (by decide) ?_
      | refine x_npos (by decide) ?_
      | refine x_nneg (by decide) ?_
      | refine x_part ?_
      | refine x_star_lst ?_
      | refine x_star_tup ?_
      | refine x_en_lst ?_
      | refine x_en_tup ?_
      | refine x_zi_lst ?_
      | refine x_zi_tup ?_
      | refine x_r1 (by omega) (by omega) ?_
      | refine x_r2 (by omega) (by omega) (by omega) (by omega) ?_
      | refine x_size (by decide) ?_
      | refine x_ifp (by decide) ?_
      | refine x_ifn (by decide) ?_)
    | ((with_reducible apply x_map); exact rfl)
    | ((with_reducible apply x_lft); exact rfl)
    | ((with_reducible apply x_idx_lst); exact rfl)
    | ((with_reducible apply x_idx_tup); exact rfl)
    | ((with_reducible apply x_blt); exact rfl)
    | ((with_reducible apply x_tupQ); exact rfl)
    | ((with_reducible apply x_size); exact Nat.le_of_ble_eq_true rfl))
def atTx : Option (Pt × Pt) → Dat
  | none => .non
  | some (_, p) => .str p.txt
def condTx : Option (Pt × Bool × Pt) → Dat
  | none => .non
  | some (p, b, q) => .tup [.str p.txt, .str (lessT b), .str q.txt]
/-- the Row of a row -/
def Rw.obj (c : Nat) (r : Rw) : Dat := rowO c (condTx r.cond) (whoD r.sale) (atTx r.sale)
def SpPWho (C : Calls) (i : Nat) : Prop := ∀ (w : Pt) (ss : List PySem.Str), (∀ s ∈ ss, NameOk s) → ss.length ≤ 4 → WhOk ss w → C i [.dat (.str w.txt), .dat (.tup (ss.map .str))] = some (.ok (.dat w.dat), none)
def SpPDeed (C : Calls) (c i : Nat) : Prop := ∀ (o : Option (Pt × Pt)) (cd : Dat) (ns ss : List PySem.Str), (∀ s ∈ ns, NameOk s) → (∀ s ∈ ss, NameOk s) → ss.length ≤ 4 → SaleOk ns ss o → C i [.dat (.lst ((deedW o).map .str)), .dat cd, .dat (.tup (ss.map .str)), .dat (.tup (ns.map .str))] = some (.ok (.dat (rowO c cd (whoD o) (atTx o))), none)
section
variable {T : Tab} {fuel n i : Nat} {nn : Bool} {kws : List (Nat × List PySem.Str × List Nat)}
theorem pWho_ok {iW : Nat} (hW : SpWritten (callN T fuel n) iW) (hf : T.fns[i]? = some ⟨2, 3, false, nn, b_parsed_who iW, kws⟩) : SpPWho (callN T fuel (n + 1)) i := by
  intro w ss hs hl hw
  have key : wC (callN T fuel (n + 1)) i [.dat (.str w.txt), .dat (.tup (ss.map .str))] fun q mo => q = .ok (.dat w.dat) ∧ mo = none := by
    refine wC_of (m0 := [some (.dat (.str w.txt)), some (.dat (.tup (ss.map .str))), none]) hf rfl (by decide) rfl ?_
    unfold b_parsed_who
    repeat ac_rfl
    refine x_p (fun h => ?_) (fun h => ?_)
    · repeat ac_rfl
      cases w with
      | nm s => exact ⟨rfl, rfl⟩
      | nu k => exact (num_not_name (hs _ h)).elim
    · repeat ac_rfl
      cases w with
      | nm s => exact absurd hw h
      | nu k =>
        have h1 : 1 ≤ k := hw.1
        have h2 : k ≤ ss.length := hw.2
        refine x_cal (hW.nu k (by omega)) ?_
        repeat ac_rfl
        refine x_pos (by omega) ?_
        repeat ac_rfl
        refine x_pos (by rw [List.length_map]; omega) ?_
        repeat ac_rfl
        exact ⟨rfl, rfl⟩
  obtain ⟨r, mo, e, rfl, rfl⟩ := of_wC key
  exact e
theorem pDeed_ok {c g iWh iP : Nat} (hc : RowC T c g) (hI : SpRowI (callN T fuel n) c g) (hP : SpIsPart (callN T fuel n) iP) (hWh : SpPWho (callN T fuel n) iWh) (hf : T.fns[i]? = some ⟨4, 5, false, nn, b_parsed_deed c iWh iP, kws⟩) : SpPDeed (callN T fuel (n + 1)) c i := by
  intro o cv ns ss hn hs hl ho
  obtain ⟨cd, q1, q2, q3, q4⟩ := hc.cls
  have key : wC (callN T fuel (n + 1)) i [.dat (.lst ((deedW o).map .str)), .dat cv, .dat (.tup (ss.map .str)), .dat (.tup (ns.map .str))] fun q mo => q = .ok (.dat (rowO c cv (whoD o) (atTx o))) ∧ mo = none := by
    refine wC_of (m0 := [some (.dat (.lst ((deedW o).map .str))), some (.dat cv), some (.dat (.tup (ss.map .str))), some (.dat (.tup (ns.map .str))), none]) hf rfl (by decide) rfl ?_
    unfold b_parsed_deed
    repeat ac_rfl
    refine x_map (eq_strs (b := ["keep"]) (fun s h => low_al (deedW_nosp hn hs ho s h)) (by intro s h; rcases List.mem_singleton.mp h with rfl; unfold Low; decide +kernel)) ?_
    repeat ac_rfl
    cases o with
    | none =>
      refine x_pos rfl ?_
      repeat ac_rfl
      refine x_make q1 q2 q3 (hI _ _ _) ?_
      repeat ac_rfl
      exact ⟨rfl, rfl⟩
    | some q =>
      obtain ⟨w, p⟩ := q
      obtain ⟨hw, hp⟩ := ho.ok w p rfl
      refine x_neg (by simp [deedW]) ?_
      unfold deedW
      dsimp only
      repeat ac_rfl
      refine x_npos rfl ?_
      repeat ac_rfl
      refine x_cal (hP p ns hp).2 ?_
      repeat ac_rfl
      refine x_cal (hWh w ss hs hl hw) ?_
      repeat ac_rfl
      refine x_ifn (by cases w <;> exact Bool.false_ne_true) ?_
      repeat ac_rfl
      refine x_make q1 q2 q3 (hI _ _ _) ?_
      repeat ac_rfl
      exact ⟨rfl, rfl⟩
  obtain ⟨r, mo, e, rfl, rfl⟩ := of_wC key
  exact e
theorem cut_colon {a : PySem.Str} : L2.cutS (a ++ ":") none (some (-1)) = a := by
  refine ext_tl ?_
  have hl : (a ++ (":" : PySem.Str)).length = a.length + 1 := by rw [len_app]; rfl
  have h1 : HT.sIx (a ++ (":" : PySem.Str)).length (a ++ (":" : PySem.Str)).length (some (-1)) = a.length := by
    rw [hl]
    show (if (-1 : Int) < 0 then ((-1 : Int) + ((a.length + 1 : Nat) : Int)).toNat else min (-1 : Int).toNat (a.length + 1)) = _
    rw [if_pos (by decide)]
    omega
  show ((tl (a ++ (":" : PySem.Str))).drop (HT.sIx (a ++ (":" : PySem.Str)).length 0 none)).take (HT.sIx (a ++ (":" : PySem.Str)).length (a ++ (":" : PySem.Str)).length (some (-1)) - HT.sIx (a ++ (":" : PySem.Str)).length 0 none) = tl a
  rw [h1, HT.sIx_none, List.drop_zero, Nat.sub_zero, tl_append, len_tl, List.take_left]
theorem sli_colon {a : PySem.Str} (h : a.length ≤ 1000) : sliV (.str (a ++ ":")) (partD none) (partD (some (-1))) = some (.dat (.str a)) := by
  show (if (a ++ (":" : PySem.Str)).length ≤ sizeLine then some (RV.dat (.str (L2.cutS (a ++ ":") none (some (-1))))) else none) = _
  rw [if_pos (by rw [len_app]; show _ + 1 ≤ sizeLine; unfold sizeLine; omega), cut_colon]
theorem cut4 {a b c d : PySem.Str} {l : List PySem.Str} : cutD (List.map Dat.str (a :: b :: c :: d :: l)) (some 4) none = l.map .str := by
  have := cutD_drop (l := List.map Dat.str (a :: b :: c :: d :: l)) (k := 4) (by simp)
  rw [show ((4 : Nat) : Int) = 4 from rfl] at this
  rw [this]
  rfl
theorem less_in {b : Bool} : cmpV .NotIn (.str (lessT b)) (.tup [.str "<", .str "<="]) = some false := by
  rw [show [Dat.str "<", Dat.str "<="] = ([("<" : PySem.Str), "<="]).map Dat.str from rfl, cmp_ni_strsT]
  cases b <;> decide +kernel
def SpPRow (C : Calls) (c i : Nat) : Prop := ∀ (r : Rw) (b : Bool) (ns ss : List PySem.Str), (∀ s ∈ ns, NameOk s) → (∀ s ∈ ss, NameOk s) → ss.length ≤ 4 → RwFit r → RwOk ns ss r → (r.cond = none ↔ b = true) → C i [.dat (.str r.txt), .dat (.bl b), .dat (.tup (ss.map .str)), .dat (.tup (ns.map .str))] = some (.ok (.dat (r.obj c)), none)
theorem pRow_ok {c iD iP : Nat} (hD : SpPDeed (callN T fuel n) c iD) (hP : SpIsPart (callN T fuel n) iP) (hf : T.fns[i]? = some ⟨4, 6, false, nn, b_parsed_row iD iP, kws⟩) : SpPRow (callN T fuel (n + 1)) c i := by
  intro r b ns ss hn hs hl hfit ho hb
  have key : wC (callN T fuel (n + 1)) i [.dat (.str r.txt), .dat (.bl b), .dat (.tup (ss.map .str)), .dat (.tup (ns.map .str))] fun q mo => q = .ok (.dat (r.obj c)) ∧ mo = none := by
    refine wC_of (m0 := [some (.dat (.str r.txt)), some (.dat (.bl b)), some (.dat (.tup (ss.map .str))), some (.dat (.tup (ns.map .str))), none, none]) hf rfl (by decide) rfl ?_
    unfold b_parsed_row
    have hrl := rw_len hfit
    repeat ac_rfl
    have hne : r.words ≠ [] := by
      unfold Rw.words
      split
      · cases r.sale with
        | none => simp [deedW]
        | some q => obtain ⟨w, p⟩ := q; simp [deedW]
      · simp
    refine x_lft (met_split (a := r.txt) (y := " ") (s := 32) (S := []) (parts := r.words) (by decide +kernel) (by decide +kernel) hne (fun y hy => (words_nosp hn hs ho y hy).1) (row_join r) (by unfold sizeLine; omega)) ?_
    repeat ac_rfl
    have hsl : SaleOk ns ss r.sale := ⟨ho.sale⟩
    have hcd := ho.cond
    clear hne hrl ho hfit
    obtain ⟨cond, sale⟩ := r
    dsimp only at hb hsl hcd
    cases cond with
    | none =>
      have : b = true := hb.mp rfl
      subst this
      repeat ac_rfl
      refine x_cal (hD sale .non ns ss hn hs hl hsl) ?_
      repeat ac_rfl
      exact ⟨rfl, rfl⟩
    | some cc =>
      obtain ⟨p, lt, q⟩ := cc
      have : b = false := by
        cases b with
        | false => rfl
        | true => cases hb.mpr rfl
      subst this
      obtain ⟨hp, hq⟩ := hcd p lt q rfl
      obtain ⟨w0, ws, ew⟩ : ∃ w0 ws, deedW sale = w0 :: ws := by
        cases sale with
        | none => exact ⟨_, _, rfl⟩
        | some q => obtain ⟨w, p⟩ := q; exact ⟨_, _, rfl⟩
      have ewords : Rw.words ⟨some (p, lt, q), sale⟩ = ("if" : PySem.Str) :: p.txt :: lessT lt :: (q.txt ++ ":") :: w0 :: ws := by
        unfold Rw.words
        dsimp only
        rw [ew]
        rfl
      rw [ewords]
      repeat ac_rfl
      refine x_neg (by simp only [List.map_cons, List.length_cons]; omega) ?_
      cases lt
      all_goals
        repeat first | ac_rfl | refine x_idx_lst (d := .str _) atI0 ?_ | refine x_idx_lst (d := .str _) atI1 ?_ | refine x_idx_lst (d := .str _) atI2 ?_ | refine x_idx_lst (d := .str _) atI3 ?_
        rw [PySem.W.KT.ends_app]
        repeat first | ac_rfl | refine x_idx_lst (d := .str _) atI0 ?_ | refine x_idx_lst (d := .str _) atI1 ?_ | refine x_idx_lst (d := .str _) atI2 ?_ | refine x_idx_lst (d := .str _) atI3 ?_
        refine x_lft (sli_colon (by have := pt_len (pt_fit hn hq); omega)) ?_
        repeat first | ac_rfl | refine x_idx_lst (d := .str _) atI0 ?_ | refine x_idx_lst (d := .str _) atI1 ?_ | refine x_idx_lst (d := .str _) atI2 ?_ | refine x_idx_lst (d := .str _) atI3 ?_
        refine x_cal (hP p ns hp).2 ?_
        repeat first | ac_rfl | refine x_idx_lst (d := .str _) atI0 ?_ | refine x_idx_lst (d := .str _) atI1 ?_ | refine x_idx_lst (d := .str _) atI2 ?_ | refine x_idx_lst (d := .str _) atI3 ?_
        refine x_cal (hP q ns hq).2 ?_
        repeat ac_rfl
        rw [cut4, ← ew]
        refine x_cal (hD sale _ ns ss hn hs hl hsl) ?_
        repeat ac_rfl
        exact ⟨rfl, rfl⟩
  obtain ⟨r, mo, e, rfl, rfl⟩ := of_wC key
  exact e
end
end SB.P
set_option maxHeartbeats 0
namespace SB.P
open PySem L2 TL
local macro_rules
  | `(tactic| ac_rfl) => `(tactic| first
    | (with_reducible first
      | refine x_ok ?_
      | refine x_out ?_
      | refine x_true ?_
      | refine x_false ?_
      | refine x_nottrue ?_
      | refine x_notfalse ?_
      | refine x_var ?_
      | refine x_varO ?_
      | refine x_cst ?_
      | refine x_asBl ?_
      | refine wM_evs_nil.mpr ?_
      | refine wM_evs_cons.mpr ?_
      | refine x_look_pdat ?_
      | refine x_look_pown ?_
      | refine x_look_pbor ?_
      | refine x_look_borD ?_
      | refine x_look_dat ?_
      | refine x_look_own ?_
      | refine x_look_bor ?_
      | refine x_frz_pdat ?_
      | refine x_frz_pown ?_
      | refine x_frz_pbor ?_
      | refine x_frz_pborD ?_
      | refine x_frz_dat ?_
      | refine x_frz_bor ?_
      | refine x_frz_borD ?_
      | refine x_frzs_nil ?_
      | refine x_frzs_cons ?_
      | refine x_looks_nil ?_
      | refine x_looks_cons ?_
      | refine wM_bin.mpr ?_
      | refine wM_una.mpr ?_
      | refine wM_cmp.mpr ?_
      | refine wM_chn.mpr ?_
      | refine wM_and.mpr ?_
      | refine wM_or.mpr ?_
      | refine wM_not.mpr ?_
      | refine wM_ife.mpr ?_
      | refine wM_tup.mpr ?_
      | refine wM_lst.mpr ?_
      | refine wM_dic0.mpr ?_
      | refine wM_idx.mpr ?_
      | refine wM_sli.mpr ?_
      | refine wM_partM_nil.mpr ?_
      | refine wM_part_cst.mpr ?_
      | refine wM_part_bin.mpr ?_
      | refine wM_part_var.mpr ?_
      | refine wM_part_una.mpr ?_
      | refine wM_att.mpr ?_
      | refine wM_cal.mpr ?_
      | refine wM_calm.mpr ?_
      | refine wM_mak.mpr ?_
      | refine wM_makv.mpr ?_
      | refine wM_blt.mpr ?_
      | refine wM_isi.mpr ?_
      | refine wM_met.mpr ?_
      | refine wM_kmak.mpr ?_
      | refine wM_kcal.mpr ?_
      | refine wM_omet.mpr ?_
      | refine wM_cmet.mpr ?_
      | refine wM_evs_star.mpr ?_
      | refine x_callMo ?_
      | refine x_app ?_
      | refine x_pop ?_
      | refine x_pop2 ?_
      | refine wM_fmt.mpr ?_
      | refine wM_jst.mpr ?_
      | refine x_ret ?_
      | refine x_some ?_
      | refine wS_seq.mpr ?_
      | refine wS_nil.mpr ?_
      | refine wS_asg.mpr ?_
      | refine wS_par.mpr ?_
      | refine wS_exp.mpr ?_
      | refine wS_ret.mpr ?_
      | refine wS_ife.mpr ?_
      | refine wS_retn.mpr ?_
      | refine wS_pas.mpr ?_
      | refine wS_tryq.mpr ?_
      | refine x_bind_nam ?_
      | refine x_bind_tup ?_
      | refine x_bind_cons ?_
      | refine x_bind_nil ?_
      | refine wS_loop.mpr ?_
      | refine wS_hdr.mpr ?_
      | refine wS_hand_dat.mpr ?_
      | refine wS_hand_own.mpr ?_
      | refine x_hand_bor ?_
      | refine x_hand_borD ?_
      | refine seqQ_nxt.mpr ?_
      | refine seqQ_ret.mpr ?_
      | refine turnQ_nxt.mpr ?_
      | refine turnQ_ret.mpr ?_
      | refine endQ_ret.mpr ?_
      | refine endQ_nxt.mpr ?_
      | refine fstQ_true.mpr ?_
      | refine fstQ_false.mpr ?_
      | refine notExc_nxt.mpr ?_
      | refine notExc_ret.mpr ?_
      | refine wM_asg_nam.mpr ?_
      | refine wM_asg_tup.mpr ?_
      | refine wM_asgs_nil.mpr ?_
      | refine wM_asgs_cons.mpr ?_
      | refine wM_asg_sub.mpr ?_
      | refine x_asg_sub ?_
      | refine wM_asg_att.mpr ?_
      | refine x_sub0 ?_
      | refine x_sub1 ?_
      | refine x_sub2 ?_
      | refine x_set_dat ?_
      | refine x_set_own ?_
      | refine x_set_bor ?_
      | refine wM_hold_dat.mpr ?_
      | refine wM_hold_own.mpr ?_
      | refine wM_hold_bor.mpr ?_
      | refine wM_it_pl.mpr ?_
      | refine wM_it_en.mpr ?_
      | refine wM_it_zi.mpr ?_
      | refine wM_it_r1.mpr ?_
      | refine wM_it_r2.mpr ?_
      | refine putQ_dat.mpr ?_
      | refine putQ_own.mpr ?_
      | refine cndQ_bl.mpr ?_
      | refine x_map cmp_eq_int ?_
      | refine x_map cmp_ne_int ?_
      | refine x_map cmp_eq_str ?_
      | refine x_map cmp_ne_str ?_
      | refine x_map cmp_in_strs ?_
      | refine x_map cmp_in_strsT ?_
      | refine x_map cmp_ni_strs ?_
      | refine x_map cmp_ni_strsT ?_
      | refine x_lft (bin_mod (by first | decide | assumption | omega)) ?_
      | refine x_lft (bin_fdiv (by first | decide | assumption | omega) (by first | decide | assumption | omega)) ?_
      | refine x_lft (bin_mul_l (by decide)) ?_
      | refine x_lft (bin_mul_r (by decide)) ?_
      | refine x_pos (by decide) ?_
      | refine x_neg (by decide) ?_
      | refine x_npos (by decide) ?_
      | refine x_nneg (by decide) ?_
      | refine x_part ?_
      | refine x_star_lst ?_
      | refine x_star_tup ?_
      | refine x_en_lst ?_
      | refine x_en_tup ?_
      | refine x_zi_lst ?_
      | refine x_zi_tup ?_
      | refine x_r1 (by omega) (by omega) ?_
      | refine x_r2 (by omega) (by omega) (by omega) (by omega) ?_
      | refine x_size (by decide) ?_
      | refine x_ifp (by decide) ?_
      | refine x_ifn (by decide) ?_)
    | ((with_reducible apply x_map); exact rfl)
    | ((with_reducible apply x_lft); exact rfl)
    | ((with_reducible apply x_idx_lst); exact rfl)
    | ((with_reducible apply x_idx_tup); exact rfl)
    | ((with_reducible apply x_blt); exact rfl)
    | ((with_reducible apply x_tupQ); exact rfl)
    | ((with_reducible apply x_size); exact Nat.le_of_ble_eq_true rfl))
/-- a loop over the numbered images of a list -/
theorem forE {α : Type} (f : α → Dat) {p : Pat} {b : Frm → Option (Out × Frm)} {Q : Out → Frm → Prop} (I : Nat → List α → Frm → Prop) (h1 : ∀ k a r m, I k (a :: r) m → ∃ m1, bindP p (.tup [.int (k : Nat), f a]) m = some m1 ∧ wS b m1 (turnQ Q fun m2 => I (k + 1) r m2)) (h0 : ∀ k m, I k [] m → Q .nxt m) (l : List α) (m : Frm) (h : I 0 l m) : wS (forL p b (enumV 0 (l.map f))) m Q :=
  wS_forL (fun ds m => ∃ k r, ds = enumV k (r.map f) ∧ I k r m) (fun d r m hi => by
    obtain ⟨k, s, e, hi⟩ := hi
    cases s with
    | nil => cases e
    | cons a s =>
      rw [List.map_cons, enumV] at e
      cases e
      obtain ⟨m1, e1, w⟩ := h1 k a s m hi
      refine ⟨m1, e1, wS_mono w fun o m2 q => ?_⟩
      unfold turnQ at q ⊢
      split at q
      · exact ⟨k + 1, s, rfl, q⟩
      · exact ⟨k + 1, s, rfl, q⟩
      · exact q
      · exact q) (fun m hi => by
    obtain ⟨k, s, e, hi⟩ := hi
    cases s with
    | nil => exact h0 k m hi
    | cons a s => cases e) _ _ ⟨0, l, rfl, h⟩
theorem sli_tup {l : List Dat} {k : Nat} (h : k < l.length) : sliV (.tup l) (partD none) (partD (some (k : Int))) = some (.dat (.tup (l.take k))) := by
  show (if HT.sIx l.length 0 none = 0 ∧ HT.sIx l.length l.length (some (k : Int)) = l.length then none else some (RV.dat (.tup (cutD l none (some (k : Int)))))) = _
  rw [HT.sIx_nat, Nat.min_eq_left (by omega), if_neg (by omega), cutD_take (by omega), Int.toNat_natCast]
def SpChkS (C : Calls) (i : Nat) : Prop := ∀ (ss : List PySem.Str), 1 ≤ ss.length → ss.length ≤ 4 → (∀ s ∈ ss, NameOk s) → ss.Nodup → C i [.dat (.tup (ss.map .str))] = some (.ok (.dat .non), none)
def SpIsLine (C : Calls) (i : Nat) : Prop := ∀ s t, NameOk s → C i [.dat (.tup [.str s, .str t])] = some (.ok (.dat (.bl true)), none)
section
variable {T : Tab} {fuel n i : Nat} {nn : Bool} {kws : List (Nat × List PySem.Str × List Nat)}
theorem chkS_ok {iN : Nat} (hN : SpIsName (callN T fuel n) iN) (hf : T.fns[i]? = some ⟨1, 3, false, nn, b_check_seats iN, kws⟩) : SpChkS (callN T fuel (n + 1)) i := by
  intro ss h1 h4 hn hd
  have key : wC (callN T fuel (n + 1)) i [.dat (.tup (ss.map .str))] fun q mo => q = .ok (.dat .non) ∧ mo = none := by
    refine wC_of (m0 := [some (.dat (.tup (ss.map .str))), none, none]) hf rfl (by decide) rfl ?_
    unfold b_check_seats
    repeat ac_rfl
    refine x_neg (by rw [List.length_map]; omega) ?_
    repeat ac_rfl
    refine forE Dat.str (fun k r m => ∃ dn y1 y2, dn ++ r = ss ∧ k = dn.length ∧ m = [some (.dat (.tup (ss.map .str))), y1, y2]) ?_ ?_ _ _ ⟨[], _, _, rfl, rfl, rfl⟩
    · rintro k s r m ⟨dn, y1, y2, e, rfl, rfl⟩
      have hl : dn.length + (r.length + 1) = ss.length := by rw [← e, List.length_append, List.length_cons]
      repeat ac_rfl
      refine x_neg (by omega) ?_
      repeat ac_rfl
      refine x_cal (hN s (hn s (by rw [← e]; simp))) ?_
      repeat ac_rfl
      refine x_lft (sli_tup (by rw [List.length_map]; omega)) ?_
      rw [← List.map_take, show ss.take dn.length = dn by rw [← e, List.take_left]]
      repeat ac_rfl
      refine x_neg (fun hm => ?_) ?_
      · rw [← e, List.nodup_append] at hd
        exact hd.2.2 s hm s (by simp) rfl
      repeat ac_rfl
      exact ⟨dn ++ [s], _, _, by simpa using e, by simp, rfl⟩
    · rintro k m ⟨dn, y1, y2, e, rfl, rfl⟩
      repeat ac_rfl
      exact ⟨rfl, rfl⟩
  obtain ⟨r, mo, e, rfl, rfl⟩ := of_wC key
  exact e
theorem isLine_ok {iN : Nat} (hN : SpIsName (callN T fuel n) iN) (hf : T.fns[i]? = some ⟨1, 1, false, nn, b_is_line iN, kws⟩) : SpIsLine (callN T fuel (n + 1)) i := by
  intro s t hs
  have key : wC (callN T fuel (n + 1)) i [.dat (.tup [.str s, .str t])] fun q mo => q = .ok (.dat (.bl true)) ∧ mo = none := by
    refine wC_of (m0 := [some (.dat (.tup [.str s, .str t]))]) hf rfl (by decide) rfl ?_
    unfold b_is_line
    repeat ac_rfl
    refine x_pos rfl ?_
    repeat ac_rfl
    refine x_cal (hN s hs) ?_
    repeat ac_rfl
    exact ⟨rfl, rfl⟩
  obtain ⟨r, mo, e, rfl, rfl⟩ := of_wC key
  exact e
theorem lines_mid : ∀ {dn : List Ln} {ns : List PySem.Str} {l : Ln} {r : List Ln}, LinesOk ns (dn ++ l :: r) → LnOk (ns ++ dn.map Ln.nm) l
  | [], ns, l, r, h => by simpa using h.1
  | k :: dn, ns, l, r, h => by
    have := lines_mid (dn := dn) h.2
    simpa using this
def lnPair (l : Ln) : Dat := .tup [.str l.nm, .str l.txt]
def SpChkL (C : Calls) (c i : Nat) : Prop := ∀ (ss : List PySem.Str) (ls : List Ln), ls.length ≤ 8 → (∀ s ∈ ss ++ ls.map Ln.nm, NameOk s) → (ss ++ ls.map Ln.nm).Nodup → ss.length ≤ 4 → LinesOk ss ls → (∀ l ∈ ls, LnFit l) → C i [.dat (.tup (ss.map .str)), .dat (.tup (ls.map lnPair))] = some (.ok (.dat (.tup (ls.map (Ln.obj c)))), none)
theorem chkL_ok {c iT iL : Nat} (hT : SpPTerm (callN T fuel n) c iT) (hL : SpIsLine (callN T fuel n) iL) (hf : T.fns[i]? = some ⟨2, 9, false, nn, b_check_lines iT iL, kws⟩) : SpChkL (callN T fuel (n + 1)) c i := by
  intro ss ls h8 hn hd h4 hok hfit
  have key : wC (callN T fuel (n + 1)) i [.dat (.tup (ss.map .str)), .dat (.tup (ls.map lnPair))] fun q mo => q = .ok (.dat (.tup (ls.map (Ln.obj c)))) ∧ mo = none := by
    refine wC_of (m0 := [some (.dat (.tup (ss.map .str))), some (.dat (.tup (ls.map lnPair))), none, none, none, none, none, none, none]) hf rfl (by decide) rfl ?_
    unfold b_check_lines
    repeat ac_rfl
    refine forE lnPair (fun k r m => ∃ dn y3 y4, dn ++ r = ls ∧ k = dn.length ∧ m = [some (.dat (.tup (ss.map .str))), some (.dat (.tup (ls.map lnPair))), some (.own (.lst ((ss ++ dn.map Ln.nm).map .str))), y3, y4, none, none, none, none]) ?_ ?_ _ _ ⟨[], none, none, rfl, rfl, by simp⟩
    · rintro k l r m ⟨dn, y3, y4, e, rfl, rfl⟩
      have hl : dn.length + (r.length + 1) = ls.length := by rw [← e, List.length_append, List.length_cons]
      unfold lnPair
      repeat ac_rfl
      refine x_neg (by omega) ?_
      repeat ac_rfl
      refine x_cal (hL l.nm l.txt (hn _ (by rw [← e]; simp))) ?_
      repeat ac_rfl
      refine x_neg (fun hm => ?_) ?_
      · rw [← e, List.map_append, ← List.append_assoc, List.map_cons, List.nodup_append] at hd
        exact hd.2.2 _ hm _ (by simp) rfl
      repeat ac_rfl
      refine x_app2 ?_ ?_
      · rw [List.length_map, List.length_append, List.length_map]; unfold sizeLine; omega
      repeat ac_rfl
      have el : (ss ++ (dn ++ [l]).map Ln.nm).map Dat.str = (ss ++ dn.map Ln.nm).map Dat.str ++ [.str l.nm] := by simp
      exact ⟨dn ++ [l], _, _, by simpa using e, by simp, by rw [el]⟩
    · rintro k m ⟨dn, y3, y4, e, rfl, rfl⟩
      rw [List.append_nil] at e
      subst e
      repeat ac_rfl
      refine forE lnPair (fun k r m => ∃ dn2 y2 y3 y4 y6 y7 y8, dn2 ++ r = dn ∧ k = dn2.length ∧ m = [some (.dat (.tup (ss.map .str))), some (.dat (.tup (dn.map lnPair))), y2, y3, y4, some (.own (.lst (dn2.map (Ln.obj c)))), y6, y7, y8] ∧ y2 = some (.own (.lst ((ss ++ dn.map Ln.nm).map .str)))) ?_ ?_ _ _ ⟨[], _, _, _, _, _, _, rfl, rfl, rfl, rfl⟩
      · rintro k l r m ⟨dn2, y2, y3, y4, y6, y7, y8, e, rfl, rfl, rfl⟩
        have hl : dn2.length + (r.length + 1) = dn.length := by rw [← e, List.length_append, List.length_cons]
        unfold lnPair
        repeat ac_rfl
        have et : (ss ++ dn.map Ln.nm).take ((((ss.map Dat.str).length : Int) + (dn2.length : Int)).toNat) = ss ++ dn2.map Ln.nm := by
          rw [List.length_map, show ((ss.length : Int) + (dn2.length : Int)).toNat = (ss ++ dn2.map Ln.nm).length by rw [List.length_append, List.length_map]; omega, ← e, List.map_append, ← List.append_assoc, List.take_left]
        rw [cutD_take (by omega), ← List.map_take, et]
        refine x_cal (hT l (ss ++ dn2.map Ln.nm) (hfit l (by rw [← e]; simp)) (lines_mid (by rw [e]; exact hok)) (fun s hs => hn s (by
          rcases List.mem_append.mp hs with h | h
          · exact List.mem_append_left _ h
          · rw [← e, List.map_append]
            exact List.mem_append_right _ (List.mem_append_left _ h)))) ?_
        repeat ac_rfl
        refine x_ifn (by exact Bool.false_ne_true) ?_
        repeat ac_rfl
        refine x_app2 ?_ ?_
        · rw [List.length_map]; unfold sizeLine; omega
        repeat ac_rfl
        have el : (dn2 ++ [l]).map (Ln.obj c) = dn2.map (Ln.obj c) ++ [l.obj c] := by simp
        exact ⟨dn2 ++ [l], _, _, _, _, _, _, by simpa using e, by simp, by rw [el], rfl⟩
      · rintro k m ⟨dn2, y2, y3, y4, y6, y7, y8, e, rfl, rfl, rfl⟩
        rw [List.append_nil] at e
        subst e
        repeat ac_rfl
        exact ⟨rfl, rfl⟩
  obtain ⟨r, mo, e, rfl, rfl⟩ := of_wC key
  exact e
def rwT (r : Rw) : Dat := .str r.txt
def SpChkR (C : Calls) (c i : Nat) : Prop := ∀ (ss ns : List PySem.Str) (rs : List Rw), (∀ s ∈ ns, NameOk s) → (∀ s ∈ ss, NameOk s) → ss.length ≤ 4 → 1 ≤ rs.length → rs.length ≤ 6 → (∀ r ∈ rs, RwFit r) → (∀ r ∈ rs, RwOk ns ss r) → (∀ (i : Nat) (r : Rw), rs[i]? = some r → (r.cond = none ↔ i + 1 = rs.length)) → C i [.dat (.tup (ss.map .str)), .dat (.tup (ns.map .str)), .dat (.tup (rs.map rwT))] = some (.ok (.dat (.tup (rs.map (Rw.obj c)))), none)
theorem chkR_ok {c iP : Nat} (hP : SpPRow (callN T fuel n) c iP) (hf : T.fns[i]? = some ⟨3, 7, false, nn, b_check_rows iP, kws⟩) : SpChkR (callN T fuel (n + 1)) c i := by
  intro ss ns rs hn hs h4 h1 h6 hfit hok hlast
  have key : wC (callN T fuel (n + 1)) i [.dat (.tup (ss.map .str)), .dat (.tup (ns.map .str)), .dat (.tup (rs.map rwT))] fun q mo => q = .ok (.dat (.tup (rs.map (Rw.obj c)))) ∧ mo = none := by
    refine wC_of (m0 := [some (.dat (.tup (ss.map .str))), some (.dat (.tup (ns.map .str))), some (.dat (.tup (rs.map rwT))), none, none, none, none]) hf rfl (by decide) rfl ?_
    unfold b_check_rows
    repeat ac_rfl
    refine x_neg (by rw [List.length_map]; omega) ?_
    repeat ac_rfl
    refine forE rwT (fun k r m => ∃ dn y4 y5 y6, dn ++ r = rs ∧ k = dn.length ∧ m = [some (.dat (.tup (ss.map .str))), some (.dat (.tup (ns.map .str))), some (.dat (.tup (rs.map rwT))), some (.own (.lst (dn.map (Rw.obj c)))), y4, y5, y6]) ?_ ?_ _ _ ⟨[], none, none, none, rfl, rfl, rfl⟩
    · rintro k w r m ⟨dn, y4, y5, y6, e, rfl, rfl⟩
      have hl : dn.length + (r.length + 1) = rs.length := by rw [← e, List.length_append, List.length_cons]
      have hm : w ∈ rs := by rw [← e]; simp
      have hw := hlast dn.length w (by rw [← e, List.getElem?_append_right (Nat.le_refl _), Nat.sub_self]; rfl)
      rw [show rwT w = .str w.txt from rfl]
      repeat ac_rfl
      refine x_pos (by omega) ?_
      repeat ac_rfl
      refine x_cal (hP w _ ns ss hn hs h4 (hfit w hm) (hok w hm) (by rw [hw, decide_eq_true_eq, List.length_map]; omega)) ?_
      repeat ac_rfl
      refine x_ifn (by exact Bool.false_ne_true) ?_
      repeat ac_rfl
      refine x_app2 ?_ ?_
      · rw [List.length_map]; unfold sizeLine; omega
      repeat ac_rfl
      have el : (dn ++ [w]).map (Rw.obj c) = dn.map (Rw.obj c) ++ [w.obj c] := by simp
      exact ⟨dn ++ [w], _, _, _, by simpa using e, by simp, by rw [el]⟩
    · rintro k m ⟨dn, y4, y5, y6, e, rfl, rfl⟩
      rw [List.append_nil] at e
      subst e
      repeat ac_rfl
      exact ⟨rfl, rfl⟩
  obtain ⟨r, mo, e, rfl, rfl⟩ := of_wC key
  exact e
end
end SB.P
set_option maxHeartbeats 0
namespace SB.P
open PySem L2 TL
local macro_rules
  | `(tactic| ac_rfl) => `(tactic| first
    | (with_reducible first
      | refine x_ok ?_
      | refine x_out ?_
      | refine x_true ?_
      | refine x_false ?_
      | refine x_nottrue ?_
      | refine x_notfalse ?_
      | refine x_var ?_
      | refine x_varO ?_
      | refine x_cst ?_
      | refine x_asBl ?_
      | refine wM_evs_nil.mpr ?_
      | refine wM_evs_cons.mpr ?_
      | refine x_look_pdat ?_
      | refine x_look_pown ?_
      | refine x_look_pbor ?_
      | refine x_look_borD ?_
      | refine x_look_dat ?_
      | refine x_look_own ?_
      | refine x_look_bor ?_
      | refine x_frz_pdat ?_
      | refine x_frz_pown ?_
      | refine x_frz_pbor ?_
      | refine x_frz_pborD ?_
      | refine x_frz_dat ?_
      | refine x_frz_bor ?_
      | refine x_frz_borD ?_
      | refine x_frzs_nil ?_
      | refine x_frzs_cons ?_
      | refine x_looks_nil ?_
      | refine x_looks_cons ?_
      | refine wM_bin.mpr ?_
      | refine wM_una.mpr ?_
      | refine wM_cmp.mpr ?_
      | refine wM_chn.mpr ?_
      | refine wM_and.mpr ?_
      | refine wM_or.mpr ?_
      | refine wM_not.mpr ?_
      | refine wM_ife.mpr ?_
      | refine wM_tup.mpr ?_
      | refine wM_lst.mpr ?_
      | refine wM_dic0.mpr ?_
      | refine wM_idx.mpr ?_
      | refine wM_sli.mpr ?_
      | refine wM_partM_nil.mpr ?_
      | refine wM_part_cst.mpr ?_
      | refine wM_part_bin.mpr ?_
      | refine wM_part_var.mpr ?_
      | refine wM_part_una.mpr ?_
      | refine wM_att.mpr ?_
      | refine wM_cal.mpr ?_
      | refine wM_calm.mpr ?_
      | refine wM_mak.mpr ?_
      | refine wM_makv.mpr ?_
      | refine wM_blt.mpr ?_
      | refine wM_isi.mpr ?_
      | refine wM_met.mpr ?_
      | refine wM_kmak.mpr ?_
      | refine wM_kcal.mpr ?_
      | refine wM_omet.mpr ?_
      | refine wM_cmet.mpr ?_
      | refine wM_evs_star.mpr ?_
      | refine x_callMo ?_
      | refine x_app ?_
      | refine x_pop ?_
      | refine x_pop2 ?_
      | refine wM_fmt.mpr ?_
      | refine wM_jst.mpr ?_
      | refine x_ret ?_
      | refine x_some ?_
      | refine wS_seq.mpr ?_
      | refine wS_nil.mpr ?_
      | refine wS_asg.mpr ?_
      | refine wS_par.mpr ?_
      | refine wS_exp.mpr ?_
      | refine wS_ret.mpr ?_
      | refine wS_ife.mpr ?_
      | refine wS_retn.mpr ?_
      | refine wS_pas.mpr ?_
      | refine wS_tryq.mpr ?_
      | refine x_bind_nam ?_
      | refine x_bind_tup ?_
      | refine x_bind_cons ?_
      | refine x_bind_nil ?_
      | refine wS_loop.mpr ?_
      | refine wS_hdr.mpr ?_
      | refine wS_hand_dat.mpr ?_
      | refine wS_hand_own.mpr ?_
      | refine x_hand_bor ?_
      | refine x_hand_borD ?_
      | refine seqQ_nxt.mpr ?_
      | refine seqQ_ret.mpr ?_
      | refine turnQ_nxt.mpr ?_
      | refine turnQ_ret.mpr ?_
      | refine endQ_ret.mpr ?_
      | refine endQ_nxt.mpr ?_
      | refine fstQ_true.mpr ?_
      | refine fstQ_false.mpr ?_
      | refine notExc_nxt.mpr ?_
      | refine notExc_ret.mpr ?_
      | refine wM_asg_nam.mpr ?_
      | refine wM_asg_tup.mpr ?_
      | refine wM_asgs_nil.mpr ?_
      | refine wM_asgs_cons.mpr ?_
      | refine wM_asg_sub.mpr ?_
      | refine x_asg_sub ?_
      | refine wM_asg_att.mpr ?_
      | refine x_sub0 ?_
      | refine x_sub1 ?_
      | refine x_sub2 ?_
      | refine x_set_dat ?_
      | refine x_set_own ?_
      | refine x_set_bor ?_
      | refine wM_hold_dat.mpr ?_
      | refine wM_hold_own.mpr ?_
      | refine wM_hold_bor.mpr ?_
      | refine wM_it_pl.mpr ?_
      | refine wM_it_en.mpr ?_
      | refine wM_it_zi.mpr ?_
      | refine wM_it_r1.mpr ?_
      | refine wM_it_r2.mpr ?_
      | refine putQ_dat.mpr ?_
      | refine putQ_own.mpr ?_
      | refine cndQ_bl.mpr ?_
      | refine x_map cmp_eq_int ?_
      | refine x_map cmp_ne_int ?_
      | refine x_map cmp_eq_str ?_
      | refine x_map cmp_ne_str ?_
      | refine x_map cmp_in_strs ?_
      | refine x_map cmp_in_strsT ?_
      | refine x_map cmp_ni_strs ?_
      | refine x_map cmp_ni_strsT ?_
      | refine x_lft (bin_mod (by first | decide | assumption | omega)) ?_
      | refine x_lft (bin_fdiv (by first | decide | assumption | omega) (by first | decide | assumption | omega)) ?_
      | refine x_lft (bin_mul_l (by decide)) ?_
      | refine x_lft (bin_mul_r (by decide)) ?_
      | refine x_pos (by decide) ?_
      | refine x_neg (by decide) ?_
      | refine x_npos (by decide) ?_
      | refine x_nneg (by decide) ?_
      | refine x_part ?_
      | refine x_star_lst ?_
      | refine x_star_tup ?_
      | refine x_en_lst ?_
      | refine x_en_tup ?_
      | refine x_zi_lst ?_
      | refine x_zi_tup ?_
      | refine x_r1 (by omega) (by omega) ?_
      | refine x_r2 (by omega) (by omega) (by omega) (by omega) ?_
      | refine x_size (by decide) ?_
      | refine x_ifp (by decide) ?_
      | refine x_ifn (by decide) ?_)
    | ((with_reducible apply x_map); exact rfl)
    | ((with_reducible apply x_lft); exact rfl)
    | ((with_reducible apply x_idx_lst); exact rfl)
    | ((with_reducible apply x_idx_tup); exact rfl)
    | ((with_reducible apply x_blt); exact rfl)
    | ((with_reducible apply x_tupQ); exact rfl)
    | ((with_reducible apply x_size); exact Nat.le_of_ble_eq_true rfl))
theorem frzs_map {m : Frm} : ∀ (ds : List Dat), frzs (ds.map .dat) m = some (.ok ds, m)
  | [] => rfl
  | d :: r => by
    rw [List.map_cons, frzs]
    simp [bnd, frz, frzs_map r, SB.ret]
theorem x_frzs_map {m : Frm} {ds : List Dat} {Q : Except Exn (List Dat) → Frm → Prop} (h : Q (.ok ds) m) : wM (frzs (ds.map .dat)) m Q := by
  unfold wM
  exact ⟨_, _, frzs_map ds, h⟩
structure RuleC (T : Tab) (c gI gS gL gR gGet gLen gBool gStr : Nat) : Prop where
  cls : ∃ cd, T.cls[c]? = some cd ∧ cd.exc = false ∧ cd.init = some gI ∧ cd.flds = [("terms" : PySem.Str), "deeds", "held_seats", "held_lines", "held_rows"] ∧ cd.props = [(("seats" : PySem.Str), gS), ("lines", gL), ("rows", gR)] ∧
    cd.mets.lookup ("__getitem__" : PySem.Str) = some gGet ∧ cd.mets.lookup ("__len__" : PySem.Str) = some gLen ∧ cd.mets.lookup ("__bool__" : PySem.Str) = some gBool ∧ cd.mets.lookup ("__str__" : PySem.Str) = some gStr
def ruleO (c : Nat) (t d ss ls rs : Dat) : Dat := .obj c [("terms", t), ("deeds", d), ("held_seats", ss), ("held_lines", ls), ("held_rows", rs)]
def Pl.obj (cT cR c : Nat) (p : Pl) : Dat := ruleO c (.tup (p.ls.map (Ln.obj cT))) (.tup (p.rs.map (Rw.obj cR))) p.s p.l p.r
theorem lines_fit : ∀ {ls : List Ln} {ns : List PySem.Str}, (∀ s ∈ ns ++ ls.map Ln.nm, NameOk s) → LinesOk ns ls → ∀ l ∈ ls, LnFit l
  | k :: ls, ns, hn, h, l, hl => by
    rcases List.mem_cons.mp hl with rfl | hl
    · exact ⟨(hn l.nm (by simp)).len.2, Nat.le_trans h.1.k2 h.1.le, h.1.le, fun p hp => pt_fit (fun s hs => hn s (List.mem_append_left _ hs)) (h.1.ok p hp)⟩
    · exact lines_fit (ns := ns ++ [k.nm]) (fun s hs => hn s (by simpa using hs)) h.2 l hl
theorem PlOk.fit {p : Pl} (h : PlOk p) : PlFit p where
  s2 := h.s2
  l2 := h.l2
  r2 := h.r2
  sf := fun s hs => (h.nok s (List.mem_append_left _ hs)).len.2
  lf := lines_fit h.nok h.lok
  rf := fun r hr => ⟨fun p b q e => ⟨pt_fit h.nok ((h.rok r hr).cond p b q e).1, pt_fit h.nok ((h.rok r hr).cond p b q e).2⟩, fun w q e => ⟨wh_fit (fun s hs => h.nok s (List.mem_append_left _ hs)) h.s2 ((h.rok r hr).sale w q e).1, pt_fit h.nok ((h.rok r hr).sale w q e).2⟩⟩
def SpInit (C : Calls) (cT cR c g : Nat) : Prop := ∀ p, PlOk p → C g [.own (.obj c []), .dat p.s, .dat p.l, .dat p.r] = some (.ok (.dat .non), some (p.obj cT cR c))
section
variable {T : Tab} {fuel n i : Nat} {nn : Bool} {kws : List (Nat × List PySem.Str × List Nat)} {cT cR c gI gS gL gR gGet gLen gBool gStr : Nat}
theorem init_ok {iS iL iR : Nat} (hc : RuleC T c i gS gL gR gGet gLen gBool gStr) (hS : SpChkS (callN T fuel n) iS) (hL : SpChkL (callN T fuel n) cT iL) (hR : SpChkR (callN T fuel n) cR iR) (hf : T.fns[i]? = some ⟨4, 6, true, nn, b_Rule_init iR iL iS, kws⟩) : SpInit (callN T fuel (n + 1)) cT cR c i := by
  intro p hp
  have hfit := hp.fit
  obtain ⟨cd, q1, q2, q3, q4, _⟩ := hc.cls
  have key : wC (callN T fuel (n + 1)) i [.own (.obj c []), .dat p.s, .dat p.l, .dat p.r] fun q mo => q = .ok (.dat .non) ∧ mo = some (p.obj cT cR c) := by
    refine wC_of (m0 := [some (.own (.obj c [])), some (.dat p.s), some (.dat p.l), some (.dat p.r), none, none]) hf rfl (by decide) rfl ?_
    unfold b_Rule_init
    repeat ac_rfl
    refine x_cal (hS p.ss hp.s1 hp.s2 (fun s hs => hp.nok s (List.mem_append_left _ hs)) (List.nodup_append.mp hp.nd).1) ?_
    repeat ac_rfl
    refine x_cal (hL p.ss p.ls hp.l2 hp.nok hp.nd hp.s2 hp.lok hfit.lf) ?_
    repeat ac_rfl
    refine x_attM q1 q2 (by rw [q4]; rfl) (by decide) ?_
    repeat ac_rfl
    unfold Pl.s
    repeat ac_rfl
    refine x_comp ?_
    repeat ac_rfl
    unfold Pl.l
    repeat ac_rfl
    refine x_compM lnPair (fun l => .str l.nm) (fun m => ∃ y z, m = [some (.own (.obj c [("terms", .tup (p.ls.map (Ln.obj cT)))])), some (.dat (.tup (p.ss.map .str))), some (.dat (.tup (p.ls.map lnPair))), some (.dat p.r), y, z]) p.ls rfl (by have := hp.l2; unfold sizeLine; omega) ⟨none, none, rfl⟩ ?_ ?_
    · rintro l hl m ⟨y, z, rfl⟩
      refine x_turnF ?_
      unfold lnPair
      repeat ac_rfl
      exact ⟨rfl, _, _, rfl⟩
    · rintro m ⟨y, z, rfl⟩
      refine x_compR ?_
      repeat ac_rfl
      rw [show (List.map RV.dat (List.map Dat.str p.ss) ++ (List.map RV.dat (List.map (fun l : Ln => Dat.str l.nm) p.ls) ++ [])) = (p.ns.map Dat.str).map RV.dat by
        unfold Pl.ns
        rw [List.append_nil, List.map_append, List.map_append, List.map_map (f := Ln.nm)]
        rfl]
      refine x_frzs_map ?_
      have hns : p.ns.length ≤ 12 := by
        unfold Pl.ns
        rw [List.length_append, List.length_map]
        have := hp.s2
        have := hp.l2
        omega
      repeat ac_rfl
      refine x_size (by rw [List.length_map]; unfold sizeLine; omega) ?_
      repeat ac_rfl
      refine x_cal (hR p.ss p.ns p.rs hp.nok (fun s hs => hp.nok s (List.mem_append_left _ hs)) hp.s2 hp.r1 hp.r2 hfit.rf hp.rok hp.last) ?_
      repeat ac_rfl
      refine x_attM q1 q2 (by rw [q4]; rfl) (by show 1 < 900; decide) ?_
      repeat ac_rfl
      refine x_attM q1 q2 (by rw [q4]; rfl) (by show 2 < 900; decide) ?_
      repeat ac_rfl
      refine x_attM q1 q2 (by rw [q4]; rfl) (by show 3 < 900; decide) ?_
      repeat ac_rfl
      refine x_attM q1 q2 (by rw [q4]; rfl) (by show 4 < 900; decide) ?_
      repeat ac_rfl
      exact ⟨rfl, rfl⟩
  obtain ⟨r, mo, e, rfl, rfl⟩ := of_wC key
  exact e
end
end SB.P
set_option maxHeartbeats 0
namespace SB.P
open PySem L2 TL
local macro_rules
  | `(tactic| ac_rfl) => `(tactic| first
    | (with_reducible first
      | refine x_ok ?_
      | refine x_out ?_
      | refine x_true ?_
      | refine x_false ?_
      | refine x_nottrue ?_
      | refine x_notfalse ?_
      | refine x_var ?_
      | refine x_varO ?_
      | refine x_cst ?_
      | refine x_asBl ?_
      | refine wM_evs_nil.mpr ?_
      | refine wM_evs_cons.mpr ?_
      | refine x_look_pdat ?_
      | refine x_look_pown ?_
      | refine x_look_pbor ?_
      | refine x_look_borD ?_
      | refine x_look_dat ?_
      | refine x_look_own ?_
      | refine x_look_bor ?_
      | refine x_frz_pdat ?_
      | refine x_frz_pown ?_
      | refine x_frz_pbor ?_
      | refine x_frz_pborD ?_
      | refine x_frz_dat ?_
      | refine x_frz_bor ?_
      | refine x_frz_borD ?_
      | refine x_frzs_nil ?_
      | refine x_frzs_cons ?_
      | refine x_looks_nil ?_
      | refine x_looks_cons ?_
      | refine wM_bin.mpr ?_
      | refine wM_una.mpr ?_
      | refine wM_cmp.mpr ?_
      | refine wM_chn.mpr ?_
      | refine wM_and.mpr ?_
      | refine wM_or.mpr ?_
      | refine wM_not.mpr ?_
      | refine wM_ife.mpr ?_
      | refine wM_tup.mpr ?_
      | refine wM_lst.mpr ?_
      | refine wM_dic0.mpr ?_
      | refine wM_idx.mpr ?_
      | refine wM_sli.mpr ?_
      | refine wM_partM_nil.mpr ?_
      | refine wM_part_cst.mpr ?_
      | refine wM_part_bin.mpr ?_
      | refine wM_part_var.mpr ?_
      | refine wM_part_una.mpr ?_
      | refine wM_att.mpr ?_
      | refine wM_cal.mpr ?_
      | refine wM_calm.mpr ?_
      | refine wM_mak.mpr ?_
      | refine wM_makv.mpr ?_
      | refine wM_blt.mpr ?_
      | refine wM_isi.mpr ?_
      | refine wM_met.mpr ?_
      | refine wM_kmak.mpr ?_
      | refine wM_kcal.mpr ?_
      | refine wM_omet.mpr ?_
      | refine wM_cmet.mpr ?_
      | refine wM_evs_star.mpr ?_
      | refine x_callMo ?_
      | refine x_app ?_
      | refine x_pop ?_
      | refine x_pop2 ?_
      | refine wM_fmt.mpr ?_
      | refine wM_jst.mpr ?_
      | refine x_ret ?_
      | refine x_some ?_
      | refine wS_seq.mpr ?_
      | refine wS_nil.mpr ?_
      | refine wS_asg.mpr ?_
      | refine wS_par.mpr ?_
      | refine wS_exp.mpr ?_
      | refine wS_ret.mpr ?_
      | refine wS_ife.mpr ?_
      | refine wS_retn.mpr ?_
      | refine wS_pas.mpr ?_
      | refine wS_tryq.mpr ?_
      | refine x_bind_nam ?_
      | refine x_bind_tup ?_
      | refine x_bind_cons ?_
      | refine x_bind_nil ?_
      | refine wS_loop.mpr ?_
      | refine wS_hdr.mpr ?_
      | refine wS_hand_dat.mpr ?_
      | refine wS_hand_own.mpr ?_
      | refine x_hand_bor ?_
      | refine x_hand_borD ?_
      | refine seqQ_nxt.mpr ?_
      | refine seqQ_ret.mpr ?_
      | refine turnQ_nxt.mpr ?_
      | refine turnQ_ret.mpr ?_
      | refine endQ_ret.mpr ?_
      | refine endQ_nxt.mpr ?_
      | refine fstQ_true.mpr ?_
      | refine fstQ_false.mpr ?_
      | refine notExc_nxt.mpr ?_
      | refine notExc_ret.mpr ?_
      | refine wM_asg_nam.mpr ?_
      | refine wM_asg_tup.mpr ?_
      | refine wM_asgs_nil.mpr ?_
      | refine wM_asgs_cons.mpr ?_
      | refine wM_asg_sub.mpr ?_
      | refine x_asg_sub ?_
      | refine wM_asg_att.mpr ?_
      | refine x_sub0 ?_
      | refine x_sub1 ?_
      | refine x_sub2 ?_
      | refine x_set_dat ?_
      | refine x_set_own ?_
      | refine x_set_bor ?_
      | refine wM_hold_dat.mpr ?_
      | refine wM_hold_own.mpr ?_
      | refine wM_hold_bor.mpr ?_
      | refine wM_it_pl.mpr ?_
      | refine wM_it_en.mpr ?_
      | refine wM_it_zi.mpr ?_
      | refine wM_it_r1.mpr ?_
      | refine wM_it_r2.mpr ?_
      | refine putQ_dat.mpr ?_
      | refine putQ_own.mpr ?_
      | refine cndQ_bl.mpr ?_
      | refine x_map cmp_eq_int ?_
      | refine x_map cmp_ne_int ?_
      | refine x_map cmp_eq_str ?_
      | refine x_map cmp_ne_str ?_
      | refine x_map cmp_in_strs ?_
      | refine x_map cmp_in_strsT ?_
      | refine x_map cmp_ni_strs ?_
      | refine x_map cmp_ni_strsT ?_
      | refine x_lft (bin_mod (by first | decide | assumption | omega)) ?_
      | refine x_lft (bin_fdiv (by first | decide | assumption | omega) (by first | decide | assumption | omega)) ?_
      | refine x_lft (bin_mul_l (by decide)) ?_
      | refine x_lft (bin_mul_r (by decide)) ?_
      | refine x_pos (by decide) ?_
      | refine x_neg (by decide) ?_
      | refine x_npos (by decide) ?_
      | refine x_nneg (by decide) ?_
      | refine x_part ?_
      | refine x_star_lst ?_
      | refine x_star_tup ?_
      | refine x_en_lst ?_
      | refine x_en_tup ?_
      | refine x_zi_lst ?_
      | refine x_zi_tup ?_
      | refine x_r1 (by omega) (by omega) ?_
      | refine x_r2 (by omega) (by omega) (by omega) (by omega) ?_
      | refine x_size (by decide) ?_
      | refine x_ifp (by decide) ?_
      | refine x_ifn (by decide) ?_)
    | ((with_reducible apply x_map); exact rfl)
    | ((with_reducible apply x_lft); exact rfl)
    | ((with_reducible apply x_idx_lst); exact rfl)
    | ((with_reducible apply x_idx_tup); exact rfl)
    | ((with_reducible apply x_blt); exact rfl)
    | ((with_reducible apply x_tupQ); exact rfl)
    | ((with_reducible apply x_size); exact Nat.le_of_ble_eq_true rfl))
def SpGetr (C : Calls) (cT cR c g : Nat) (v : Pl → Dat) : Prop := ∀ p, C g [.dat (p.obj cT cR c)] = some (.ok (.dat (v p)), none)
def SpItem (C : Calls) (cT cR c g : Nat) : Prop := ∀ p, PlOk p → ∀ l ∈ p.ls, C g [.dat (p.obj cT cR c), .dat (.str l.nm)] = some (.ok (.dat (.str l.txt)), none)
theorem nm_inj : ∀ {ls : List Ln}, (ls.map Ln.nm).Nodup → ∀ a ∈ ls, ∀ b ∈ ls, a.nm = b.nm → a = b
  | k :: ls, h, a, ha, b, hb, e => by
    rw [List.map_cons, List.nodup_cons] at h
    rcases List.mem_cons.mp ha with h1 | h1
    · rcases List.mem_cons.mp hb with h2 | h2
      · rw [h1, h2]
      · exact absurd (h1 ▸ e ▸ List.mem_map_of_mem h2) h.1
    · rcases List.mem_cons.mp hb with h2 | h2
      · exact absurd (h2 ▸ e ▸ List.mem_map_of_mem h1) h.1
      · exact nm_inj h.2 a h1 b h2 e
theorem empty_app (a : PySem.Str) : Str.empty ++ a = a := ext_tl (by rw [tl_append]; rfl)
section
variable {T : Tab} {fuel n i : Nat} {nn : Bool} {kws : List (Nat × List PySem.Str × List Nat)} {cT cR c gI gS gL gR gGet gLen gBool gStr : Nat}
theorem seats_ok (hc : RuleC T c gI gS gL gR gGet gLen gBool gStr) (hf : T.fns[i]? = some ⟨1, 1, false, nn, b_Rule_seats, kws⟩) : SpGetr (callN T fuel (n + 1)) cT cR c i Pl.s := by
  intro p
  obtain ⟨cd, q1, q2, q3, q4, _⟩ := hc.cls
  have key : wC (callN T fuel (n + 1)) i [.dat (p.obj cT cR c)] fun q mo => q = .ok (.dat p.s) ∧ mo = none := by
    refine wC_of (m0 := [some (.dat (p.obj cT cR c))]) hf rfl (by decide) rfl ?_
    unfold b_Rule_seats
    repeat ac_rfl
    refine x_fld (d := p.s) q1 q2 (by rw [q4]; rfl) rfl ?_
    repeat ac_rfl
    exact ⟨rfl, rfl⟩
  obtain ⟨r, mo, e, rfl, rfl⟩ := of_wC key
  exact e
theorem lines_ok (hc : RuleC T c gI gS gL gR gGet gLen gBool gStr) (hf : T.fns[i]? = some ⟨1, 1, false, nn, b_Rule_lines, kws⟩) : SpGetr (callN T fuel (n + 1)) cT cR c i Pl.l := by
  intro p
  obtain ⟨cd, q1, q2, q3, q4, _⟩ := hc.cls
  have key : wC (callN T fuel (n + 1)) i [.dat (p.obj cT cR c)] fun q mo => q = .ok (.dat p.l) ∧ mo = none := by
    refine wC_of (m0 := [some (.dat (p.obj cT cR c))]) hf rfl (by decide) rfl ?_
    unfold b_Rule_lines
    repeat ac_rfl
    refine x_fld (d := p.l) q1 q2 (by rw [q4]; rfl) rfl ?_
    repeat ac_rfl
    exact ⟨rfl, rfl⟩
  obtain ⟨r, mo, e, rfl, rfl⟩ := of_wC key
  exact e
theorem rows_ok (hc : RuleC T c gI gS gL gR gGet gLen gBool gStr) (hf : T.fns[i]? = some ⟨1, 1, false, nn, b_Rule_rows, kws⟩) : SpGetr (callN T fuel (n + 1)) cT cR c i Pl.r := by
  intro p
  obtain ⟨cd, q1, q2, q3, q4, _⟩ := hc.cls
  have key : wC (callN T fuel (n + 1)) i [.dat (p.obj cT cR c)] fun q mo => q = .ok (.dat p.r) ∧ mo = none := by
    refine wC_of (m0 := [some (.dat (p.obj cT cR c))]) hf rfl (by decide) rfl ?_
    unfold b_Rule_rows
    repeat ac_rfl
    refine x_fld (d := p.r) q1 q2 (by rw [q4]; rfl) rfl ?_
    repeat ac_rfl
    exact ⟨rfl, rfl⟩
  obtain ⟨r, mo, e, rfl, rfl⟩ := of_wC key
  exact e
theorem len_ok (hc : RuleC T c gI gS gL gR gGet gLen gBool gStr) (hf : T.fns[i]? = some ⟨1, 1, false, nn, b_Rule_len, kws⟩) : SpGetr (callN T fuel (n + 1)) cT cR c i (fun p => .int (p.rs.length : Nat)) := by
  intro p
  obtain ⟨cd, q1, q2, q3, q4, _⟩ := hc.cls
  have key : wC (callN T fuel (n + 1)) i [.dat (p.obj cT cR c)] fun q mo => q = .ok (.dat (.int (p.rs.length : Nat))) ∧ mo = none := by
    refine wC_of (m0 := [some (.dat (p.obj cT cR c))]) hf rfl (by decide) rfl ?_
    unfold b_Rule_len
    repeat ac_rfl
    refine x_fld (d := p.r) q1 q2 (by rw [q4]; rfl) rfl ?_
    repeat ac_rfl
    exact ⟨by rw [List.length_map], rfl⟩
  obtain ⟨r, mo, e, rfl, rfl⟩ := of_wC key
  exact e
theorem bool_ok (hf : T.fns[i]? = some ⟨1, 1, false, nn, b_Rule_bool, kws⟩) : SpGetr (callN T fuel (n + 1)) cT cR c i (fun p => .bl true) := by
  intro p
  have key : wC (callN T fuel (n + 1)) i [.dat (p.obj cT cR c)] fun q mo => q = .ok (.dat (.bl true)) ∧ mo = none := by
    refine wC_of (m0 := [some (.dat (p.obj cT cR c))]) hf rfl (by decide) rfl ?_
    unfold b_Rule_bool
    repeat ac_rfl
    exact ⟨rfl, rfl⟩
  obtain ⟨r, mo, e, rfl, rfl⟩ := of_wC key
  exact e
theorem item_ok (hc : RuleC T c gI gS gL gR gGet gLen gBool gStr) (hf : T.fns[i]? = some ⟨2, 4, false, nn, b_Rule_getitem, kws⟩) : SpItem (callN T fuel (n + 1)) cT cR c i := by
  intro p hp l hl
  obtain ⟨cd, q1, q2, q3, q4, _⟩ := hc.cls
  have hnd : (p.ls.map Ln.nm).Nodup := (List.nodup_append.mp hp.nd).2.1
  have key : wC (callN T fuel (n + 1)) i [.dat (p.obj cT cR c), .dat (.str l.nm)] fun q mo => q = .ok (.dat (.str l.txt)) ∧ mo = none := by
    refine wC_of (m0 := [some (.dat (p.obj cT cR c)), some (.dat (.str l.nm)), none, none]) hf rfl (by decide) rfl ?_
    unfold b_Rule_getitem
    repeat ac_rfl
    refine x_fld (d := p.l) q1 q2 (by rw [q4]; rfl) rfl ?_
    repeat ac_rfl
    refine forA lnPair (fun r m => (l ∈ r ∧ ∀ k ∈ r, k ∈ p.ls) ∧ ∃ y z, m = [some (.dat (p.obj cT cR c)), some (.dat (.str l.nm)), y, z]) ?_ ?_ _ _ ⟨⟨hl, fun k hk => hk⟩, _, _, rfl⟩
    · rintro k r m ⟨⟨h1, h2⟩, y, z, rfl⟩
      unfold lnPair
      repeat ac_rfl
      refine x_p (fun he => ?_) (fun he => ?_)
      · repeat ac_rfl
        exact ⟨by rw [nm_inj hnd k (h2 k (by simp)) l hl he], rfl⟩
      · repeat ac_rfl
        refine ⟨⟨?_, fun k hk => h2 k (by simp [hk])⟩, _, _, rfl⟩
        rcases List.mem_cons.mp h1 with rfl | h
        · exact absurd rfl he
        · exact h
    · rintro m ⟨⟨h1, h2⟩, y, z, rfl⟩
      cases h1
  obtain ⟨r, mo, e, rfl, rfl⟩ := of_wC key
  exact e
theorem str_ok (hc : RuleC T c gI gS gL gR gGet gLen gBool gStr) (hf : T.fns[i]? = some ⟨1, 4, false, nn, b_Rule_str, kws⟩) : ∀ p, PlOk p → (callN T fuel (n + 1)) i [.dat (p.obj cT cR c)] = some (.ok (.dat (.str p.txt)), none) := by
  intro p hp
  have hfit := hp.fit
  obtain ⟨cd, q1, q2, q3, q4, _⟩ := hc.cls
  have key : wC (callN T fuel (n + 1)) i [.dat (p.obj cT cR c)] fun q mo => q = .ok (.dat (.str p.txt)) ∧ mo = none := by
    refine wC_of (m0 := [some (.dat (p.obj cT cR c)), none, none, none]) hf rfl (by decide) rfl ?_
    unfold b_Rule_str
    repeat ac_rfl
    refine x_comp ?_
    repeat ac_rfl
    refine x_fld (d := p.l) q1 q2 (by rw [q4]; rfl) rfl ?_
    repeat ac_rfl
    refine x_compM lnPair (fun l => .str (lineT l)) (fun m => ∃ y z, m = [some (.dat (p.obj cT cR c)), none, y, z]) p.ls rfl (by have := hp.l2; unfold sizeLine; omega) ⟨none, none, rfl⟩ ?_ ?_
    · rintro l hl m ⟨y, z, rfl⟩
      have hl1 := (hfit.lf l hl).nm
      have hl2 := ln_len (hfit.lf l hl)
      refine x_turnF ?_
      unfold lnPair
      repeat ac_rfl
      rw [evl, evl, evl, evl]
      refine wM_jstL_cons.mpr ?_
      repeat ac_rfl
      refine x_fmt_str (by unfold sizeLine; omega) ?_
      refine x_ok ?_
      refine x_jst (by rw [empty_app]; unfold sizeLine; omega) ?_
      refine wM_jstL_cons.mpr ?_
      repeat ac_rfl
      refine x_jst (by rw [empty_app, len_app]; show _ + 3 ≤ sizeLine; unfold sizeLine; omega) ?_
      refine wM_jstL_cons.mpr ?_
      repeat ac_rfl
      refine x_fmt_str (by unfold sizeLine; omega) ?_
      refine x_ok ?_
      refine x_jst (by rw [empty_app, len_app, len_app]; show _ + 3 + _ ≤ sizeLine; unfold sizeLine; omega) ?_
      refine wM_jstL_nil.mpr ?_
      rw [empty_app]
      repeat ac_rfl
      exact ⟨rfl, _, _, rfl⟩
    · rintro m ⟨y, z, rfl⟩
      refine x_compR ?_
      repeat ac_rfl
      refine x_fld (d := .tup (p.ss.map .str)) q1 q2 (by rw [q4]; rfl) rfl ?_
      repeat ac_rfl
      rw [List.append_nil]
      refine x_frzs_map ?_
      repeat ac_rfl
      refine x_size (by rw [List.length_cons, List.length_map]; have := hp.s2; unfold sizeLine; omega) ?_
      repeat ac_rfl
      refine x_lft (met_join (B := 8) (ys := "seats" :: p.ss) (by
        intro y hy
        rcases List.mem_cons.mp hy with rfl | hy
        · decide +kernel
        · exact hfit.sf y hy) (by rw [List.length_cons]; have := hp.s2; show _ * (8 + 1) ≤ _; omega)) ?_
      repeat ac_rfl
      refine x_fld (d := .tup (p.rs.map rwT)) q1 q2 (by rw [q4]; rfl) rfl ?_
      repeat ac_rfl
      rw [List.append_nil, ← List.map_append]
      refine x_frzs_map ?_
      repeat ac_rfl
      refine x_size (by rw [List.length_cons, List.length_append, List.length_map, List.length_map]; have := hp.l2; have := hp.r2; unfold sizeLine; omega) ?_
      repeat ac_rfl
      rw [show Txt.join (Str.ofString " ") (Str.ofString "seats" :: p.ss) = headT p.ss from rfl]
      have e : (Dat.str (headT p.ss) :: (p.ls.map (fun l => Dat.str (lineT l)) ++ p.rs.map rwT)) = ((headT p.ss :: p.ls.map lineT) ++ p.rs.map Rw.txt).map .str := by
        rw [List.map_append, List.map_cons, List.map_map, List.map_map]
        rfl
      rw [e]
      refine x_lft (met_join (pl_mem hfit) (by have := pl_le hfit; show _ * (500 + 1) ≤ _; omega)) ?_
      repeat ac_rfl
      exact ⟨rfl, rfl⟩
  obtain ⟨r, mo, e, rfl, rfl⟩ := of_wC key
  exact e
end
end SB.P
set_option maxHeartbeats 0
namespace SB.P
open PySem L2 TL
local macro_rules
  | `(tactic| ac_rfl) => `(tactic| first
    | (with_reducible first
      | refine x_ok ?_
      | refine x_out ?_
      | refine x_true ?_
      | refine x_false ?_
      | refine x_nottrue ?_
      | refine x_notfalse ?_
      | refine x_var ?_
      | refine x_varO ?_
      | refine x_cst ?_
      | refine x_asBl ?_
      | refine wM_evs_nil.mpr ?_
      | refine wM_evs_cons.mpr ?_
      | refine x_look_pdat ?_
      | refine x_look_pown ?_
      | refine x_look_pbor ?_
      | refine x_look_borD ?_
      | refine x_look_dat ?_
      | refine x_look_own ?_
      | refine x_look_bor ?_
      | refine x_frz_pdat ?_
      | refine x_frz_pown ?_
      | refine x_frz_pbor ?_
      | refine x_frz_pborD ?_
      | refine x_frz_dat ?_
      | refine x_frz_bor ?_
      | refine x_frz_borD ?_
      | refine x_frzs_nil ?_
      | refine x_frzs_cons ?_
      | refine x_looks_nil ?_
      | refine x_looks_cons ?_
      | refine wM_bin.mpr ?_
      | refine wM_una.mpr ?_
      | refine wM_cmp.mpr ?_
      | refine wM_chn.mpr ?_
      | refine wM_and.mpr ?_
      | refine wM_or.mpr ?_
      | refine wM_not.mpr ?_
      | refine wM_ife.mpr ?_
      | refine wM_tup.mpr ?_
      | refine wM_lst.mpr ?_
      | refine wM_dic0.mpr ?_
      | refine wM_idx.mpr ?_
      | refine wM_sli.mpr ?_
      | refine wM_partM_nil.mpr ?_
      | refine wM_part_cst.mpr ?_
      | refine wM_part_bin.mpr ?_
      | refine wM_part_var.mpr ?_
      | refine wM_part_una.mpr ?_
      | refine wM_att.mpr ?_
      | refine wM_cal.mpr ?_
      | refine wM_calm.mpr ?_
      | refine wM_mak.mpr ?_
      | refine wM_makv.mpr ?_
      | refine wM_blt.mpr ?_
      | refine wM_isi.mpr ?_
      | refine wM_met.mpr ?_
      | refine wM_kmak.mpr ?_
      | refine wM_kcal.mpr ?_
      | refine wM_omet.mpr ?_
      | refine wM_cmet.mpr ?_
      | refine wM_evs_star.mpr ?_
      | refine x_callMo ?_
      | refine x_app ?_
      | refine x_pop ?_
      | refine x_pop2 ?_
      | refine wM_fmt.mpr ?_
      | refine wM_jst.mpr ?_
      | refine x_ret ?_
      | refine x_some ?_
      | refine wS_seq.mpr ?_
      | refine wS_nil.mpr ?_
      | refine wS_asg.mpr ?_
      | refine wS_par.mpr ?_
      | refine wS_exp.mpr ?_
      | refine wS_ret.mpr ?_
      | refine wS_ife.mpr ?_
      | refine wS_retn.mpr ?_
      | refine wS_pas.mpr ?_
      | refine wS_tryq.mpr ?_
      | refine x_bind_nam ?_
      | refine x_bind_tup ?_
      | refine x_bind_cons ?_
      | refine x_bind_nil ?_
      | refine wS_loop.mpr ?_
      | refine wS_hdr.mpr ?_
      | refine wS_hand_dat.mpr ?_
      | refine wS_hand_own.mpr ?_
      | refine x_hand_bor ?_
      | refine x_hand_borD ?_
      | refine seqQ_nxt.mpr ?_
      | refine seqQ_ret.mpr ?_
      | refine turnQ_nxt.mpr ?_
      | refine turnQ_ret.mpr ?_
      | refine endQ_ret.mpr ?_
      | refine endQ_nxt.mpr ?_
      | refine fstQ_true.mpr ?_
      | refine fstQ_false.mpr ?_
      | refine notExc_nxt.mpr ?_
      | refine notExc_ret.mpr ?_
      | refine wM_asg_nam.mpr ?_
      | refine wM_asg_tup.mpr ?_
      | refine wM_asgs_nil.mpr ?_
      | refine wM_asgs_cons.mpr ?_
      | refine wM_asg_sub.mpr ?_
      | refine x_asg_sub ?_
      | refine wM_asg_att.mpr ?_
      | refine x_sub0 ?_
      | refine x_sub1 ?_
      | refine x_sub2 ?_
      | refine x_set_dat ?_
      | refine x_set_own ?_
      | refine x_set_bor ?_
      | refine wM_hold_dat.mpr ?_
      | refine wM_hold_own.mpr ?_
      | refine wM_hold_bor.mpr ?_
      | refine wM_it_pl.mpr ?_
      | refine wM_it_en.mpr ?_
      | refine wM_it_zi.mpr ?_
      | refine wM_it_r1.mpr ?_
      | refine wM_it_r2.mpr ?_
      | refine putQ_dat.mpr ?_
      | refine putQ_own.mpr ?_
      | refine cndQ_bl.mpr ?_
      | refine x_map cmp_eq_int ?_
      | refine x_map cmp_ne_int ?_
      | refine x_map cmp_eq_str ?_
      | refine x_map cmp_ne_str ?_
      | refine x_map cmp_in_strs ?_
      | refine x_map cmp_in_strsT ?_
      | refine x_map cmp_ni_strs ?_
      | refine x_map cmp_ni_strsT ?_
      | refine x_lft (bin_mod (by first | decide | assumption | omega)) ?_
      | refine x_lft (bin_fdiv (by first | decide | assumption | omega) (by first | decide | assumption | omega)) ?_
      | refine x_lft (bin_mul_l (by decide)) ?_
      | refine x_lft (bin_mul_r (by decide)) ?_
      | refine x_pos (by decide) ?_
      | refine x_neg (by decide) ?_
      | refine x_npos (by decide) ?_
      | refine x_nneg (by decide) ?_
      | refine x_part ?_
      | refine x_star_lst ?_
      | refine x_star_tup ?_
      | refine x_en_lst ?_
      | refine x_en_tup ?_
      | refine x_zi_lst ?_
      | refine x_zi_tup ?_
      | refine x_r1 (by omega) (by omega) ?_
      | refine x_r2 (by omega) (by omega) (by omega) (by omega) ?_
      | refine x_size (by decide) ?_
      | refine x_ifp (by decide) ?_
      | refine x_ifn (by decide) ?_)
    | ((with_reducible apply x_map); exact rfl)
    | ((with_reducible apply x_lft); exact rfl)
    | ((with_reducible apply x_idx_lst); exact rfl)
    | ((with_reducible apply x_idx_tup); exact rfl)
    | ((with_reducible apply x_blt); exact rfl)
    | ((with_reducible apply x_tupQ); exact rfl)
    | ((with_reducible apply x_size); exact Nat.le_of_ble_eq_true rfl))
theorem mem_joinL {S : List Nat} {c : Nat} : ∀ {l : List (List Nat)}, c ∈ joinL S l → c ∈ S ∨ ∃ y ∈ l, c ∈ y
  | [], h => by simp [joinL] at h
  | [p], h => Or.inr ⟨p, by simp, h⟩
  | p :: q :: r, h => by
    rw [joinL, List.mem_append, List.mem_append] at h
    rcases h with h | h | h
    · exact Or.inr ⟨p, by simp, h⟩
    · exact Or.inl h
    · rcases mem_joinL h with h | ⟨y, hy, h⟩
      · exact Or.inl h
      · exact Or.inr ⟨y, List.mem_cons_of_mem _ hy, h⟩
theorem not_join {a : PySem.Str} {ys : List PySem.Str} {c : Nat} (ha : c ∉ tl a) (h : ∀ y ∈ ys, c ∉ tl y) : c ∉ tl (Txt.join a ys) := by
  rw [join_eq, tl_join]
  intro hm
  rcases mem_joinL hm with h1 | ⟨z, hz, h1⟩
  · exact ha h1
  · obtain ⟨y, hy, rfl⟩ := List.mem_map.mp hz
    exact h y hy h1
def Ln.words (l : Ln) : List PySem.Str := wordT l.hi :: numT l.k :: l.ps.map Pt.txt
theorem eq_tl : tl (" = " : PySem.Str) = tl (" " : PySem.Str) ++ (tl ("=" : PySem.Str) ++ tl (" " : PySem.Str)) := by decide +kernel
theorem line_join (l : Ln) : lineT l = Txt.join " " (l.nm :: "=" :: l.words) := by
  refine ext_tl ?_
  unfold lineT Ln.txt Ln.words
  rw [tl_append, tl_append, join_eq, join_eq, tl_join, tl_join, eq_tl]
  simp only [List.map_cons, joinL, List.append_assoc]
theorem ln_words_al {ns : List PySem.Str} {l : Ln} (hn : ∀ s ∈ ns, NameOk s) (h : LnOk ns l) : ∀ y ∈ l.words, ∀ c ∈ tl y, isAl c = true := by
  intro y hy
  rcases List.mem_cons.mp hy with rfl | hy
  · cases l.hi <;> decide +kernel
  rcases List.mem_cons.mp hy with rfl | hy
  · exact num_al _
  obtain ⟨p, hp, rfl⟩ := List.mem_map.mp hy
  exact pt_al hn (h.ok p hp)
theorem lines_words : ∀ {ls : List Ln} {ns : List PySem.Str}, (∀ s ∈ ns ++ ls.map Ln.nm, NameOk s) → LinesOk ns ls → ∀ l ∈ ls, ∀ y ∈ l.words, ∀ c ∈ tl y, isAl c = true
  | k :: ls, ns, hn, h, l, hl => by
    rcases List.mem_cons.mp hl with rfl | hl
    · exact ln_words_al (fun s hs => hn s (List.mem_append_left _ hs)) h.1
    · exact lines_words (ns := ns ++ [k.nm]) (fun s hs => hn s (by simpa using hs)) h.2 l hl
theorem words_no10 {ns ss : List PySem.Str} {r : Rw} (hn : ∀ s ∈ ns, NameOk s) (hs : ∀ s ∈ ss, NameOk s) (h : RwOk ns ss r) : ∀ y ∈ r.words, 10 ∉ tl y := by
  intro y hy
  have hd : ∀ y ∈ deedW r.sale, 10 ∉ tl y := fun y hy => not_mem (deedW_nosp hn hs ⟨h.sale⟩ y hy) rfl
  unfold Rw.words at hy
  split at hy
  · exact hd y hy
  · rename_i p b q e
    obtain ⟨hp, hq⟩ := h.cond p b q e
    rcases List.mem_append.mp hy with hy | hy
    · simp only [List.mem_cons, List.not_mem_nil, or_false] at hy
      rcases hy with rfl | rfl | rfl | rfl
      · decide +kernel
      · exact not_mem (pt_al hn hp) rfl
      · cases b <;> decide +kernel
      · rw [tl_append]
        have e1 : tl (":" : PySem.Str) = [58] := by decide +kernel
        rw [e1]
        simp only [List.mem_append, List.mem_singleton]
        exact fun h => h.elim (not_mem (pt_al hn hq) rfl) (by decide)
    · exact hd y hy
theorem row_second {ns ss : List PySem.Str} {r : Rw} (hn : ∀ s ∈ ns, NameOk s) (hs : ∀ s ∈ ss, NameOk s) (h : RwOk ns ss r) : (r.words.drop 1).take 1 = [] ∨ ∃ y, (r.words.drop 1).take 1 = [y] ∧ ∀ c ∈ tl y, isAl c = true := by
  obtain ⟨cond, sale⟩ := r
  cases cond with
  | none =>
    cases sale with
    | none => exact Or.inl rfl
    | some q =>
      obtain ⟨w, p⟩ := q
      exact Or.inr ⟨w.txt, rfl, wh_al hs (h.sale w p rfl).1⟩
  | some c =>
    obtain ⟨p, b, q⟩ := c
    exact Or.inr ⟨p.txt, rfl, pt_al hn (h.cond p b q rfl).1⟩
theorem cutD_mid {l : List Dat} : cutD l (some 1) (some 2) = (l.drop 1).take 1 := by
  unfold cutD
  rw [show (1 : Int) = ((1 : Nat) : Int) from rfl, show (2 : Int) = ((2 : Nat) : Int) from rfl, HT.sIx_nat, HT.sIx_nat]
  cases l with
  | nil => rfl
  | cons a l =>
    cases l with
    | nil => rfl
    | cons b l =>
      rw [List.length_cons, List.length_cons, Nat.min_eq_left (by omega), Nat.min_eq_left (by omega)]
theorem pl_no10 {p : Pl} (hp : PlOk p) : ∀ y ∈ (headT p.ss :: p.ls.map lineT) ++ p.rs.map Rw.txt, 10 ∉ tl y := by
  intro y hy
  have h32 : 10 ∉ tl (" " : PySem.Str) := by decide +kernel
  rcases List.mem_append.mp hy with h | h
  · rcases List.mem_cons.mp h with rfl | h
    · refine not_join h32 fun y hy => ?_
      rcases List.mem_cons.mp hy with rfl | hy
      · decide +kernel
      · exact not_mem (name_al (hp.nok y (List.mem_append_left _ hy))) rfl
    · obtain ⟨l, hl, rfl⟩ := List.mem_map.mp h
      rw [line_join]
      refine not_join h32 fun y hy => ?_
      rcases List.mem_cons.mp hy with rfl | hy
      · exact not_mem (name_al (hp.nok l.nm (List.mem_append_right _ (List.mem_map_of_mem hl)))) rfl
      rcases List.mem_cons.mp hy with rfl | hy
      · decide +kernel
      · exact not_mem (lines_words hp.nok hp.lok l hl y hy) rfl
  · obtain ⟨r, hr, rfl⟩ := List.mem_map.mp h
    rw [row_join]
    exact not_join h32 (words_no10 hp.nok (fun s hs => hp.nok s (List.mem_append_left _ hs)) (hp.rok r hr))
section
variable {T : Tab} {C : Calls} {m : Frm} {Q : Except Exn RV → Frm → Prop}
theorem x_bltStr {c g : Nat} {cd : Cd} {fs : List (PySem.Str × Dat)} {s : PySem.Str} {mo : Option Dat} (hc : T.cls[c]? = some cd) (hx : cd.exc = false) (hm : cd.mets.lookup ("__str__" : PySem.Str) = some g) (e : C g [.dat (.obj c fs)] = some (.ok (.dat (.str s)), mo)) (h : Q (.ok (.dat (.str s))) m) : wM (bltM T C .str [.dat (.obj c fs)] [.obj c fs]) m Q := by
  show wM (bnd (specM T C "__str__" c [.dat (.obj c fs)]) fun r => lft (isTxt r)) m Q
  refine x_bnd ?_
  refine x_spec (ds := [.obj c fs]) hc hx hm e ?_
  exact wM_some.mpr h
theorem x_bltLen {c g : Nat} {cd : Cd} {fs : List (PySem.Str × Dat)} {k : Nat} {mo : Option Dat} (hc : T.cls[c]? = some cd) (hx : cd.exc = false) (hm : cd.mets.lookup ("__len__" : PySem.Str) = some g) (hk : k ≤ 1000) (e : C g [.dat (.obj c fs)] = some (.ok (.dat (.int (k : Nat))), mo)) (h : Q (.ok (.dat (.int (k : Nat)))) m) : wM (bltM T C .len [.dat (.obj c fs)] [.obj c fs]) m Q := by
  show wM (bnd (specM T C "__len__" c [.dat (.obj c fs)]) fun r => lft (isLen r)) m Q
  refine x_bnd ?_
  refine x_spec (ds := [.obj c fs]) hc hx hm e ?_
  have : isLen (.dat (.int (k : Nat))) = some (.dat (.int (k : Nat))) := by
    unfold isLen
    dsimp only
    have h63 : (k : Int) < 2 ^ 63 := Int.lt_of_le_of_lt (show (k : Int) ≤ 1000 by omega) (by decide)
    rw [if_pos ⟨by omega, h63⟩]
  show wM (lft (isLen _)) m Q
  rw [this]
  exact wM_some.mpr h
theorem x_bltBool {c g : Nat} {cd : Cd} {fs : List (PySem.Str × Dat)} {b : Bool} {mo : Option Dat} (hc : T.cls[c]? = some cd) (hx : cd.exc = false) (hm : cd.mets.lookup ("__bool__" : PySem.Str) = some g) (e : C g [.dat (.obj c fs)] = some (.ok (.dat (.bl b)), mo)) (h : Q (.ok (.dat (.bl b))) m) : wM (bltM T C .bool [.dat (.obj c fs)] [.obj c fs]) m Q := by
  show wM (bnd (specM T C "__bool__" c [.dat (.obj c fs)]) fun r => lft (isTru r)) m Q
  refine x_bnd ?_
  refine x_spec (ds := [.obj c fs]) hc hx hm e ?_
  exact wM_some.mpr h
theorem x_item {c g : Nat} {cd : Cd} {fs : List (PySem.Str × Dat)} {k v : Dat} {mo : Option Dat} (hc : T.cls[c]? = some cd) (hx : cd.exc = false) (hm : cd.mets.lookup ("__getitem__" : PySem.Str) = some g) (e : C g [.dat (.obj c fs), .dat k] = some (.ok (.dat v), mo)) (h : Q (.ok (.dat v)) m) : wM (idxM T C (.dat (.obj c fs)) (.dat k) (.obj c fs) k) m Q := by
  show wM (specM T C "__getitem__" c [.dat (.obj c fs), .dat k]) m Q
  exact x_spec (ds := [.obj c fs, k]) hc hx hm e h
end
end SB.P
set_option maxHeartbeats 0
namespace SB.P
open PySem L2 TL
local macro_rules
  | `(tactic| ac_rfl) => `(tactic| first
    | (with_reducible first
      | refine x_ok ?_
      | refine x_out ?_
      | refine x_true ?_
      | refine x_false ?_
      | refine x_nottrue ?_
      | refine x_notfalse ?_
      | refine x_var ?_
      | refine x_varO ?_
      | refine x_cst ?_
      | refine x_asBl ?_
      | refine wM_evs_nil.mpr ?_
      | refine wM_evs_cons.mpr ?_
      | refine x_look_pdat ?_
      | refine x_look_pown ?_
      | refine x_look_pbor ?_
      | refine x_look_borD ?_
      | refine x_look_dat ?_
      | refine x_look_own ?_
      | refine x_look_bor ?_
      | refine x_frz_pdat ?_
      | refine x_frz_pown ?_
      | refine x_frz_pbor ?_
      | refine x_frz_pborD ?_
      | refine x_frz_dat ?_
      | refine x_frz_bor ?_
      | refine x_frz_borD ?_
      | refine x_frzs_nil ?_
      | refine x_frzs_cons ?_
      | refine x_looks_nil ?_
      | refine x_looks_cons ?_
      | refine wM_bin.mpr ?_
      | refine wM_una.mpr ?_
      | refine wM_cmp.mpr ?_
      | refine wM_chn.mpr ?_
      | refine wM_and.mpr ?_
      | refine wM_or.mpr ?_
      | refine wM_not.mpr ?_
      | refine wM_ife.mpr ?_
      | refine wM_tup.mpr ?_
      | refine wM_lst.mpr ?_
      | refine wM_dic0.mpr ?_
      | refine wM_idx.mpr ?_
      | refine wM_sli.mpr ?_
      | refine wM_partM_nil.mpr ?_
      | refine wM_part_cst.mpr ?_
      | refine wM_part_bin.mpr ?_
      | refine wM_part_var.mpr ?_
      | refine wM_part_una.mpr ?_
      | refine wM_att.mpr ?_
      | refine wM_cal.mpr ?_
      | refine wM_calm.mpr ?_
      | refine wM_mak.mpr ?_
      | refine wM_makv.mpr ?_
      | refine wM_blt.mpr ?_
      | refine wM_isi.mpr ?_
      | refine wM_met.mpr ?_
      | refine wM_kmak.mpr ?_
      | refine wM_kcal.mpr ?_
      | refine wM_omet.mpr ?_
      | refine wM_cmet.mpr ?_
      | refine wM_evs_star.mpr ?_
      | refine x_callMo ?_
      | refine x_app ?_
      | refine x_pop ?_
      | refine x_pop2 ?_
      | refine wM_fmt.mpr ?_
      | refine wM_jst.mpr ?_
      | refine x_ret ?_
      | refine x_some ?_
      | refine wS_seq.mpr ?_
      | refine wS_nil.mpr ?_
      | refine wS_asg.mpr ?_
      | refine wS_par.mpr ?_
      | refine wS_exp.mpr ?_
      | refine wS_ret.mpr ?_
      | refine wS_ife.mpr ?_
      | refine wS_retn.mpr ?_
      | refine wS_pas.mpr ?_
      | refine wS_tryq.mpr ?_
      | refine x_bind_nam ?_
      | refine x_bind_tup ?_
      | refine x_bind_cons ?_
      | refine x_bind_nil ?_
      | refine wS_loop.mpr ?_
      | refine wS_hdr.mpr ?_
      | refine wS_hand_dat.mpr ?_
      | refine wS_hand_own.mpr ?_
      | refine x_hand_bor ?_
      | refine x_hand_borD ?_
      | refine seqQ_nxt.mpr ?_
      | refine seqQ_ret.mpr ?_
      | refine turnQ_nxt.mpr ?_
      | refine turnQ_ret.mpr ?_
      | refine endQ_ret.mpr ?_
      | refine endQ_nxt.mpr ?_
      | refine fstQ_true.mpr ?_
      | refine fstQ_false.mpr ?_
      | refine notExc_nxt.mpr ?_
      | refine notExc_ret.mpr ?_
      | refine wM_asg_nam.mpr ?_
      | refine wM_asg_tup.mpr ?_
      | refine wM_asgs_nil.mpr ?_
      | refine wM_asgs_cons.mpr ?_
      | refine wM_asg_sub.mpr ?_
      | refine x_asg_sub ?_
      | refine wM_asg_att.mpr ?_
      | refine x_sub0 ?_
      | refine x_sub1 ?_
      | refine x_sub2 ?_
      | refine x_set_dat ?_
      | refine x_set_own ?_
      | refine x_set_bor ?_
      | refine wM_hold_dat.mpr ?_
      | refine wM_hold_own.mpr ?_
      | refine wM_hold_bor.mpr ?_
      | refine wM_it_pl.mpr ?_
      | refine wM_it_en.mpr ?_
      | refine wM_it_zi.mpr ?_
      | refine wM_it_r1.mpr ?_
      | refine wM_it_r2.mpr ?_
      | refine putQ_dat.mpr ?_
      | refine putQ_own.mpr ?_
      | refine cndQ_bl.mpr ?_
      | refine x_map cmp_eq_int ?_
      | refine x_map cmp_ne_int ?_
      | refine x_map cmp_eq_str ?_
      | refine x_map cmp_ne_str ?_
      | refine x_map cmp_in_strs ?_
      | refine x_map cmp_in_strsT ?_
      | refine x_map cmp_ni_strs ?_
      | refine x_map cmp_ni_strsT ?_
      | refine x_lft (bin_mod (by first | decide | assumption | omega)) ?_
      | refine x_lft (bin_fdiv (by first | decide | assumption | omega) (by first | decide | assumption | omega)) ?_
      | refine x_lft (bin_mul_l (by decide)) ?_
      | refine x_lft (bin_mul_r (by decide)) ?_
      | refine x_pos (by decide) ?_
      | refine x_neg (by decide) ?_
      | refine x_npos (by decide) ?_
      | refine x_nneg (by decide) ?_
      | refine x_part ?_
      | refine x_star_lst ?_
      | refine x_star_tup ?_
      | refine x_en_lst ?_
      | refine x_en_tup ?_
      | refine x_zi_lst ?_
      | refine x_zi_tup ?_
      | refine x_r1 (by omega) (by omega) ?_
      | refine x_r2 (by omega) (by omega) (by omega) (by omega) ?_
      | refine x_size (by decide) ?_
      | refine x_ifp (by decide) ?_
      | refine x_ifn (by decide) ?_)
    | ((with_reducible apply x_map); exact rfl)
    | ((with_reducible apply x_lft); exact rfl)
    | ((with_reducible apply x_idx_lst); exact rfl)
    | ((with_reducible apply x_idx_tup); exact rfl)
    | ((with_reducible apply x_blt); exact rfl)
    | ((with_reducible apply x_tupQ); exact rfl)
    | ((with_reducible apply x_size); exact Nat.le_of_ble_eq_true rfl))
def SpRead (C : Calls) (cT cR c g : Nat) : Prop := ∀ p, PlOk p → C g [.dat (.cls c), .dat (.str p.txt)] = some (.ok (.dat (p.obj cT cR c)), none)
theorem met_part {a b : PySem.Str} (ha : 32 ∉ tl a) (hl : ((a ++ (" = " : PySem.Str)) ++ b).length ≤ sizeLine) : metV .partition (.str ((a ++ " = ") ++ b)) [.str " = "] = some (.dat (.tup [.str a, .str " = ", .str b])) := by
  show (if ((" = " : PySem.Str).length == 0) = false ∧ ((a ++ (" = " : PySem.Str)) ++ b).length ≤ sizeLine then some (RV.dat (.tup [.str (Txt.partition ((a ++ " = ") ++ b) " = ").1, .str (Txt.partition ((a ++ " = ") ++ b) " = ").2.1, .str (Txt.partition ((a ++ " = ") ++ b) " = ").2.2])) else none) = _
  rw [if_pos ⟨rfl, hl⟩, partition_app (s := 32) (S := [61, 32]) (by decide +kernel) ha]
section
variable {T : Tab} {fuel n i : Nat} {nn : Bool} {kws : List (Nat × List PySem.Str × List Nat)} {cT cR c gI gS gL gR gGet gLen gBool gStr : Nat}
theorem read_ok (hfu : 100 < fuel) (hc : RuleC T c gI gS gL gR gGet gLen gBool gStr) (hI : SpInit (callN T fuel n) cT cR c gI) (hS : ∀ p, PlOk p → (callN T fuel n) gStr [.dat (p.obj cT cR c)] = some (.ok (.dat (.str p.txt)), none)) (hf : T.fns[i]? = some ⟨2, 10, false, nn, b_Rule_read c, kws⟩) : SpRead (callN T fuel (n + 1)) cT cR c i := by
  intro p hp
  have hfit := hp.fit
  obtain ⟨cd, q1, q2, q3, q4, q5, q6, q7, q8, q9⟩ := hc.cls
  have hss : ∀ s ∈ p.ss, NameOk s := fun s hs => hp.nok s (List.mem_append_left _ hs)
  have key : wC (callN T fuel (n + 1)) i [.dat (.cls c), .dat (.str p.txt)] fun q mo => q = .ok (.dat (p.obj cT cR c)) ∧ mo = none := by
    refine wC_of (m0 := [some (.dat (.cls c)), some (.dat (.str p.txt)), none, none, none, none, none, none, none, none]) hf rfl (by decide) rfl ?_
    unfold b_Rule_read
    have hpl := pl_len hfit
    repeat ac_rfl
    refine x_lft (met_split (a := p.txt) (y := "\n") (s := 10) (S := []) (parts := (headT p.ss :: p.ls.map lineT) ++ p.rs.map Rw.txt) (by decide +kernel) (by decide +kernel) (by simp) (pl_no10 hp) rfl (by unfold sizeLine; omega)) ?_
    repeat ac_rfl
    have eh : List.map Dat.str (headT p.ss :: p.ls.map lineT ++ p.rs.map Rw.txt) = .str (headT p.ss) :: (p.ls.map lineT ++ p.rs.map Rw.txt).map .str := by simp
    rw [eh]
    refine ⟨by rw [List.length_map, List.length_append, List.length_map, List.length_map]; have := hp.l2; have := hp.r2; omega, ?_⟩
    repeat ac_rfl
    have hhl := headT_len hp.s2 hfit.sf
    refine x_lft (met_split (a := headT p.ss) (y := " ") (s := 32) (S := []) (parts := "seats" :: p.ss) (by decide +kernel) (by decide +kernel) (by simp) (fun y hy => by
      rcases List.mem_cons.mp hy with rfl | hy
      · decide +kernel
      · exact not_mem (name_al (hss y hy)) rfl) rfl (by unfold sizeLine; omega)) ?_
    repeat ac_rfl
    refine wS_whl (fun k m => ∃ dn r y6 y7 y8, dn ++ r = p.ls ∧ r.length = k ∧ m = [some (.dat (.cls c)), some (.dat (.str p.txt)), some (.dat (.str (headT p.ss))), some (.own (.lst ((r.map lineT ++ p.rs.map Rw.txt).map .str))), some (.own (.lst ((("seats" : PySem.Str) :: p.ss).map .str))), some (.own (.lst (dn.map lnPair))), y6, y7, y8, none]) ?_ (n := p.ls.length) (by have := hp.l2; omega) ⟨[], p.ls, none, none, none, rfl, rfl, rfl⟩
    rintro k m ⟨dn, r, y6, y7, y8, e, rfl, rfl⟩
    cases r with
    | nil =>
      obtain ⟨r0, rs', er⟩ : ∃ r0 rs', p.rs = r0 :: rs' := by
        cases h : p.rs with
        | nil => have := hp.r1; rw [h] at this; cases this
        | cons a b => exact ⟨a, b, rfl⟩
      have hr0 : r0 ∈ p.rs := by rw [er]; simp
      have e3 : List.map Dat.str (List.map lineT [] ++ List.map Rw.txt p.rs) = .str r0.txt :: (rs'.map Rw.txt).map .str := by rw [er]; rfl
      rw [e3]
      have hr0l := rw_len (hfit.rf r0 hr0)
      have hne : r0.words ≠ [] := by
        unfold Rw.words
        split
        · cases r0.sale with
          | none => simp [deedW]
          | some q => obtain ⟨w, p⟩ := q; simp [deedW]
        · simp
      repeat ac_rfl
      refine x_pos (by rw [List.length_cons]; omega) ?_
      repeat ac_rfl
      refine x_idx_lst (d := .str _) atI0 ?_
      repeat ac_rfl
      refine x_lft (met_split (a := r0.txt) (y := " ") (s := 32) (S := []) (parts := r0.words) (by decide +kernel) (by decide +kernel) hne (fun y hy => (words_nosp hp.nok hss (hp.rok r0 hr0) y hy).1) (row_join r0) (by unfold sizeLine; omega)) ?_
      repeat ac_rfl
      rw [cutD_mid, ← List.map_drop, ← List.map_take]
      have hsec := row_second hp.nok hss (hp.rok r0 hr0)
      refine x_map (eq_strs (b := ["="]) (fun s h => by
        rcases hsec with hz | ⟨y, hz, hy⟩
        · rw [hz] at h; cases h
        · rw [hz] at h; rcases List.mem_singleton.mp h with rfl; exact low_al hy) (by intro s h; rcases List.mem_singleton.mp h with rfl; unfold Low; decide +kernel)) ?_
      repeat ac_rfl
      have hdec : decide ((r0.words.drop 1).take 1 = [("=" : PySem.Str)]) = false := decide_eq_false (fun hz => by
        rcases hsec with h | ⟨y, h, hy⟩
        · rw [h] at hz; cases hz
        · rw [h] at hz
          cases hz
          exact absurd (hy 61 (by decide +kernel)) (by decide))
      rw [hdec]
      repeat ac_rfl
      rw [List.append_nil] at e
      subst e
      have ecut : cutD (List.map Dat.str (Str.ofString "seats" :: p.ss)) (some 1) none = p.ss.map .str := by
        have := cutD_drop (l := List.map Dat.str (Str.ofString "seats" :: p.ss)) (k := 1) (by simp)
        rw [show ((1 : Nat) : Int) = 1 from rfl] at this
        rw [this]
        rfl
      refine x_cls q1 q2 ?_
      repeat ac_rfl
      have er2 : Dat.tup (Dat.str r0.txt :: List.map Dat.str (List.map Rw.txt rs')) = p.r := by
        unfold Pl.r
        rw [er, List.map_cons, List.map_map]
        rfl
      rw [ecut, er2]
      refine x_make q1 q2 q3 (hI p hp) ?_
      repeat ac_rfl
      refine x_bltStr q1 q2 q9 (hS p hp) ?_
      repeat ac_rfl
      refine x_npos rfl ?_
      repeat ac_rfl
      exact ⟨rfl, rfl⟩
    | cons l r =>
      have hlm : l ∈ p.ls := by rw [← e]; simp
      have e3 : List.map Dat.str (List.map lineT (l :: r) ++ List.map Rw.txt p.rs) = .str (lineT l) :: (r.map lineT ++ p.rs.map Rw.txt).map .str := rfl
      rw [e3]
      have hll := lineT_len (hfit.lf l hlm)
      have hnm := hp.nok l.nm (List.mem_append_right _ (List.mem_map_of_mem hlm))
      repeat ac_rfl
      refine x_pos (by rw [List.length_cons]; omega) ?_
      repeat ac_rfl
      refine x_idx_lst (d := .str _) atI0 ?_
      repeat ac_rfl
      refine x_lft (met_split (a := lineT l) (y := " ") (s := 32) (S := []) (parts := l.nm :: "=" :: l.words) (by decide +kernel) (by decide +kernel) (by simp) (fun y hy => by
        rcases List.mem_cons.mp hy with rfl | hy
        · exact not_mem (name_al hnm) rfl
        rcases List.mem_cons.mp hy with rfl | hy
        · decide +kernel
        · exact not_mem (lines_words hp.nok hp.lok l hlm y hy) rfl) (line_join l) (by unfold sizeLine; omega)) ?_
      repeat ac_rfl
      rw [cutD_mid]
      refine x_map (eq_strs (a := ["="]) (b := ["="]) (by intro s h; rcases List.mem_singleton.mp h with rfl; unfold Low; decide +kernel) (by intro s h; rcases List.mem_singleton.mp h with rfl; unfold Low; decide +kernel)) ?_
      repeat ac_rfl
      refine ⟨r.length, rfl, ?_⟩
      repeat ac_rfl
      refine x_lft (met_part (a := l.nm) (b := l.txt) (not_mem (name_al hnm) rfl) (by show (lineT l).length ≤ _; unfold sizeLine; omega)) ?_
      repeat ac_rfl
      refine x_app2 ?_ ?_
      · rw [List.length_map]
        have : dn.length + (r.length + 1) = p.ls.length := by rw [← e, List.length_append, List.length_cons]
        have := hp.l2
        unfold sizeLine
        omega
      repeat ac_rfl
      have el : (dn ++ [l]).map lnPair = dn.map lnPair ++ [.tup [.str l.nm, .str l.txt]] := by simp [lnPair]
      exact ⟨dn ++ [l], r, _, _, _, by simpa using e, rfl, by rw [el]⟩
  obtain ⟨r, mo, e, rfl, rfl⟩ := of_wC key
  exact e
end
end SB.P
set_option maxHeartbeats 0
namespace SB.P
open PySem L2 TL
local macro_rules
  | `(tactic| ac_rfl) => `(tactic| first
    | (with_reducible first
      | refine x_ok ?_
      | refine x_out ?_
      | refine x_true ?_
      | refine x_false ?_
      | refine x_nottrue ?_
      | refine x_notfalse ?_
      | refine x_var ?_
      | refine x_varO ?_
      | refine x_cst ?_
      | refine x_asBl ?_
      | refine wM_evs_nil.mpr ?_
      | refine wM_evs_cons.mpr ?_
      | refine x_look_pdat ?_
      | refine x_look_pown ?_
      | refine x_look_pbor ?_
      | refine x_look_borD ?_
      | refine x_look_dat ?_
      | refine x_look_own ?_
      | refine x_look_bor ?_
      | refine x_frz_pdat ?_
      | refine x_frz_pown ?_
      | refine x_frz_pbor ?_
      | refine x_frz_pborD ?_
      | refine x_frz_dat ?_
      | refine x_frz_bor ?_
      | refine x_frz_borD ?_
      | refine x_frzs_nil ?_
      | refine x_frzs_cons ?_
      | refine x_looks_nil ?_
      | refine x_looks_cons ?_
      | refine wM_bin.mpr ?_
      | refine wM_una.mpr ?_
      | refine wM_cmp.mpr ?_
      | refine wM_chn.mpr ?_
      | refine wM_and.mpr ?_
      | refine wM_or.mpr ?_
      | refine wM_not.mpr ?_
      | refine wM_ife.mpr ?_
      | refine wM_tup.mpr ?_
      | refine wM_lst.mpr ?_
      | refine wM_dic0.mpr ?_
      | refine wM_idx.mpr ?_
      | refine wM_sli.mpr ?_
      | refine wM_partM_nil.mpr ?_
      | refine wM_part_cst.mpr ?_
      | refine wM_part_bin.mpr ?_
      | refine wM_part_var.mpr ?_
      | refine wM_part_una.mpr ?_
      | refine wM_att.mpr ?_
      | refine wM_cal.mpr ?_
      | refine wM_calm.mpr ?_
      | refine wM_mak.mpr ?_
      | refine wM_makv.mpr ?_
      | refine wM_blt.mpr ?_
      | refine wM_isi.mpr ?_
      | refine wM_met.mpr ?_
      | refine wM_kmak.mpr ?_
      | refine wM_kcal.mpr ?_
      | refine wM_omet.mpr ?_
      | refine wM_cmet.mpr ?_
      | refine wM_evs_star.mpr ?_
      | refine x_callMo ?_
      | refine x_app ?_
      | refine x_pop ?_
      | refine x_pop2 ?_
      | refine wM_fmt.mpr ?_
      | refine wM_jst.mpr ?_
      | refine x_ret ?_
      | refine x_some ?_
      | refine wS_seq.mpr ?_
      | refine wS_nil.mpr ?_
      | refine wS_asg.mpr ?_
      | refine wS_par.mpr ?_
      | refine wS_exp.mpr ?_
      | refine wS_ret.mpr ?_
      | refine wS_ife.mpr ?_
      | refine wS_retn.mpr ?_
      | refine wS_pas.mpr ?_
      | refine wS_tryq.mpr ?_
      | refine x_bind_nam ?_
      | refine x_bind_tup ?_
      | refine x_bind_cons ?_
      | refine x_bind_nil ?_
      | refine wS_loop.mpr ?_
      | refine wS_hdr.mpr ?_
      | refine wS_hand_dat.mpr ?_
      | refine wS_hand_own.mpr ?_
      | refine x_hand_bor ?_
      | refine x_hand_borD ?_
      | refine seqQ_nxt.mpr ?_
      | refine seqQ_ret.mpr ?_
      | refine turnQ_nxt.mpr ?_
      | refine turnQ_ret.mpr ?_
      | refine endQ_ret.mpr ?_
      | refine endQ_nxt.mpr ?_
      | refine fstQ_true.mpr ?_
      | refine fstQ_false.mpr ?_
      | refine notExc_nxt.mpr ?_
      | refine notExc_ret.mpr ?_
      | refine wM_asg_nam.mpr ?_
      | refine wM_asg_tup.mpr ?_
      | refine wM_asgs_nil.mpr ?_
      | refine wM_asgs_cons.mpr ?_
      | refine wM_asg_sub.mpr ?_
      | refine x_asg_sub ?_
      | refine wM_asg_att.mpr ?_
      | refine x_sub0 ?_
      | refine x_sub1 ?_
      | refine x_sub2 ?_
      | refine x_set_dat ?_
      | refine x_set_own ?_
      | refine x_set_bor ?_
      | refine wM_hold_dat.mpr ?_
      | refine wM_hold_own.mpr ?_
      | refine wM_hold_bor.mpr ?_
      | refine wM_it_pl.mpr ?_
      | refine wM_it_en.mpr ?_
      | refine wM_it_zi.mpr ?_
      | refine wM_it_r1.mpr ?_
      | refine wM_it_r2.mpr ?_
      | refine putQ_dat.mpr ?_
      | refine putQ_own.mpr ?_
      | refine cndQ_bl.mpr ?_
      | refine x_map cmp_eq_int ?_
      | refine x_map cmp_ne_int ?_
      | refine x_map cmp_eq_str ?_
      | refine x_map cmp_ne_str ?_
      | refine x_map cmp_in_strs ?_
      | refine x_map cmp_in_strsT ?_
      | refine x_map cmp_ni_strs ?_
      | refine x_map cmp_ni_strsT ?_
      | refine x_lft (bin_mod (by first | decide | assumption | omega)) ?_
      | refine x_lft (bin_fdiv (by first | decide | assumption | omega) (by first | decide | assumption | omega)) ?_
      | refine x_lft (bin_mul_l (by decide)) ?_
      | refine x_lft (bin_mul_r (by decide)) ?_
      | refine x_pos (by decide) ?_
      | refine x_neg (by decide) ?_
      | refine x_npos (by decide) ?_
      | refine x_nneg (by decide) ?_
      | refine x_part ?_
      | refine x_star_lst ?_
      | refine x_star_tup ?_
      | refine x_en_lst ?_
      | refine x_en_tup ?_
      | refine x_zi_lst ?_
      | refine x_zi_tup ?_
      | refine x_r1 (by omega) (by omega) ?_
      | refine x_r2 (by omega) (by omega) (by omega) (by omega) ?_
      | refine x_size (by decide) ?_
      | refine x_ifp (by decide) ?_
      | refine x_ifn (by decide) ?_)
    | ((with_reducible apply x_map); exact rfl)
    | ((with_reducible apply x_lft); exact rfl)
    | ((with_reducible apply x_idx_lst); exact rfl)
    | ((with_reducible apply x_idx_tup); exact rfl)
    | ((with_reducible apply x_blt); exact rfl)
    | ((with_reducible apply x_tupQ); exact rfl)
    | ((with_reducible apply x_size); exact Nat.le_of_ble_eq_true rfl))
/-! ### what repr can show -/
def Rep (d : Dat) (k n : Nat) : Prop := ∃ q, pd d = some q ∧ q.showable = true ∧ q.hasDict = false ∧ q.depth ≤ k ∧ q.shown.length ≤ n
theorem rep_mono {d : Dat} {k n k' n' : Nat} (h : Rep d k n) (hk : k ≤ k') (hn : n ≤ n') : Rep d k' n' := by
  obtain ⟨q, a, b, c, e, f⟩ := h
  exact ⟨q, a, b, c, Nat.le_trans e hk, Nat.le_trans f hn⟩
theorem rep_str {s : PySem.Str} {n : Nat} (h : Low s) (hn : s.length ≤ n) : Rep (.str s) 0 (10 * n + 2) := by
  refine ⟨.str s, rfl, rfl, rfl, Nat.le_refl _, ?_⟩
  rw [PyData.shown_str]
  exact Nat.le_trans (StrLaws.reprText_len s fun c hc => Nat.lt_of_lt_of_le (h c hc) (by decide)) (by omega)
theorem rep_int {n : Nat} (h : n ≤ 1000) : Rep (.int (n : Nat)) 0 13 := by
  refine ⟨.int n, rfl, ?_, rfl, Nat.le_refl _, ?_⟩
  · unfold PyData.showable
    exact decide_eq_true (num_log (by omega))
  · rw [PyData.shown_int]
    exact num_len (n := n) (by omega)
theorem reps {k n : Nat} : ∀ {l : List Dat}, (∀ d ∈ l, Rep d k n) → ∃ qs, pds l = some qs ∧ PyData.showableAll qs = true ∧ PyData.hasDictAll qs = false ∧ PyData.depthAll qs ≤ k ∧ (PyData.shownAll qs).length = l.length ∧ ∀ y ∈ PyData.shownAll qs, y.length ≤ n
  | [], _ => ⟨[], rfl, rfl, rfl, Nat.zero_le _, rfl, by intro y hy; cases hy⟩
  | d :: l, h => by
    obtain ⟨q, a, b, c, e, f⟩ := h d (by simp)
    obtain ⟨qs, a2, b2, c2, e2, g2, f2⟩ := reps (l := l) fun x hx => h x (by simp [hx])
    refine ⟨q :: qs, by rw [pds, a, a2], ?_, ?_, ?_, ?_, ?_⟩
    · rw [PyData.showableAll, b, b2]; rfl
    · rw [PyData.hasDictAll, c, c2]; rfl
    · rw [PyData.depthAll]; exact Nat.max_le.mpr ⟨e, e2⟩
    · rw [PyData.shownAll, List.length_cons, List.length_cons, g2]
    · intro y hy
      rw [PyData.shownAll] at hy
      rcases List.mem_cons.mp hy with rfl | hy
      · exact f
      · exact f2 y hy
theorem rep_lst {l : List Dat} {k n : Nat} (h : ∀ d ∈ l, Rep d k n) : Rep (.lst l) (k + 1) (l.length * (n + 2) + 3) := by
  obtain ⟨qs, a, b, c, e, g, f⟩ := reps h
  refine ⟨.list qs, by rw [pd, a]; rfl, by rw [PyData.showable, b], by rw [PyData.hasDict, c], by rw [PyData.depth]; omega, ?_⟩
  rw [PyData.shown_list, len_app, len_app, ← join_eq]
  have := join_len (a := (", " : PySem.Str)) f
  rw [g] at this
  show 1 + _ + 1 ≤ _
  have e2 : (", " : PySem.Str).length = 2 := rfl
  rw [e2] at this
  omega
theorem rep_tup {l : List Dat} {k n : Nat} (h : ∀ d ∈ l, Rep d k n) : Rep (.tup l) (k + 1) (l.length * (n + 2) + 3) := by
  obtain ⟨qs, a, b, c, e, g, f⟩ := reps h
  refine ⟨.tuple qs, by rw [pd, a]; rfl, by rw [PyData.showable, b], by rw [PyData.hasDict, c], by rw [PyData.depth]; omega, ?_⟩
  rw [PyData.shown_tuple, len_app, len_app, ← join_eq]
  have := join_len (a := (", " : PySem.Str)) f
  rw [g] at this
  have e2 : (", " : PySem.Str).length = 2 := rfl
  rw [e2] at this
  have e3 : (Str.ofString (if (qs.length == 1) = true then ",)" else ")")).length ≤ 2 := by split <;> decide
  show 1 + _ + _ ≤ _
  omega
theorem repr_of {d : Dat} {k n : Nat} (h : Rep d k n) (hk : k ≤ 60) (hn : n ≤ sizeLine) : ∃ s, reprV d = some s := by
  obtain ⟨q, a, b, c, e, f⟩ := h
  refine ⟨q.shown, ?_⟩
  unfold reprV
  rw [a]
  dsimp only
  rw [if_pos (by rw [b, c, decide_eq_true (Nat.le_trans e hk), decide_eq_true (Nat.le_trans f hn)]; rfl)]
theorem x_repr {T : Tab} {C : Calls} {m : Frm} {Q : Except Exn RV → Frm → Prop} {rs : List RV} {d : Dat} {s : PySem.Str} (e : reprV d = some s) (h : Q (.ok (.dat (.str s))) m) : wM (bltM T C .repr rs [d]) m Q := by
  have e2 : bltM T C .repr rs [d] = lft (some (.dat (.str s))) := by
    have : bltM T C .repr rs [d] = lft (bltV .repr [d]) := rfl
    rw [this]
    show lft ((reprV d).map fun s => RV.dat (.str s)) = _
    rw [e]
    rfl
  rw [e2]
  exact wM_some.mpr h
theorem low_join {a : PySem.Str} {ys : List PySem.Str} (ha : Low a) (h : ∀ y ∈ ys, Low y) : Low (Txt.join a ys) := by
  intro c hc
  rw [join_eq, tl_join] at hc
  rcases mem_joinL hc with h1 | ⟨z, hz, h1⟩
  · exact ha c h1
  · obtain ⟨y, hy, rfl⟩ := List.mem_map.mp hz
    exact h y hy c h1
theorem low_app {a b : PySem.Str} (ha : Low a) (hb : Low b) : Low (a ++ b) := by
  intro c hc
  rw [tl_append, List.mem_append] at hc
  exact hc.elim (ha c) (hb c)
theorem low_sp : Low (" " : PySem.Str) := by unfold Low; decide +kernel
theorem low_words {ns ss : List PySem.Str} {r : Rw} (hn : ∀ s ∈ ns, NameOk s) (hs : ∀ s ∈ ss, NameOk s) (h : RwOk ns ss r) : ∀ y ∈ r.words, Low y := by
  intro y hy
  have hd : ∀ y ∈ deedW r.sale, Low y := fun y hy => low_al (deedW_nosp hn hs ⟨h.sale⟩ y hy)
  unfold Rw.words at hy
  split at hy
  · exact hd y hy
  · rename_i p b q e
    obtain ⟨hp, hq⟩ := h.cond p b q e
    rcases List.mem_append.mp hy with hy | hy
    · simp only [List.mem_cons, List.not_mem_nil, or_false] at hy
      rcases hy with rfl | rfl | rfl | rfl
      · unfold Low; decide +kernel
      · exact low_al (pt_al hn hp)
      · cases b <;> (unfold Low; decide +kernel)
      · exact low_app (low_al (pt_al hn hq)) (by unfold Low; decide +kernel)
    · exact hd y hy
theorem low_row {p : Pl} (hp : PlOk p) {r : Rw} (hr : r ∈ p.rs) : Low r.txt := by
  rw [row_join]
  exact low_join low_sp (low_words hp.nok (fun s hs => hp.nok s (List.mem_append_left _ hs)) (hp.rok r hr))
theorem low_lnt {p : Pl} (hp : PlOk p) {l : Ln} (hl : l ∈ p.ls) : Low l.txt := low_join low_sp fun y hy => low_al (lines_words hp.nok hp.lok l hl y hy)
theorem low_lnn {p : Pl} (hp : PlOk p) {l : Ln} (hl : l ∈ p.ls) : Low l.nm := low_al (name_al (hp.nok l.nm (List.mem_append_right _ (List.mem_map_of_mem hl))))
theorem low_pl {p : Pl} (hp : PlOk p) : Low p.txt := by
  refine low_join (by unfold Low; decide +kernel) fun y hy => ?_
  rcases List.mem_append.mp hy with h | h
  · rcases List.mem_cons.mp h with rfl | h
    · refine low_join low_sp fun y hy => ?_
      rcases List.mem_cons.mp hy with rfl | hy
      · unfold Low; decide +kernel
      · exact low_al (name_al (hp.nok y (List.mem_append_left _ hy)))
    · obtain ⟨l, hl, rfl⟩ := List.mem_map.mp h
      exact low_app (low_app (low_lnn hp hl) (by unfold Low; decide +kernel)) (low_lnt hp hl)
  · obtain ⟨r, hr, rfl⟩ := List.mem_map.mp h
    exact low_row hp hr
theorem rep_three {p : Pl} (hp : PlOk p) : ∃ s, reprV (.lst [p.s, p.l, p.r]) = some s := by
  have hfit := hp.fit
  have h1 : Rep p.s 3 20000 := rep_mono (rep_tup (k := 0) (n := 82) (fun d hd => by
    obtain ⟨s, hs, rfl⟩ := List.mem_map.mp hd
    exact rep_str (low_al (name_al (hp.nok s (List.mem_append_left _ hs)))) (hfit.sf s hs))) (by decide) (by rw [List.length_map]; have := hp.s2; omega)
  have h2 : Rep p.l 3 20000 := rep_mono (rep_tup (k := 1) (n := 2251) (fun d hd => by
    obtain ⟨l, hl, rfl⟩ := List.mem_map.mp hd
    refine rep_mono (rep_tup (k := 0) (n := 1122) fun d hd => ?_) (Nat.le_refl _) (by show 2 * (1122 + 2) + 3 ≤ _; omega)
    simp only [List.mem_cons, List.not_mem_nil, or_false] at hd
    rcases hd with rfl | rfl
    · exact rep_mono (rep_str (low_lnn hp hl) (hfit.lf l hl).nm) (Nat.le_refl _) (by decide)
    · exact rep_mono (rep_str (low_lnt hp hl) (ln_len (hfit.lf l hl))) (Nat.le_refl _) (by decide))) (by decide) (by rw [List.length_map]; have := hp.l2; omega)
  have h3 : Rep p.r 3 40000 := rep_mono (rep_tup (k := 0) (n := 5002) (fun d hd => by
    obtain ⟨r, hr, rfl⟩ := List.mem_map.mp hd
    exact rep_str (low_row hp hr) (rw_len (hfit.rf r hr)))) (by decide) (by rw [List.length_map]; have := hp.r2; omega)
  refine repr_of (rep_lst (k := 3) (n := 40000) fun d hd => ?_) (by decide) (by show 3 * (40000 + 2) + 3 ≤ _; unfold sizeLine; omega)
  simp only [List.mem_cons, List.not_mem_nil, or_false] at hd
  rcases hd with rfl | rfl | rfl
  · exact rep_mono h1 (Nat.le_refl _) (by decide)
  · exact rep_mono h2 (Nat.le_refl _) (by decide)
  · exact h3
theorem rep_two {p : Pl} (hp : PlOk p) : ∃ s, reprV (.lst [.int (p.rs.length : Nat), .str p.txt]) = some s := by
  refine repr_of (rep_lst (k := 0) (n := 80002) fun d hd => ?_) (by decide) (by show 2 * (80002 + 2) + 3 ≤ _; unfold sizeLine; omega)
  simp only [List.mem_cons, List.not_mem_nil, or_false] at hd
  rcases hd with rfl | rfl
  · exact rep_mono (rep_int (by have := hp.r2; omega)) (Nat.le_refl _) (by decide)
  · exact rep_str (low_pl hp) (pl_len hp.fit)
theorem rep_one {p : Pl} (hp : PlOk p) {l : Ln} (hl : l ∈ p.ls) : ∃ s, reprV (.str l.txt) = some s := repr_of (rep_str (low_lnt hp hl) (ln_len (hp.fit.lf l hl))) (by decide) (by unfold sizeLine; omega)
end SB.P
set_option maxHeartbeats 0
namespace SB.P
open PySem L2 TL
local macro_rules
  | `(tactic| ac_rfl) => `(tactic| first
    | (with_reducible first
      | refine x_ok ?_
      | refine x_out ?_
      | refine x_true ?_
      | refine x_false ?_
      | refine x_nottrue ?_
      | refine x_notfalse ?_
      | refine x_var ?_
      | refine x_varO ?_
      | refine x_cst ?_
      | refine x_asBl ?_
      | refine wM_evs_nil.mpr ?_
      | refine wM_evs_cons.mpr ?_
      | refine x_look_pdat ?_
      | refine x_look_pown ?_
      | refine x_look_pbor ?_
      | refine x_look_borD ?_
      | refine x_look_dat ?_
      | refine x_look_own ?_
      | refine x_look_bor ?_
      | refine x_frz_pdat ?_
      | refine x_frz_pown ?_
      | refine x_frz_pbor ?_
      | refine x_frz_pborD ?_
      | refine x_frz_dat ?_
      | refine x_frz_bor ?_
      | refine x_frz_borD ?_
      | refine x_frzs_nil ?_
      | refine x_frzs_cons ?_
      | refine x_looks_nil ?_
      | refine x_looks_cons ?_
      | refine wM_bin.mpr ?_
      | refine wM_una.mpr ?_
      | refine wM_cmp.mpr ?_
      | refine wM_chn.mpr ?_
      | refine wM_and.mpr ?_
      | refine wM_or.mpr ?_
      | refine wM_not.mpr ?_
      | refine wM_ife.mpr ?_
      | refine wM_tup.mpr ?_
      | refine wM_lst.mpr ?_
      | refine wM_dic0.mpr ?_
      | refine wM_idx.mpr ?_
      | refine wM_sli.mpr ?_
      | refine wM_partM_nil.mpr ?_
      | refine wM_part_cst.mpr ?_
      | refine wM_part_bin.mpr ?_
      | refine wM_part_var.mpr ?_
      | refine wM_part_una.mpr ?_
      | refine wM_att.mpr ?_
      | refine wM_cal.mpr ?_
      | refine wM_calm.mpr ?_
      | refine wM_mak.mpr ?_
      | refine wM_makv.mpr ?_
      | refine wM_blt.mpr ?_
      | refine wM_isi.mpr ?_
      | refine wM_met.mpr ?_
      | refine wM_kmak.mpr ?_
      | refine wM_kcal.mpr ?_
      | refine wM_omet.mpr ?_
      | refine wM_cmet.mpr ?_
      | refine wM_evs_star.mpr ?_
      | refine x_callMo ?_
      | refine x_app ?_
      | refine x_pop ?_
      | refine x_pop2 ?_
      | refine wM_fmt.mpr ?_
      | refine wM_jst.mpr ?_
      | refine x_ret ?_
      | refine x_some ?_
      | refine wS_seq.mpr ?_
      | refine wS_nil.mpr ?_
      | refine wS_asg.mpr ?_
      | refine wS_par.mpr ?_
      | refine wS_exp.mpr ?_
      | refine wS_ret.mpr ?_
      | refine wS_ife.mpr ?_
      | refine wS_retn.mpr ?_
      | refine wS_pas.mpr ?_
      | refine wS_tryq.mpr ?_
      | refine x_bind_nam ?_
      | refine x_bind_tup ?_
      | refine x_bind_cons ?_
      | refine x_bind_nil ?_
      | refine wS_loop.mpr ?_
      | refine wS_hdr.mpr ?_
      | refine wS_hand_dat.mpr ?_
      | refine wS_hand_own.mpr ?_
      | refine x_hand_bor ?_
      | refine x_hand_borD ?_
      | refine seqQ_nxt.mpr ?_
      | refine seqQ_ret.mpr ?_
      | refine turnQ_nxt.mpr ?_
      | refine turnQ_ret.mpr ?_
      | refine endQ_ret.mpr ?_
      | refine endQ_nxt.mpr ?_
      | refine fstQ_true.mpr ?_
      | refine fstQ_false.mpr ?_
      | refine notExc_nxt.mpr ?_
      | refine notExc_ret.mpr ?_
      | refine wM_asg_nam.mpr ?_
      | refine wM_asg_tup.mpr ?_
      | refine wM_asgs_nil.mpr ?_
      | refine wM_asgs_cons.mpr ?_
      | refine wM_asg_sub.mpr ?_
      | refine x_asg_sub ?_
      | refine wM_asg_att.mpr ?_
      | refine x_sub0 ?_
      | refine x_sub1 ?_
      | refine x_sub2 ?_
      | refine x_set_dat ?_
      | refine x_set_own ?_
      | refine x_set_bor ?_
      | refine wM_hold_dat.mpr ?_
      | refine wM_hold_own.mpr ?_
      | refine wM_hold_bor.mpr ?_
      | refine wM_it_pl.mpr ?_
      | refine wM_it_en.mpr ?_
      | refine wM_it_zi.mpr ?_
      | refine wM_it_r1.mpr ?_
      | refine wM_it_r2.mpr ?_
      | refine putQ_dat.mpr ?_
      | refine putQ_own.mpr ?_
      | refine cndQ_bl.mpr ?_
      | refine x_map cmp_eq_int ?_
      | refine x_map cmp_ne_int ?_
      | refine x_map cmp_eq_str ?_
      | refine x_map cmp_ne_str ?_
      | refine x_map cmp_in_strs ?_
      | refine x_map cmp_in_strsT ?_
      | refine x_map cmp_ni_strs ?_
      | refine x_map cmp_ni_strsT ?_
      | refine x_lft (bin_mod (by first | decide | assumption | omega)) ?_
      | refine x_lft (bin_fdiv (by first | decide | assumption | omega) (by first | decide | assumption | omega)) ?_
      | refine x_lft (bin_mul_l (by decide)) ?_
      | refine x_lft (bin_mul_r (by decide)) ?_
      | refine x_pos (by decide) ?_
      | refine x_neg (by decide) ?_
      | refine x_npos (by decide) ?_
      | refine x_nneg (by decide) ?_
      | refine x_part ?_
      | refine x_star_lst ?_
      | refine x_star_tup ?_
      | refine x_en_lst ?_
      | refine x_en_tup ?_
      | refine x_zi_lst ?_
      | refine x_zi_tup ?_
      | refine x_r1 (by omega) (by omega) ?_
      | refine x_r2 (by omega) (by omega) (by omega) (by omega) ?_
      | refine x_size (by decide) ?_
      | refine x_ifp (by decide) ?_
      | refine x_ifn (by decide) ?_)
    | ((with_reducible apply x_map); exact rfl)
    | ((with_reducible apply x_lft); exact rfl)
    | ((with_reducible apply x_idx_lst); exact rfl)
    | ((with_reducible apply x_idx_tup); exact rfl)
    | ((with_reducible apply x_blt); exact rfl)
    | ((with_reducible apply x_tupQ); exact rfl)
    | ((with_reducible apply x_size); exact Nat.le_of_ble_eq_true rfl))
def SpIsRight (C : Calls) (cT cR c i : Nat) : Prop := ∀ p, PlOk p → C i [.dat (p.obj cT cR c), .dat p.dat] = some (.ok (.dat (.bl true)), none)
def SpRight (C : Calls) (i : Nat) : Prop := ∀ x, Src x → ∃ x', C i [.own x] = some (.ok (.dat (.bl true)), some x')
section
variable {T : Tab} {fuel n i : Nat} {nn : Bool} {kws : List (Nat × List PySem.Str × List Nat)} {cT cR c gI gS gL gR gGet gLen gBool gStr : Nat}
theorem isRight_ok {iT iW : Nat} (hc : RuleC T c gI gS gL gR gGet gLen gBool gStr) (hT : SpTriple (callN T fuel n) iT) (hW : SpWhole (callN T fuel n) iW)
    (gs : SpGetr (callN T fuel n) cT cR c gS Pl.s) (gl : SpGetr (callN T fuel n) cT cR c gL Pl.l) (gr : SpGetr (callN T fuel n) cT cR c gR Pl.r) (gn : SpGetr (callN T fuel n) cT cR c gLen fun p => .int (p.rs.length : Nat)) (gb : SpGetr (callN T fuel n) cT cR c gBool fun _ => .bl true)
    (gi : SpItem (callN T fuel n) cT cR c gGet) (gt : ∀ p, PlOk p → (callN T fuel n) gStr [.dat (p.obj cT cR c)] = some (.ok (.dat (.str p.txt)), none)) (hf : T.fns[i]? = some ⟨2, 7, false, nn, b_l_is_right iW iT, kws⟩) : SpIsRight (callN T fuel (n + 1)) cT cR c i := by
  intro p hp
  have hfit := hp.fit
  obtain ⟨cd, q1, q2, q3, q4, q5, q6, q7, q8, q9⟩ := hc.cls
  obtain ⟨s1, hs1⟩ := rep_three hp
  obtain ⟨s2, hs2⟩ := rep_two hp
  have key : wC (callN T fuel (n + 1)) i [.dat (p.obj cT cR c), .dat p.dat] fun q mo => q = .ok (.dat (.bl true)) ∧ mo = none := by
    refine wC_of (m0 := [some (.dat (p.obj cT cR c)), some (.dat p.dat), none, none, none, none, none]) hf rfl (by decide) rfl ?_
    unfold b_l_is_right
    repeat ac_rfl
    refine x_cal (hT p hfit) ?_
    repeat ac_rfl
    refine x_prp q1 q2 (by rw [q4]; rfl) (by rw [q5]; rfl) (gs p) ?_
    repeat ac_rfl
    refine x_prp q1 q2 (by rw [q4]; rfl) (by rw [q5]; rfl) (gl p) ?_
    repeat ac_rfl
    refine x_prp q1 q2 (by rw [q4]; rfl) (by rw [q5]; rfl) (gr p) ?_
    repeat ac_rfl
    refine x_repr hs1 ?_
    repeat ac_rfl
    refine x_repr hs1 ?_
    repeat ac_rfl
    refine x_npos rfl ?_
    repeat ac_rfl
    refine x_bltLen q1 q2 q7 (by have := hp.r2; omega) (gn p) ?_
    repeat ac_rfl
    refine x_bltStr q1 q2 q9 (gt p hp) ?_
    repeat ac_rfl
    refine x_repr hs2 ?_
    repeat ac_rfl
    unfold Pl.r
    repeat ac_rfl
    refine x_cal (hW p hfit) ?_
    repeat ac_rfl
    rw [List.length_map]
    refine x_repr hs2 ?_
    repeat ac_rfl
    refine x_npos rfl ?_
    repeat ac_rfl
    refine forA lnPair (fun r m => (∀ l ∈ r, l ∈ p.ls) ∧ ∃ y z, m = [some (.dat (p.obj cT cR c)), some (.dat p.dat), some (.dat p.s), some (.dat p.l), some (.dat (.tup (p.rs.map fun r => .str r.txt))), y, z]) ?_ ?_ _ _ ⟨fun l h => h, _, _, rfl⟩
    · rintro l r m ⟨hm, y, z, rfl⟩
      have hl := hm l (by simp)
      obtain ⟨s3, hs3⟩ := rep_one hp hl
      unfold lnPair
      repeat ac_rfl
      refine x_item q1 q2 q6 (gi p hp l hl) ?_
      repeat ac_rfl
      refine x_repr hs3 ?_
      repeat ac_rfl
      refine x_repr hs3 ?_
      repeat ac_rfl
      refine x_npos rfl ?_
      repeat ac_rfl
      exact ⟨fun k hk => hm k (by simp [hk]), _, _, rfl⟩
    · rintro m ⟨hm, y, z, rfl⟩
      repeat ac_rfl
      refine x_bltBool q1 q2 q8 (gb p) ?_
      repeat ac_rfl
      exact ⟨rfl, rfl⟩
  obtain ⟨r, mo, e, rfl, rfl⟩ := of_wC key
  exact e
theorem right_ok {it iP iTr iW iRd iR : Nat} (hc : RuleC T c gI gS gL gR gGet gLen gBool gStr) (hT : SpTake (callN T fuel n) it) (hP : SpPlan (callN T fuel n) iP) (hTr : SpTriple (callN T fuel n) iTr) (hW : SpWhole (callN T fuel n) iW) (hI : SpInit (callN T fuel n) cT cR c gI) (hRd : SpRead (callN T fuel n) cT cR c iRd) (hR : SpIsRight (callN T fuel n) cT cR c iR)
    (k1 : ∀ a b d : Dat, kwC T c 0 ["rows", "seats", "lines"] [1, 2, 0] [a, b, d] = some [b, d, a]) (k2 : ∀ a : Dat, kwD T iRd 1 0 ["text"] [0] [a] = some [a])
    (hf : T.fns[i]? = some ⟨1, 8, true, nn, b_l_right iR iRd c iW iTr iP it, kws⟩) : SpRight (callN T fuel (n + 1)) i := by
  intro x hx
  obtain ⟨cd, q1, q2, q3, q4, q5, q6, q7, q8, q9⟩ := hc.cls
  have key : wC (callN T fuel (n + 1)) i [.own x] fun q mo => ∃ x', q = .ok (.dat (.bl true)) ∧ mo = some x' := by
    refine wC_of (m0 := [some (.own x), none, none, none, none, none, none, none]) hf rfl (by decide) rfl ?_
    unfold b_l_right
    repeat ac_rfl
    obtain ⟨v1, x1, a0, a1, hx1, e1⟩ := hT x 4 hx (by decide) (by decide)
    refine x_call0 e1 ?_
    repeat ac_rfl
    obtain ⟨v2, x2, b0, b1, hx2, e2⟩ := hT x1 9 hx1 (by decide) (by decide)
    refine x_call0 e2 ?_
    repeat ac_rfl
    obtain ⟨v3, x3, c0, c1, hx3, e3⟩ := hT x2 6 hx2 (by decide) (by decide)
    refine x_call0 e3 ?_
    repeat ac_rfl
    obtain ⟨p, x4, hx4, hp, e4⟩ := hP x3 (1 + v1).toNat v2.toNat (1 + v3).toNat hx3 (by omega) (by omega) (by omega) (by omega) (by omega)
    have hfit := hp.fit
    rw [show (((1 + v1).toNat : Nat) : Int) = 1 + v1 by omega, show ((v2.toNat : Nat) : Int) = v2 by omega, show (((1 + v3).toNat : Nat) : Int) = 1 + v3 by omega] at e4
    refine x_call0 e4 ?_
    repeat ac_rfl
    refine x_cal (hTr p hfit) ?_
    repeat ac_rfl
    refine x_cal (hW p hfit) ?_
    repeat ac_rfl
    refine x_make q1 q2 q3 (hI p hp) ?_
    repeat ac_rfl
    rw [List.nil_append]
    repeat ac_rfl
    refine x_lft (k1 _ _ _) ?_
    repeat ac_rfl
    refine x_make q1 q2 q3 (hI p hp) ?_
    repeat ac_rfl
    rw [List.append_nil]
    repeat ac_rfl
    refine x_cal (hRd p hp) ?_
    repeat ac_rfl
    rw [List.nil_append]
    repeat ac_rfl
    refine x_lft (k2 _) ?_
    repeat ac_rfl
    refine x_cal (hRd p hp) ?_
    repeat ac_rfl
    refine wS_forL (fun ds m => (∀ d ∈ ds, d = p.obj cT cR c) ∧ ∃ y, m = [some (.own x4), some (.dat p.dat), some (.dat p.s), some (.dat p.l), some (.dat p.r), some (.dat (.str p.txt)), some (.dat (.lst ([p.obj cT cR c, p.obj cT cR c] ++ [p.obj cT cR c, p.obj cT cR c]))), y]) ?_ ?_ _ _ ⟨by intro d hd; simp only [List.mem_append, List.mem_cons, List.not_mem_nil, or_false] at hd; rcases hd with (rfl | rfl) | (rfl | rfl) <;> rfl, _, rfl⟩
    · rintro d r m ⟨hm, y, rfl⟩
      have : d = p.obj cT cR c := hm d (by simp)
      subst this
      repeat ac_rfl
      refine x_cal (hR p hp) ?_
      repeat ac_rfl
      exact ⟨fun d hd => hm d (by simp [hd]), _, rfl⟩
    · rintro m ⟨hm, y, rfl⟩
      repeat ac_rfl
      refine x_cal (hR p hp) ?_
      repeat ac_rfl
      exact ⟨_, rfl, rfl⟩
  obtain ⟨r, mo, e, x', rfl, rfl⟩ := of_wC key
  exact ⟨x', e⟩
theorem law_ok {iR iS : Nat} (hR : SpRight (callN T fuel n) iR) (hS : SpSource (callN T fuel n) iS) (hf : T.fns[i]? = some ⟨1, 2, false, nn, b_law iR iS, kws⟩) : ∀ ns : List Int, (callN T fuel (n + 1)) i [.dat (.lst (ns.map .int))] = some (.ok (.dat (.bl true)), none) := by
  intro ns
  have key : wC (callN T fuel (n + 1)) i [.dat (.lst (ns.map .int))] fun q mo => q = .ok (.dat (.bl true)) ∧ mo = none := by
    refine wC_of (m0 := [some (.dat (.lst (ns.map .int))), none]) hf rfl (by decide) rfl ?_
    unfold b_law
    repeat ac_rfl
    rw [show ∀ z : Int, rngV 0 z.toNat = _ from fun z => rngV_eq z.toNat 0]
    refine forA _ (fun r m => (∀ k ∈ r, k < 1000) ∧ ∃ y, m = [some (.dat (.lst (ns.map .int))), y]) ?_ ?_ _ _ ⟨?_, _, rfl⟩
    · rintro k r m ⟨hm, y, rfl⟩
      have hk := hm k (by simp)
      repeat ac_rfl
      obtain ⟨x, hx, ex⟩ := hS ns k (by omega) (by omega)
      refine x_cal ex ?_
      repeat ac_rfl
      obtain ⟨x', ex'⟩ := hR x hx
      refine x_cal ex' ?_
      repeat ac_rfl
      exact ⟨fun j hj => hm j (by simp [hj]), _, rfl⟩
    · rintro m ⟨hm, y, rfl⟩
      repeat ac_rfl
      exact ⟨rfl, rfl⟩
    · intro k hk
      rw [List.mem_range'_1] at hk
      have h2 := hk.2
      clear hk
      split at h2
      · split at h2 <;> omega
      · omega
  obtain ⟨r, mo, e, rfl, rfl⟩ := of_wC key
  exact e
end
end SB.P
set_option maxRecDepth 100000
set_option maxHeartbeats 0
namespace SB.P
open PySem PySem.Spec PyProof.Rows L2
theorem dp0 (d : DefI) (h : defs[0]? = some d) : DefP d (L0.fd d) := by
  obtain rfl : _ = d := Option.some.inj h
  refine ⟨⟨rfl, rfl, rfl, by decide +kernel, rfl, by decide +kernel, by decide +kernel⟩, fun _ _ _ _ _ _ us hl => ?_, (fun h => (nomatch h)), ?_⟩
  · match us, hl with
    | [_], _ => rfl
  · intro n ks ix hm
    cases hm
theorem dp1 (d : DefI) (h : defs[1]? = some d) : DefP d (L0.fd d) := by
  obtain rfl : _ = d := Option.some.inj h
  refine ⟨⟨rfl, rfl, rfl, by decide +kernel, rfl, by decide +kernel, by decide +kernel⟩, fun _ _ _ _ _ _ us hl => ?_, (fun h => (nomatch h)), ?_⟩
  · match us, hl with
    | [_], _ => rfl
  · intro n ks ix hm
    cases hm
theorem dp2 (d : DefI) (h : defs[2]? = some d) : DefP d (L0.fd d) := by
  obtain rfl : _ = d := Option.some.inj h
  refine ⟨⟨rfl, rfl, rfl, by decide +kernel, rfl, by decide +kernel, by decide +kernel⟩, fun _ _ _ _ _ _ us hl => ?_, (fun h => (nomatch h)), ?_⟩
  · match us, hl with
    | [_], _ => rfl
  · intro n ks ix hm
    cases hm
theorem dp3 (d : DefI) (h : defs[3]? = some d) : DefP d (L0.fd d) := by
  obtain rfl : _ = d := Option.some.inj h
  refine ⟨⟨rfl, rfl, rfl, by decide +kernel, rfl, by decide +kernel, by decide +kernel⟩, fun _ _ _ _ _ _ us hl => ?_, (fun _ => ⟨by decide +kernel, by decide⟩), ?_⟩
  · match us, hl with
    | [_, _, _], _ => rfl
  · intro n ks ix hm
    cases hm
theorem dp4 (d : DefI) (h : defs[4]? = some d) : DefP d (L0.fd d) := by
  obtain rfl : _ = d := Option.some.inj h
  refine ⟨⟨rfl, rfl, rfl, by decide +kernel, rfl, by decide +kernel, by decide +kernel⟩, fun _ _ _ _ _ _ us hl => ?_, (fun _ => ⟨by decide +kernel, by decide⟩), ?_⟩
  · match us, hl with
    | [_, _, _, _], _ => rfl
  · intro n ks ix hm
    cases hm
theorem dp5 (d : DefI) (h : defs[5]? = some d) : DefP d (L0.fd d) := by
  obtain rfl : _ = d := Option.some.inj h
  refine ⟨⟨rfl, rfl, rfl, by decide +kernel, rfl, by decide +kernel, by decide +kernel⟩, fun _ _ _ _ _ _ us hl => ?_, (fun h => (nomatch h)), ?_⟩
  · match us, hl with
    | [_, _], _ => rfl
  · intro n ks ix hm
    cases hm
theorem dp6 (d : DefI) (h : defs[6]? = some d) : DefP d (L0.fd d) := by
  obtain rfl : _ = d := Option.some.inj h
  refine ⟨⟨rfl, rfl, rfl, by decide +kernel, rfl, by decide +kernel, by decide +kernel⟩, fun _ _ _ _ _ _ us hl => ?_, (fun h => (nomatch h)), ?_⟩
  · match us, hl with
    | [_, _], _ => rfl
  · intro n ks ix hm
    cases hm
theorem dp7 (d : DefI) (h : defs[7]? = some d) : DefP d (L0.fd d) := by
  obtain rfl : _ = d := Option.some.inj h
  refine ⟨⟨rfl, rfl, rfl, by decide +kernel, rfl, by decide +kernel, by decide +kernel⟩, fun _ _ _ _ _ _ us hl => ?_, (fun h => (nomatch h)), ?_⟩
  · match us, hl with
    | [_, _], _ => rfl
  · intro n ks ix hm
    cases hm
theorem dp8 (d : DefI) (h : defs[8]? = some d) : DefP d (L0.fd d) := by
  obtain rfl : _ = d := Option.some.inj h
  refine ⟨⟨rfl, rfl, rfl, by decide +kernel, rfl, by decide +kernel, by decide +kernel⟩, fun _ _ _ _ _ _ us hl => ?_, (fun h => (nomatch h)), ?_⟩
  · match us, hl with
    | [_, _, _, _], _ => rfl
  · intro n ks ix hm
    cases hm
theorem dp9 (d : DefI) (h : defs[9]? = some d) : DefP d (L0.fd d) := by
  obtain rfl : _ = d := Option.some.inj h
  refine ⟨⟨rfl, rfl, rfl, by decide +kernel, rfl, by decide +kernel, by decide +kernel⟩, fun _ _ _ _ _ _ us hl => ?_, (fun h => (nomatch h)), ?_⟩
  · match us, hl with
    | [_, _, _, _], _ => rfl
  · intro n ks ix hm
    cases hm
theorem dp10 (d : DefI) (h : defs[10]? = some d) : DefP d (L0.fd d) := by
  obtain rfl : _ = d := Option.some.inj h
  refine ⟨⟨rfl, rfl, rfl, by decide +kernel, rfl, by decide +kernel, by decide +kernel⟩, fun _ _ _ _ _ _ us hl => ?_, (fun h => (nomatch h)), ?_⟩
  · match us, hl with
    | [_], _ => rfl
  · intro n ks ix hm
    cases hm
theorem dp11 (d : DefI) (h : defs[11]? = some d) : DefP d (L0.fd d) := by
  obtain rfl : _ = d := Option.some.inj h
  refine ⟨⟨rfl, rfl, rfl, by decide +kernel, rfl, by decide +kernel, by decide +kernel⟩, fun _ _ _ _ _ _ us hl => ?_, (fun h => (nomatch h)), ?_⟩
  · match us, hl with
    | [_, _], _ => rfl
  · intro n ks ix hm
    cases hm
theorem dp12 (d : DefI) (h : defs[12]? = some d) : DefP d (L0.fd d) := by
  obtain rfl : _ = d := Option.some.inj h
  refine ⟨⟨rfl, rfl, rfl, by decide +kernel, rfl, by decide +kernel, by decide +kernel⟩, fun _ _ _ _ _ _ us hl => ?_, (fun h => (nomatch h)), ?_⟩
  · match us, hl with
    | [_], _ => rfl
  · intro n ks ix hm
    cases hm
theorem dp13 (d : DefI) (h : defs[13]? = some d) : DefP d (L0.fd d) := by
  obtain rfl : _ = d := Option.some.inj h
  refine ⟨⟨rfl, rfl, rfl, by decide +kernel, rfl, by decide +kernel, by decide +kernel⟩, fun _ _ _ _ _ _ us hl => ?_, (fun h => (nomatch h)), ?_⟩
  · match us, hl with
    | [_, _, _], _ => rfl
  · intro n ks ix hm
    cases hm
theorem dp14 (d : DefI) (h : defs[14]? = some d) : DefP d (L0.fd d) := by
  obtain rfl : _ = d := Option.some.inj h
  refine ⟨⟨rfl, rfl, rfl, by decide +kernel, rfl, by decide +kernel, by decide +kernel⟩, fun _ _ _ _ _ _ us hl => ?_, (fun h => (nomatch h)), ?_⟩
  · match us, hl with
    | [_, _], _ => rfl
  · intro n ks ix hm
    cases hm
theorem dp15 (d : DefI) (h : defs[15]? = some d) : DefP d (L0.fd d) := by
  obtain rfl : _ = d := Option.some.inj h
  refine ⟨⟨rfl, rfl, rfl, by decide +kernel, rfl, by decide +kernel, by decide +kernel⟩, fun _ _ _ _ _ _ us hl => ?_, (fun _ => ⟨by decide +kernel, by decide⟩), ?_⟩
  · match us, hl with
    | [_, _, _, _], _ => rfl
  · intro n ks ix hm kV doc pm an cdv ct u1 ws us h1 h2 h3 h4
    obtain ⟨rfl, rfl, rfl⟩ : n = 1 ∧ ks = [("rows" : PySem.Str), ("seats" : PySem.Str), ("lines" : PySem.Str)] ∧ ix = [0, 2, 3, 1] := by
      have h := List.mem_singleton.mp hm
      cases h
      exact ⟨rfl, rfl, rfl⟩
    match u1, h1, ws, h2 with
    | [_], _, [_, _, _], _ =>
      cases h3
      rfl
theorem dp16 (d : DefI) (h : defs[16]? = some d) : DefP d (L0.fd d) := by
  obtain rfl : _ = d := Option.some.inj h
  refine ⟨⟨rfl, rfl, rfl, by decide +kernel, rfl, by decide +kernel, by decide +kernel⟩, fun _ _ _ _ _ _ us hl => ?_, (fun h => (nomatch h)), ?_⟩
  · match us, hl with
    | [_, _], _ => rfl
  · intro n ks ix hm kV doc pm an cdv ct u1 ws us h1 h2 h3 h4
    obtain ⟨rfl, rfl, rfl⟩ : n = 1 ∧ ks = [("text" : PySem.Str)] ∧ ix = [0, 1] := by
      have h := List.mem_singleton.mp hm
      cases h
      exact ⟨rfl, rfl, rfl⟩
    match u1, h1, ws, h2 with
    | [_], _, [_], _ =>
      cases h3
      rfl
theorem dp17 (d : DefI) (h : defs[17]? = some d) : DefP d (L0.fd d) := by
  obtain rfl : _ = d := Option.some.inj h
  refine ⟨⟨rfl, rfl, rfl, by decide +kernel, rfl, by decide +kernel, by decide +kernel⟩, fun _ _ _ _ _ _ us hl => ?_, (fun h => (nomatch h)), ?_⟩
  · match us, hl with
    | [_], _ => rfl
  · intro n ks ix hm
    cases hm
theorem dp18 (d : DefI) (h : defs[18]? = some d) : DefP d (L0.fd d) := by
  obtain rfl : _ = d := Option.some.inj h
  refine ⟨⟨rfl, rfl, rfl, by decide +kernel, rfl, by decide +kernel, by decide +kernel⟩, fun _ _ _ _ _ _ us hl => ?_, (fun h => (nomatch h)), ?_⟩
  · match us, hl with
    | [_], _ => rfl
  · intro n ks ix hm
    cases hm
theorem dp19 (d : DefI) (h : defs[19]? = some d) : DefP d (L0.fd d) := by
  obtain rfl : _ = d := Option.some.inj h
  refine ⟨⟨rfl, rfl, rfl, by decide +kernel, rfl, by decide +kernel, by decide +kernel⟩, fun _ _ _ _ _ _ us hl => ?_, (fun h => (nomatch h)), ?_⟩
  · match us, hl with
    | [_], _ => rfl
  · intro n ks ix hm
    cases hm
theorem dp20 (d : DefI) (h : defs[20]? = some d) : DefP d (L0.fd d) := by
  obtain rfl : _ = d := Option.some.inj h
  refine ⟨⟨rfl, rfl, rfl, by decide +kernel, rfl, by decide +kernel, by decide +kernel⟩, fun _ _ _ _ _ _ us hl => ?_, (fun h => (nomatch h)), ?_⟩
  · match us, hl with
    | [_, _], _ => rfl
  · intro n ks ix hm
    cases hm
theorem dp21 (d : DefI) (h : defs[21]? = some d) : DefP d (L0.fd d) := by
  obtain rfl : _ = d := Option.some.inj h
  refine ⟨⟨rfl, rfl, rfl, by decide +kernel, rfl, by decide +kernel, by decide +kernel⟩, fun _ _ _ _ _ _ us hl => ?_, (fun h => (nomatch h)), ?_⟩
  · match us, hl with
    | [_], _ => rfl
  · intro n ks ix hm
    cases hm
theorem dp22 (d : DefI) (h : defs[22]? = some d) : DefP d (L0.fd d) := by
  obtain rfl : _ = d := Option.some.inj h
  refine ⟨⟨rfl, rfl, rfl, by decide +kernel, rfl, by decide +kernel, by decide +kernel⟩, fun _ _ _ _ _ _ us hl => ?_, (fun h => (nomatch h)), ?_⟩
  · match us, hl with
    | [_], _ => rfl
  · intro n ks ix hm
    cases hm
theorem dp23 (d : DefI) (h : defs[23]? = some d) : DefP d (L0.fd d) := by
  obtain rfl : _ = d := Option.some.inj h
  refine ⟨⟨rfl, rfl, rfl, by decide +kernel, rfl, by decide +kernel, by decide +kernel⟩, fun _ _ _ _ _ _ us hl => ?_, (fun h => (nomatch h)), ?_⟩
  · match us, hl with
    | [_], _ => rfl
  · intro n ks ix hm
    cases hm
theorem dp24 (d : DefI) (h : defs[24]? = some d) : DefP d (L0.fd d) := by
  obtain rfl : _ = d := Option.some.inj h
  refine ⟨⟨rfl, rfl, rfl, by decide +kernel, rfl, by decide +kernel, by decide +kernel⟩, fun _ _ _ _ _ _ us hl => ?_, (fun h => (nomatch h)), ?_⟩
  · match us, hl with
    | [_], _ => rfl
  · intro n ks ix hm
    cases hm
theorem dp25 (d : DefI) (h : defs[25]? = some d) : DefP d (L0.fd d) := by
  obtain rfl : _ = d := Option.some.inj h
  refine ⟨⟨rfl, rfl, rfl, by decide +kernel, rfl, by decide +kernel, by decide +kernel⟩, fun _ _ _ _ _ _ us hl => ?_, (fun h => (nomatch h)), ?_⟩
  · match us, hl with
    | [_, _], _ => rfl
  · intro n ks ix hm
    cases hm
theorem dp26 (d : DefI) (h : defs[26]? = some d) : DefP d (L0.fd d) := by
  obtain rfl : _ = d := Option.some.inj h
  refine ⟨⟨rfl, rfl, rfl, by decide +kernel, rfl, by decide +kernel, by decide +kernel⟩, fun _ _ _ _ _ _ us hl => ?_, (fun h => (nomatch h)), ?_⟩
  · match us, hl with
    | [_, _], _ => rfl
  · intro n ks ix hm
    cases hm
theorem dp27 (d : DefI) (h : defs[27]? = some d) : DefP d (L0.fd d) := by
  obtain rfl : _ = d := Option.some.inj h
  refine ⟨⟨rfl, rfl, rfl, by decide +kernel, rfl, by decide +kernel, by decide +kernel⟩, fun _ _ _ _ _ _ us hl => ?_, (fun h => (nomatch h)), ?_⟩
  · match us, hl with
    | [_, _, _], _ => rfl
  · intro n ks ix hm
    cases hm
theorem dp28 (d : DefI) (h : defs[28]? = some d) : DefP d (L0.fd d) := by
  obtain rfl : _ = d := Option.some.inj h
  refine ⟨⟨rfl, rfl, rfl, by decide +kernel, rfl, by decide +kernel, by decide +kernel⟩, fun _ _ _ _ _ _ us hl => ?_, (fun h => (nomatch h)), ?_⟩
  · match us, hl with
    | [_, _], _ => rfl
  · intro n ks ix hm
    cases hm
theorem dp29 (d : DefI) (h : defs[29]? = some d) : DefP d (L0.fd d) := by
  obtain rfl : _ = d := Option.some.inj h
  refine ⟨⟨rfl, rfl, rfl, by decide +kernel, rfl, by decide +kernel, by decide +kernel⟩, fun _ _ _ _ _ _ us hl => ?_, (fun h => (nomatch h)), ?_⟩
  · match us, hl with
    | [_, _], _ => rfl
  · intro n ks ix hm
    cases hm
theorem dp30 (d : DefI) (h : defs[30]? = some d) : DefP d (L0.fd d) := by
  obtain rfl : _ = d := Option.some.inj h
  refine ⟨⟨rfl, rfl, rfl, by decide +kernel, rfl, by decide +kernel, by decide +kernel⟩, fun _ _ _ _ _ _ us hl => ?_, (fun h => (nomatch h)), ?_⟩
  · match us, hl with
    | [_, _], _ => rfl
  · intro n ks ix hm
    cases hm
theorem dp31 (d : DefI) (h : defs[31]? = some d) : DefP d (L0.fd d) := by
  obtain rfl : _ = d := Option.some.inj h
  refine ⟨⟨rfl, rfl, rfl, by decide +kernel, rfl, by decide +kernel, by decide +kernel⟩, fun _ _ _ _ _ _ us hl => ?_, (fun h => (nomatch h)), ?_⟩
  · match us, hl with
    | [_, _], _ => rfl
  · intro n ks ix hm
    cases hm
theorem dp32 (d : DefI) (h : defs[32]? = some d) : DefP d (L0.fd d) := by
  obtain rfl : _ = d := Option.some.inj h
  refine ⟨⟨rfl, rfl, rfl, by decide +kernel, rfl, by decide +kernel, by decide +kernel⟩, fun _ _ _ _ _ _ us hl => ?_, (fun _ => ⟨by decide +kernel, by decide⟩), ?_⟩
  · match us, hl with
    | [_, _], _ => rfl
  · intro n ks ix hm
    cases hm
theorem dp33 (d : DefI) (h : defs[33]? = some d) : DefP d (L0.fd d) := by
  obtain rfl : _ = d := Option.some.inj h
  refine ⟨⟨rfl, rfl, rfl, by decide +kernel, rfl, by decide +kernel, by decide +kernel⟩, fun _ _ _ _ _ _ us hl => ?_, (fun _ => ⟨by decide +kernel, by decide⟩), ?_⟩
  · match us, hl with
    | [_, _], _ => rfl
  · intro n ks ix hm
    cases hm
theorem dp34 (d : DefI) (h : defs[34]? = some d) : DefP d (L0.fd d) := by
  obtain rfl : _ = d := Option.some.inj h
  refine ⟨⟨rfl, rfl, rfl, by decide +kernel, rfl, by decide +kernel, by decide +kernel⟩, fun _ _ _ _ _ _ us hl => ?_, (fun _ => ⟨by decide +kernel, by decide⟩), ?_⟩
  · match us, hl with
    | [_, _], _ => rfl
  · intro n ks ix hm
    cases hm
theorem dp35 (d : DefI) (h : defs[35]? = some d) : DefP d (L0.fd d) := by
  obtain rfl : _ = d := Option.some.inj h
  refine ⟨⟨rfl, rfl, rfl, by decide +kernel, rfl, by decide +kernel, by decide +kernel⟩, fun _ _ _ _ _ _ us hl => ?_, (fun _ => ⟨by decide +kernel, by decide⟩), ?_⟩
  · match us, hl with
    | [_, _, _, _], _ => rfl
  · intro n ks ix hm
    cases hm
theorem dp36 (d : DefI) (h : defs[36]? = some d) : DefP d (L0.fd d) := by
  obtain rfl : _ = d := Option.some.inj h
  refine ⟨⟨rfl, rfl, rfl, by decide +kernel, rfl, by decide +kernel, by decide +kernel⟩, fun _ _ _ _ _ _ us hl => ?_, (fun _ => ⟨by decide +kernel, by decide⟩), ?_⟩
  · match us, hl with
    | [_, _, _, _], _ => rfl
  · intro n ks ix hm
    cases hm
theorem dp37 (d : DefI) (h : defs[37]? = some d) : DefP d (L0.fd d) := by
  obtain rfl : _ = d := Option.some.inj h
  refine ⟨⟨rfl, rfl, rfl, by decide +kernel, rfl, by decide +kernel, by decide +kernel⟩, fun _ _ _ _ _ _ us hl => ?_, (fun _ => ⟨by decide +kernel, by decide⟩), ?_⟩
  · match us, hl with
    | [_, _, _, _], _ => rfl
  · intro n ks ix hm
    cases hm
theorem dp38 (d : DefI) (h : defs[38]? = some d) : DefP d (L0.fd d) := by
  obtain rfl : _ = d := Option.some.inj h
  refine ⟨⟨rfl, rfl, rfl, by decide +kernel, rfl, by decide +kernel, by decide +kernel⟩, fun _ _ _ _ _ _ us hl => ?_, (fun h => (nomatch h)), ?_⟩
  · match us, hl with
    | [_], _ => rfl
  · intro n ks ix hm
    cases hm
theorem dp39 (d : DefI) (h : defs[39]? = some d) : DefP d (L0.fd d) := by
  obtain rfl : _ = d := Option.some.inj h
  refine ⟨⟨rfl, rfl, rfl, by decide +kernel, rfl, by decide +kernel, by decide +kernel⟩, fun _ _ _ _ _ _ us hl => ?_, (fun h => (nomatch h)), ?_⟩
  · match us, hl with
    | [_], _ => rfl
  · intro n ks ix hm
    cases hm
theorem dp40 (d : DefI) (h : defs[40]? = some d) : DefP d (L0.fd d) := by
  obtain rfl : _ = d := Option.some.inj h
  refine ⟨⟨rfl, rfl, rfl, by decide +kernel, rfl, by decide +kernel, by decide +kernel⟩, fun _ _ _ _ _ _ us hl => ?_, (fun h => (nomatch h)), ?_⟩
  · match us, hl with
    | [_], _ => rfl
  · intro n ks ix hm
    cases hm
theorem dp41 (d : DefI) (h : defs[41]? = some d) : DefP d (L0.fd d) := by
  obtain rfl : _ = d := Option.some.inj h
  refine ⟨⟨rfl, rfl, rfl, by decide +kernel, rfl, by decide +kernel, by decide +kernel⟩, fun _ _ _ _ _ _ us hl => ?_, (fun h => (nomatch h)), ?_⟩
  · match us, hl with
    | [_], _ => rfl
  · intro n ks ix hm
    cases hm
theorem dp42 (d : DefI) (h : defs[42]? = some d) : DefP d (L0.fd d) := by
  obtain rfl : _ = d := Option.some.inj h
  refine ⟨⟨rfl, rfl, rfl, by decide +kernel, rfl, by decide +kernel, by decide +kernel⟩, fun _ _ _ _ _ _ us hl => ?_, (fun h => (nomatch h)), ?_⟩
  · match us, hl with
    | [_, _], _ => rfl
  · intro n ks ix hm
    cases hm
theorem dp43 (d : DefI) (h : defs[43]? = some d) : DefP d (L0.fd d) := by
  obtain rfl : _ = d := Option.some.inj h
  refine ⟨⟨rfl, rfl, rfl, by decide +kernel, rfl, by decide +kernel, by decide +kernel⟩, fun _ _ _ _ _ _ us hl => ?_, (fun _ => ⟨by decide +kernel, by decide⟩), ?_⟩
  · match us, hl with
    | [_], _ => rfl
  · intro n ks ix hm
    cases hm
theorem dp44 (d : DefI) (h : defs[44]? = some d) : DefP d (L0.fd d) := by
  obtain rfl : _ = d := Option.some.inj h
  refine ⟨⟨rfl, rfl, rfl, by decide +kernel, rfl, by decide +kernel, by decide +kernel⟩, fun _ _ _ _ _ _ us hl => ?_, (fun h => (nomatch h)), ?_⟩
  · match us, hl with
    | [_], _ => rfl
  · intro n ks ix hm
    cases hm
theorem plain : Plain L1 := by
  refine ⟨rfl, fun i d f hd hf => ?_⟩
  have hd : defs[i]? = some d := hd
  have ef : f = L0.fd d := by
    have hf : (defs.map L0.fd)[i]? = some f := hf
    rw [List.getElem?_map, hd] at hf
    exact (Option.some.inj hf).symm
  subst ef
  have hi : i < 45 := (List.getElem?_eq_some_iff.mp hd).1
  match i, hd, hi with
  | 0, h, _ => exact dp0 d h
  | 1, h, _ => exact dp1 d h
  | 2, h, _ => exact dp2 d h
  | 3, h, _ => exact dp3 d h
  | 4, h, _ => exact dp4 d h
  | 5, h, _ => exact dp5 d h
  | 6, h, _ => exact dp6 d h
  | 7, h, _ => exact dp7 d h
  | 8, h, _ => exact dp8 d h
  | 9, h, _ => exact dp9 d h
  | 10, h, _ => exact dp10 d h
  | 11, h, _ => exact dp11 d h
  | 12, h, _ => exact dp12 d h
  | 13, h, _ => exact dp13 d h
  | 14, h, _ => exact dp14 d h
  | 15, h, _ => exact dp15 d h
  | 16, h, _ => exact dp16 d h
  | 17, h, _ => exact dp17 d h
  | 18, h, _ => exact dp18 d h
  | 19, h, _ => exact dp19 d h
  | 20, h, _ => exact dp20 d h
  | 21, h, _ => exact dp21 d h
  | 22, h, _ => exact dp22 d h
  | 23, h, _ => exact dp23 d h
  | 24, h, _ => exact dp24 d h
  | 25, h, _ => exact dp25 d h
  | 26, h, _ => exact dp26 d h
  | 27, h, _ => exact dp27 d h
  | 28, h, _ => exact dp28 d h
  | 29, h, _ => exact dp29 d h
  | 30, h, _ => exact dp30 d h
  | 31, h, _ => exact dp31 d h
  | 32, h, _ => exact dp32 d h
  | 33, h, _ => exact dp33 d h
  | 34, h, _ => exact dp34 d h
  | 35, h, _ => exact dp35 d h
  | 36, h, _ => exact dp36 d h
  | 37, h, _ => exact dp37 d h
  | 38, h, _ => exact dp38 d h
  | 39, h, _ => exact dp39 d h
  | 40, h, _ => exact dp40 d h
  | 41, h, _ => exact dp41 d h
  | 42, h, _ => exact dp42 d h
  | 43, h, _ => exact dp43 d h
  | 44, h, _ => exact dp44 d h
  | n + 45, _, h => exact absurd h (by omega)
theorem f0 : L1.T.fns[0]? = some ⟨1, 1, false, false, b_is_integer, []⟩ := by rfl
theorem f1 : L1.T.fns[1]? = some ⟨1, 2, false, false, b_is_name, []⟩ := by rfl
theorem f2 : L1.T.fns[2]? = some ⟨1, 3, false, false, b_written, []⟩ := by rfl
theorem f3 : L1.T.fns[3]? = some ⟨3, 3, true, false, b_Term_init, []⟩ := by rfl
theorem f4 : L1.T.fns[4]? = some ⟨4, 4, true, false, b_Row_init, []⟩ := by rfl
theorem f5 : L1.T.fns[5]? = some ⟨2, 2, false, false, b_is_part 2, []⟩ := by rfl
theorem f6 : L1.T.fns[6]? = some ⟨2, 6, false, false, b_parsed_term 8 5 2, []⟩ := by rfl
theorem f7 : L1.T.fns[7]? = some ⟨2, 3, false, false, b_parsed_who 2, []⟩ := by rfl
theorem f8 : L1.T.fns[8]? = some ⟨4, 5, false, false, b_parsed_deed 9 7 5, []⟩ := by rfl
theorem f9 : L1.T.fns[9]? = some ⟨4, 6, false, false, b_parsed_row 8 5, []⟩ := by rfl
theorem f10 : L1.T.fns[10]? = some ⟨1, 3, false, false, b_check_seats 1, []⟩ := by rfl
theorem f11 : L1.T.fns[11]? = some ⟨2, 9, false, false, b_check_lines 6 12, []⟩ := by rfl
theorem f12 : L1.T.fns[12]? = some ⟨1, 1, false, false, b_is_line 1, []⟩ := by rfl
theorem f13 : L1.T.fns[13]? = some ⟨3, 7, false, false, b_check_rows 9, []⟩ := by rfl
theorem f14 : L1.T.fns[14]? = some ⟨2, 4, false, false, b_check_bids 0, []⟩ := by rfl
theorem f15 : L1.T.fns[15]? = some ⟨4, 6, true, false, b_Rule_init 13 11 10, [(1, [("rows" : PySem.Str), ("seats" : PySem.Str), ("lines" : PySem.Str)], [0, 2, 3, 1])]⟩ := by rfl
theorem f16 : L1.T.fns[16]? = some ⟨2, 10, false, false, b_Rule_read 10, [(1, [("text" : PySem.Str)], [0, 1])]⟩ := by rfl
theorem f17 : L1.T.fns[17]? = some ⟨1, 1, false, false, b_Rule_seats, []⟩ := by rfl
theorem f18 : L1.T.fns[18]? = some ⟨1, 1, false, false, b_Rule_lines, []⟩ := by rfl
theorem f19 : L1.T.fns[19]? = some ⟨1, 1, false, false, b_Rule_rows, []⟩ := by rfl
theorem f20 : L1.T.fns[20]? = some ⟨2, 4, false, false, b_Rule_getitem, []⟩ := by rfl
theorem f21 : L1.T.fns[21]? = some ⟨1, 1, false, false, b_Rule_len, []⟩ := by rfl
theorem f22 : L1.T.fns[22]? = some ⟨1, 1, false, false, b_Rule_bool, []⟩ := by rfl
theorem f23 : L1.T.fns[23]? = some ⟨1, 1, false, false, b_Rule_iter, []⟩ := by rfl
theorem f24 : L1.T.fns[24]? = some ⟨1, 4, false, false, b_Rule_str, []⟩ := by rfl
theorem f25 : L1.T.fns[25]? = some ⟨2, 2, false, false, b_Rule_eq 10, []⟩ := by rfl
theorem f26 : L1.T.fns[26]? = some ⟨2, 8, false, false, b_Rule_worths, []⟩ := by rfl
theorem f27 : L1.T.fns[27]? = some ⟨3, 5, false, false, b_Rule_value 14, []⟩ := by rfl
theorem f28 : L1.T.fns[28]? = some ⟨2, 2, false, false, b_Rule_outcome, []⟩ := by rfl
theorem f29 : L1.T.fns[29]? = some ⟨2, 2, false, false, b_Rule_changed, []⟩ := by rfl
theorem f30 : L1.T.fns[30]? = some ⟨2, 2, false, false, b_worth_of 2, []⟩ := by rfl
theorem f31 : L1.T.fns[31]? = some ⟨2, 5, false, false, b_l_source, []⟩ := by rfl
theorem f32 : L1.T.fns[32]? = some ⟨2, 5, true, false, b_l_take, []⟩ := by rfl
theorem f33 : L1.T.fns[33]? = some ⟨2, 11, true, false, b_l_names 32, []⟩ := by rfl
theorem f34 : L1.T.fns[34]? = some ⟨2, 4, true, false, b_l_piece 32, []⟩ := by rfl
theorem f35 : L1.T.fns[35]? = some ⟨4, 6, true, false, b_l_line 32 34, []⟩ := by rfl
theorem f36 : L1.T.fns[36]? = some ⟨4, 9, true, false, b_l_row 34 32, []⟩ := by rfl
theorem f37 : L1.T.fns[37]? = some ⟨4, 9, true, false, b_l_plan 36 35 33, []⟩ := by rfl
theorem f38 : L1.T.fns[38]? = some ⟨1, 2, false, false, b_l_term, []⟩ := by rfl
theorem f39 : L1.T.fns[39]? = some ⟨1, 5, false, false, b_l_deed, []⟩ := by rfl
theorem f40 : L1.T.fns[40]? = some ⟨1, 4, false, false, b_l_triple 39 38, []⟩ := by rfl
theorem f41 : L1.T.fns[41]? = some ⟨1, 4, false, false, b_l_whole 39 38, []⟩ := by rfl
theorem f42 : L1.T.fns[42]? = some ⟨2, 7, false, false, b_l_is_right 41 40, []⟩ := by rfl
theorem f43 : L1.T.fns[43]? = some ⟨1, 8, true, false, b_l_right 42 16 10 41 40 37 32, []⟩ := by rfl
theorem f44 : L1.T.fns[44]? = some ⟨1, 2, false, false, b_law 43 31, []⟩ := by rfl
end SB.P
set_option maxRecDepth 100000
set_option maxHeartbeats 0
namespace SB.P
open PySem L2
abbrev T1 : Tab := L1.T
abbrev F1 : Nat := 1000
theorem cT : TermC T1 8 3 := ⟨⟨_, rfl, rfl, rfl, rfl⟩⟩
theorem cW : RowC T1 9 4 := ⟨⟨_, rfl, rfl, rfl, rfl⟩⟩
theorem cU : RuleC T1 10 15 17 18 19 20 21 22 24 := ⟨⟨_, rfl, rfl, rfl, rfl, rfl, rfl, rfl, rfl, rfl⟩⟩
abbrev C1 (n : Nat) : Calls := callN T1 F1 n
theorem cTake (n : Nat) : SpTake (C1 (n + 1)) 32 := take_ok f32
theorem cSource (n : Nat) : SpSource (C1 (n + 1)) 31 := source_ok f31
theorem cNames (n : Nat) : SpNames (C1 (n + 2)) 33 := names_ok (cTake n) f33
theorem cPiece (n : Nat) : SpPiece (C1 (n + 2)) 34 := piece_ok (cTake n) f34
theorem cLine (n : Nat) : SpLine (C1 (n + 3)) 35 := line_ok (cTake (n + 1)) (cPiece n) f35
theorem cRow (n : Nat) : SpRow (C1 (n + 3)) 36 := row_ok (cTake (n + 1)) (cPiece n) f36
theorem cPlan (n : Nat) : SpPlan (C1 (n + 4)) 37 := plan_ok (cNames (n + 1)) (cLine n) (cRow n) f37
theorem cTermT (n : Nat) : SpTermT (C1 (n + 1)) 38 := termT_ok f38
theorem cDeedT (n : Nat) : SpDeedT (C1 (n + 1)) 39 := deedT_ok f39
theorem cTriple (n : Nat) : SpTriple (C1 (n + 2)) 40 := triple_ok (cTermT n) (cDeedT n) f40
theorem cWhole (n : Nat) : SpWhole (C1 (n + 2)) 41 := whole_ok (cTermT n) (cDeedT n) f41
theorem cIsName (n : Nat) : SpIsName (C1 (n + 1)) 1 := isName_ok f1
theorem cWritten (n : Nat) : SpWritten (C1 (n + 1)) 2 := written_ok f2
theorem cIsPart (n : Nat) : SpIsPart (C1 (n + 2)) 5 := isPart_ok (cWritten n) f5
theorem cTermI (n : Nat) : SpTermI (C1 (n + 1)) 8 3 := termI_ok cT f3
theorem cRowI (n : Nat) : SpRowI (C1 (n + 1)) 9 4 := rowI_ok cW f4
theorem cPTerm (n : Nat) : SpPTerm (C1 (n + 3)) 8 6 := pTerm_ok cT (cTermI (n + 1)) (cIsPart n) (cWritten (n + 1)) f6
theorem cPWho (n : Nat) : SpPWho (C1 (n + 2)) 7 := pWho_ok (cWritten n) f7
theorem cPDeed (n : Nat) : SpPDeed (C1 (n + 3)) 9 8 := pDeed_ok cW (cRowI (n + 1)) (cIsPart n) (cPWho n) f8
theorem cPRow (n : Nat) : SpPRow (C1 (n + 4)) 9 9 := pRow_ok (cPDeed n) (cIsPart (n + 1)) f9
theorem cChkS (n : Nat) : SpChkS (C1 (n + 2)) 10 := chkS_ok (cIsName n) f10
theorem cIsLine (n : Nat) : SpIsLine (C1 (n + 2)) 12 := isLine_ok (cIsName n) f12
theorem cChkL (n : Nat) : SpChkL (C1 (n + 4)) 8 11 := chkL_ok (cPTerm n) (cIsLine (n + 1)) f11
theorem cChkR (n : Nat) : SpChkR (C1 (n + 5)) 9 13 := chkR_ok (cPRow n) f13
theorem cInit (n : Nat) : SpInit (C1 (n + 6)) 8 9 10 15 := init_ok cU (cChkS (n + 3)) (cChkL (n + 1)) (cChkR n) f15
theorem cStr (n : Nat) : ∀ p, PlOk p → C1 (n + 1) 24 [.dat (p.obj 8 9 10)] = some (.ok (.dat (.str p.txt)), none) := str_ok cU f24
theorem cRead (n : Nat) : SpRead (C1 (n + 7)) 8 9 10 16 := read_ok (by decide) cU (cInit n) (cStr (n + 5)) f16
theorem cIsRight (n : Nat) : SpIsRight (C1 (n + 3)) 8 9 10 42 := isRight_ok cU (cTriple n) (cWhole n) (seats_ok cU f17) (lines_ok cU f18) (rows_ok cU f19) (len_ok cU f21) (bool_ok f22) (item_ok cU f20) (cStr (n + 1)) f42
theorem cRight (n : Nat) : SpRight (C1 (n + 8)) 43 := right_ok cU (cTake (n + 6)) (cPlan (n + 3)) (cTriple (n + 5)) (cWhole (n + 5)) (cInit (n + 1)) (cRead n) (cIsRight (n + 4)) (fun _ _ _ => rfl) (fun _ => rfl) f43
theorem cLaw : ∀ ns : List Int, C1 9 44 [.dat (.lst (ns.map .int))] = some (.ok (.dat (.bl true)), none) := law_ok (cRight 0) (cSource 7) f44
end SB.P
open PySem PySem.W PySem.Calls PyProof.Rows
theorem PySem.Challenge.cw_salebids_k02_rules_made_holds : PySem.Challenge.rw_salebids_k02_rules_made.Holds := by
  w_on; o_law
  refine HandSHeadRun.head_any (r := OpenLaw.row PySem.Challenge.rw_salebids_k02_rules_made) (q := view (OpenLaw.row PySem.Challenge.rw_salebids_k02_rules_made).prog [53]) (H := SB.hk) (ob := SB.ob) (M := 200000) (loose := SB.loose) (d := HandSHeadRun.topDef (OpenLaw.row PySem.Challenge.rw_salebids_k02_rules_made).prog 53) (kwd := []) SB.ob_eq
    (by kernel_rfl) (fun s => by kernel_rfl) SB.run (by kernel_rfl) (by kernel_rfl) (by kernel_rfl) (by rfl) (by first | assumption | decide +kernel) (by decide +kernel) ⟨rfl, rfl, rfl, rfl, rfl, by decide +kernel⟩ ?hw ?hc
  case hw => w_witness2
  case hc =>
    exact SB.walk_ofS (l := PySem.Challenge.rw_salebids_k02_rules_made) (n := 63) (k := 9) (lawi := 44) (fuel := SB.P.F1) SB.P.plain rfl (by decide) (by kernel_rfl) ⟨rfl, by decide, by decide⟩ SB.P.f44 (by kernel_rfl) (fun ns _ => SB.P.cLaw ns)
