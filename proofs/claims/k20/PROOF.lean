import PyProof.Rows.All
import Wide.All
import OpenK.AllK
import Wide.FinOn
import HandS.List
import HandS.Text
import PyProof.ReprReads
import HandS.ForMost
import HandS.Exc
import HandS.Deep
import HandS.TupAny
import HandS.ExcInit
import PyProof.ExcClass
import PyProof.RulesRaise
import PyProof.FactsTree
import PyProof.ExcBaseAll.LookupError
import PyProof.ExcBaseAll.IndexError
import KE.KExcInit
import HandS.ExcField
import HandS.ExcIs
import PyProof.ExcBaseAll.OverflowError
import PyProof.ExcBaseAll.RuntimeError
import PyProof.ExcBaseAll.ValueError
import HandS.ExcOwn
import HandS.Comp
import HandS.Defaults
import HandS.Ends
import HandS.HeadHook2
import HandS.Iter
import HandS.Zip
import HandS.Flow
import KE.KExcIs
import HandS.Small
import HandS.Head0
import HandS.Head1
import HandS.Head2
import HandS.HeadEnd
import HandS.HeadHook1
import PyProof.Ascii
import PyProof.P3Eq
import KE.KStateDown
import PySem.Challenge.RW_steadycalls_k20_errors
set_option linter.all false
/-! Ev.Core: a small evaluator for the part of Python that stands in the texts here. Values are trees; what may change lies in a store. -/
namespace Ev
open PySem (Str PyData)

inductive Val where
  | non | bl (b : Bool) | int (i : Int) | str (s : Str)
  | tup (xs : List Val) | lst (xs : List Val) | fr (xs : List Val) | dct (kvs : List (Val × Val))
  | ins (c : Nat) (fs : List (Nat × Val))
  | exo (c f : Nat) (v : Val)
  | ref (i : Nat) | gl (k : Nat)
  deriving Inhabited

inductive Ob where
  | lst (xs : List Val) | dct (kvs : List (Val × Val)) | ins (c : Nat) (fs : List (Nat × Val))
  deriving Inhabited

structure St where
  n : Nat
  m : List (Nat × Ob)
  deriving Inhabited

def natEq : Nat → Nat → Bool := Nat.beq
def lookN {α : Type} (i : Nat) : List (Nat × α) → Option α
  | [] => none
  | (j, x) :: r => match natEq i j with
    | true => some x
    | false => lookN i r
def putN {α : Type} (i : Nat) (x : α) : List (Nat × α) → List (Nat × α)
  | [] => [(i, x)]
  | (j, y) :: r => match natEq i j with
    | true => (j, x) :: r
    | false => (j, y) :: putN i x r
def dropN {α : Type} (i : Nat) : List (Nat × α) → List (Nat × α)
  | [] => []
  | (j, y) :: r => match natEq i j with
    | true => dropN i r
    | false => (j, y) :: dropN i r
def St.get (s : St) (i : Nat) : Option Ob := lookN i s.m
def St.put (s : St) (i : Nat) (o : Ob) : St := ⟨s.n, putN i o s.m⟩
def St.new (s : St) (o : Ob) : St := ⟨s.n + 1, (s.n, o) :: s.m⟩
def St.drop (s : St) (i : Nat) : St := ⟨s.n, dropN i s.m⟩

inductive R (α : Type) where
  | ok (a : α) (s : St)
  | exc (c : Nat) (v : Val) (s : St)
  | bad
def R.andThen {α β : Type} : R α → (α → St → R β) → R β
  | .ok a s, f => f a s
  | .exc c v s, _ => .exc c v s
  | .bad, _ => .bad
def ofO {α : Type} (o : Option α) (s : St) : R α := match o with
  | some a => .ok a s
  | none => .bad

inductive Op where
  | add | sub | mul | fdiv | mod | pow
inductive Cm where
  | eq | ne | lt | le | gt | ge | is | isnot | in | notin
/-- built-in functions -/
inductive Bi where
  | len | int | abs | sum | max | min | all | any | tup | lst | str | repr | sorted
/-- methods of built-in types -/
inductive Bm where
  | append | extend | get | index | items | join | pop | update
inductive Src where
  | it | range | enum | zip
/-- what a target stores to: a local slot | a tuple of local slots -/
inductive Tg where
  | v (i : Nat) | tup (is : List Nat)

/-- built-in types that are asked for -/
inductive Bt where
  | non | bl | int | str | tup | lst | dct | ve | ke | oe | re
inductive Ty where
  | b (t : Bt) | c (k : Nat)

inductive E where
  | v (i : Nat)
  | c (x : Val)
  | g (k : Nat)
  | gc (k : Nat)
  | bin (op : Op) (a b : E)
  | neg (a : E)
  | cmp (op : Cm) (a b : E)
  | chain (a : E) (op : Cm) (b : E) (op' : Cm) (d : E)
  | and (es : List E) | or (es : List E) | not (a : E)
  | ite (c a b : E)
  | tup (es : List E) | lst (fz : Bool) (es : List E)
  | ix (a b : E)
  | sl (a : E) (lo hi : List E)
  | attr (a : E) (m : Nat)
  | call (f : Nat) (es : List E)
  | bi (b : Bi) (es : List E)
  | bm (o : E) (b : Bm) (es : List E)
  | meth (o : E) (m : Nat) (es : List E)
  | mk (c : Nat) (es : List E)
  | mkx (c : Nat) (kw : Bool) (e : E)
  | isin (e : E) (t : Ty)
  | lc (fz : Bool) (src : Src) (es : List E) (tg : Tg) (cond : List E) (elt : E)
  | fz (e : E)

abbrev Env := List (Option Val)
abbrev CF := Nat → List Val → St → R Val

/-! ### data -/
def SL : Nat := 16777216
def leN (a b : Nat) : Bool := Nat.ble a b
def listEqN : List Nat → List Nat → Bool
  | [], [] => true
  | a :: x, b :: y => match natEq a b with
    | true => listEqN x y
    | false => false
  | _, _ => false
def strEq (a b : Str) : Bool := listEqN a.cps.toList b.cps.toList
def intEq (a b : Int) : Bool := match a, b with
  | .ofNat m, .ofNat n => natEq m n
  | .negSucc m, .negSucc n => natEq m n
  | _, _ => false
mutual
def toD : Val → Option PyData
  | .non => some .none
  | .bl b => some (.bool b)
  | .int i => some (.int i)
  | .str s => some (.str s)
  | .tup xs => (toDs xs).map .tuple
  | .lst xs => (toDs xs).map .list
  | .fr xs => (toDs xs).map .list
  | _ => none
def toDs : List Val → Option (List PyData)
  | [] => some []
  | x :: xs => match toD x, toDs xs with
    | some d, some ds => some (d :: ds)
    | _, _ => none
end
/-- a list, frozen or in the store -/
def asL (s : St) : Val → Option (List Val)
  | .lst xs => some xs
  | .ref i => match s.get i with
    | some (.lst xs) => some xs
    | _ => none
  | _ => none
/-- .. or the script -/
def asLr (s : St) : Val → Option (List Val)
  | .fr xs => some xs
  | v => asL s v
def asD (s : St) : Val → Option (List (Val × Val))
  | .dct xs => some xs
  | .ref i => match s.get i with
    | some (.dct xs) => some xs
    | _ => none
  | _ => none
def asI (s : St) : Val → Option (Nat × List (Nat × Val))
  | .ins c fs => some (c, fs)
  | .ref i => match s.get i with
    | some (.ins c fs) => some (c, fs)
    | _ => none
  | _ => none
def toD0 (s : St) (v : Val) : Option PyData := match asL s v with
  | some xs => (toDs xs).map .list
  | none => toD v
def eqD (s : St) (a b : Val) : Option Bool := match toD0 s a, toD0 s b with
  | some d, some e => match PySem.SeqAt.shaped d && PySem.SeqAt.shaped e with
    | true => some (PyData.eqv d e)
    | false => none
  | _, _ => none

/-! ### operators -/
def smallI (i : Int) : Bool := decide (-(2 ^ 64) < i) && decide (i < 2 ^ 64)
def binV (op : Op) (s : St) (x y : Val) : R Val := match op, x, y with
  | .add, .int i, .int j => .ok (.int (i + j)) s
  | .add, .str a, .str b => match leN (a.length + b.length) SL with
    | true => .ok (.str (a ++ b)) s
    | false => .bad
  | .add, .tup a, .tup b => match leN (a.length + b.length) SL with
    | true => .ok (.tup (a ++ b)) s
    | false => .bad
  | .add, x, y => match asL s x, asL s y with
    | some a, some b => match leN (a.length + b.length) SL with
      | true => .ok (.lst (a ++ b)) s
      | false => .bad
    | _, _ => .bad
  | .sub, .int i, .int j => .ok (.int (i - j)) s
  | .mul, .int i, .int j => match smallI i || smallI j with
    | true => .ok (.int (i * j)) s
    | false => .bad
  | .mul, x, .int k => match asL s x with
    | some a => match decide (0 ≤ k) && (decide (k < 4611686018427387904) && leN (a.length * k.toNat) SL) with
      | true => .ok (.lst (List.replicate k.toNat a).flatten) s
      | false => .bad
    | none => .bad
  | .fdiv, .int i, .int j => match decide (0 < j) && decide (j < 1073741824) with
    | true => .ok (.int (i / j)) s
    | false => .bad
  | .mod, .int i, .int j => match decide (0 < j) with
    | true => .ok (.int (i % j)) s
    | false => .bad
  | .pow, .int i, .int j => match decide (0 ≤ j) && (decide (j ≤ 1000000) && smallI i) with
    | true => .ok (.int (i ^ j.toNat)) s
    | false => .bad
  | _, _, _ => .bad
def isNon : Val → Bool
  | .non => true
  | _ => false
def inV (s : St) (x y : Val) : Option Bool := match asL s y with
  | some ys => match toD0 s x, toDs ys with
    | some d, some ds => match PySem.SeqAt.shaped d && PySem.SeqAt.shaped (.list ds) with
      | true => some (ds.any fun z => PyData.eqv z d)
      | false => none
    | _, _ => none
  | none => none
def cmpV (op : Cm) (s : St) (x y : Val) : R Val := match op with
  | .eq => ofO ((eqD s x y).map .bl) s
  | .ne => ofO ((eqD s x y).map fun b => .bl (!b)) s
  | .lt => match x, y with
    | .int i, .int j => .ok (.bl (decide (i < j))) s
    | _, _ => .bad
  | .le => match x, y with
    | .int i, .int j => .ok (.bl (decide (i ≤ j))) s
    | _, _ => .bad
  | .gt => match x, y with
    | .int i, .int j => .ok (.bl (decide (j < i))) s
    | _, _ => .bad
  | .ge => match x, y with
    | .int i, .int j => .ok (.bl (decide (j ≤ i))) s
    | _, _ => .bad
  | .is => match y with
    | .non => .ok (.bl (isNon x)) s
    | _ => .bad
  | .isnot => match y with
    | .non => .ok (.bl (!isNon x)) s
    | _ => .bad
  | .in => ofO ((inV s x y).map .bl) s
  | .notin => ofO ((inV s x y).map fun b => .bl (!b)) s
/-- truth -/
def truV (s : St) : Val → Option Bool
  | .non => some false
  | .bl b => some b
  | .int i => some (i != 0)
  | .str x => match leN x.length SL with
    | true => some ((x.length : Int) != 0)
    | false => none
  | .tup xs => some (!xs.isEmpty)
  | v => (asLr s v).map fun xs => !xs.isEmpty
def keyEq (a b : Val) : Option Bool := match a, b with
  | .int i, .int j => some (intEq i j)
  | .str i, .str j => some (strEq i j)
  | .int _, .str _ => some false
  | .str _, .int _ => some false
  | _, _ => none
/-- the value under a key: none: not told -/
def lookK (k : Val) : List (Val × Val) → Option (Option Val)
  | [] => some none
  | (q, x) :: r => match keyEq q k with
    | some true => some (some x)
    | some false => lookK k r
    | none => none
def ixV (s : St) (x y : Val) : R Val := match y with
  | .int i => match x with
    | .tup xs => ofO (L2.atI xs i) s
    | .str z => match leN z.length SL with
      | true => ofO ((L2.atI z.cps.toList i).map fun c => .str ⟨#[c]⟩) s
      | false => .bad
    | _ => match asLr s x with
      | some xs => ofO (L2.atI xs i) s
      | none => .bad
  | _ => .bad
def intsV : List Val → Option (List Int)
  | [] => some []
  | .int i :: r => (intsV r).map fun t => i :: t
  | _ => none
def blsV : List Val → Option (List Bool)
  | [] => some []
  | .bl b :: r => (blsV r).map fun t => b :: t
  | _ => none
def one (xs : List Val) (f : Val → R Val) : R Val := match xs with
  | [x] => f x
  | _ => .bad
def two (xs : List Val) (f : Val → Val → R Val) : R Val := match xs with
  | [x, y] => f x y
  | _ => .bad
def onInt (x : Val) (f : Int → R Val) : R Val := match x with
  | .int i => f i
  | _ => .bad
def onO {α : Type} (o : Option α) (f : α → R Val) : R Val := match o with
  | some a => f a
  | none => .bad
def onB (b : Bool) (r : R Val) : R Val := match b with
  | true => r
  | false => .bad
def lenV (s : St) (x : Val) : R Val := match x with
  | .str x => onB (leN x.length SL) (.ok (.int x.length) s)
  | .tup x => .ok (.int x.length) s
  | x => onO (asLr s x) fun ys => .ok (.int ys.length) s
def intV (s : St) (x : Val) : R Val := match x with
  | .int i => .ok (.int i) s
  | .bl k => .ok (.int (if k then 1 else 0)) s
  | _ => .bad
def tupV (s : St) (x : Val) : R Val := match x with
  | .tup x => .ok (.tup x) s
  | x => onO (asL s x) fun ys => .ok (.tup ys) s
def reprB (d : PyData) : Bool := PySem.PyData.showable d && (leN d.shown.length SL && (!PySem.PyData.hasDict d && leN d.depth 60))
def reprV (s : St) (x : Val) : R Val := onO (toD0 s x) fun d => onB (reprB d) (.ok (.str d.shown) s)
/-- a built-in function -/
def biV (b : Bi) (s : St) (xs : List Val) : R Val := match b with
  | .len => one xs (lenV s)
  | .int => one xs (intV s)
  | .abs => one xs fun x => onInt x fun i => .ok (.int (if i < 0 then -i else i)) s
  | .max => two xs fun x y => onInt x fun i => onInt y fun j => .ok (.int (if j > i then j else i)) s
  | .min => two xs fun x y => onInt x fun i => onInt y fun j => .ok (.int (if j < i then j else i)) s
  | .sum => one xs fun x => onO (asLr s x) fun ys => onO (intsV ys) fun t => .ok (.int t.sum) s
  | .all => one xs fun x => onO (asL s x) fun ys => onO (blsV ys) fun t => .ok (.bl (t.all id)) s
  | .any => one xs fun x => onO (asL s x) fun ys => onO (blsV ys) fun t => .ok (.bl (t.any id)) s
  | .tup => one xs (tupV s)
  | .repr => one xs (reprV s)
  | _ => .bad

def cutL {α : Type} (xs : List α) (lo hi : Option Int) : List α :=
  (xs.drop (HT.sIx xs.length 0 lo)).take (HT.sIx xs.length xs.length hi - HT.sIx xs.length 0 lo)
/-- a slice -/
def slV (s : St) (x : Val) (lo hi : Option Int) : R Val := match x with
  | .str z => match leN z.length SL with
    | true => .ok (.str (L2.cutS z lo hi)) s
    | false => .bad
  | .tup xs => .ok (.tup (cutL xs lo hi)) s
  | _ => match asLr s x with
    | some xs => .ok (.lst (cutL xs lo hi)) s
    | none => .bad

/-- a slice's part -/
def partV : List Val → Option (Option Int)
  | [] => some none
  | [.int i] => some (some i)
  | _ => none
/-! ### what a loop walks -/
def rangeV : Int → Nat → List Val
  | _, 0 => []
  | i, n + 1 => .int i :: rangeV (i + 1) n
def enumV : Int → List Val → List Val
  | _, [] => []
  | i, x :: xs => .tup [.int i, x] :: enumV (i + 1) xs
def zipV : List Val → List Val → List Val
  | x :: xs, y :: ys => .tup [x, y] :: zipV xs ys
  | _, _ => []
def smallB (i : Int) : Bool := decide (-(2 ^ 62) ≤ i) && decide (i < 2 ^ 62)
/-- the items; only what does not change may be walked -/
def srcV (src : Src) (xs : List Val) : Option (List Val) := match src, xs with
  | .it, [.lst x] => some x
  | .it, [.tup x] => some x
  | .it, [.fr x] => some x
  | .range, [.int n] => match smallB n with
    | true => some (rangeV 0 n.toNat)
    | false => none
  | .range, [.int a, .int b] => match smallB a && smallB b with
    | true => some (rangeV a (b - a).toNat)
    | false => none
  | .enum, [.lst x] => some (enumV 0 x)
  | .zip, [.lst x, .lst y] => some (zipV x y)
  | _, _ => none
def setE : List Nat → List Val → Env → Option Env
  | [], [], e => some e
  | i :: is, v :: vs, e => setE is vs (e.set i (some v))
  | _, _, _ => none
def tgV (t : Tg) (v : Val) (e : Env) : Option Env := match t, v with
  | .v i, v => some (e.set i (some v))
  | .tup is, .tup vs => setE is vs e
  | _, _ => none
/-- methods of built-in types -/
def bmV (b : Bm) (s : St) (o : Val) (xs : List Val) : R Val := match b, o, xs with
  | .append, .ref i, [x] => match s.get i with
    | some (.lst ys) => match leN (ys.length + 1) SL with
      | true => .ok .non (s.put i (.lst (ys ++ [x])))
      | false => .bad
    | _ => .bad
  | _, _, _ => .bad
def fzV (s : St) (v : Val) : R Val := match v with
  | .ref i => match s.get i with
    | some (.lst xs) => .ok (.lst xs) (s.drop i)
    | some (.dct xs) => .ok (.dct xs) (s.drop i)
    | some (.ins c fs) => .ok (.ins c fs) (s.drop i)
    | none => .bad
  | v => .ok v s

/-! ### the program's table -/
structure Tab where
  /-- the function that a class has under a name -/
  me : Nat → Nat → Option Nat
  /-- the __init__ of a class -/
  ini : Nat → Option Nat
  /-- the attributes of a class's instances -/
  fd : Nat → List Nat
  /-- the module's constants -/
  gc : Nat → Val
  /-- the field of an exception class -/
  xi : Nat → Option Nat
  /-- .. and its parameter -/
  xp : Nat → Option Nat
  /-- is an instance of the first one of the second? -/
  isT : Ty → Ty → Option Bool
def memN (m : Nat) : List Nat → Bool
  | [] => false
  | k :: r => match natEq m k with
    | true => true
    | false => memN m r
def attrI (T : Tab) (s : St) (x : Val) (m : Nat) : R Val := match asI s x with
  | some (c, fs) => match memN m (T.fd c) with
    | true => ofO (lookN m fs) s
    | false => .bad
  | none => .bad
def attrV (T : Tab) (s : St) (x : Val) (m : Nat) : R Val := match x with
  | .exo c f v => onB (natEq m f) (onO (T.xi c) fun g => onB (natEq g f) (.ok v s))
  | x => attrI T s x m
/-- the type of a value -/
def tagV (s : St) : Val → Option Ty
  | .non => some (.b .non)
  | .bl _ => some (.b .bl)
  | .int _ => some (.b .int)
  | .str _ => some (.b .str)
  | .tup _ => some (.b .tup)
  | .exo c _ _ => some (.c c)
  | .dct _ => none
  | .ins _ _ => none
  | .gl _ => none
  | x => (asLr s x).map fun _ => .b .lst
def wipeE (env : Env) : List Nat → Env
  | [] => env
  | v :: vs => (wipeE env vs).set v none
def Tg.slots : Tg → List Nat
  | .v i => [i]
  | .tup is => is

def R.nox {α : Type} : R α → R α
  | .ok a s => .ok a s
  | .exc _ _ _ => .bad
  | .bad => .bad
def lcEnd (fz : Bool) (k : Nat) (s : St) : R Val := match fz with
  | true => fzV s (.ref k)
  | false => .ok (.ref k) s
/-- one more item of the list k -/
def appK (k : Nat) (y : Val) (s : St) : R Val := match s.get k with
  | some (.lst ys) => onB (leN (ys.length + 1) SL) (.ok .non (s.put k (.lst (ys ++ [y]))))
  | _ => .bad
/-- [elt for tg in items if cond], the new list at k: the items one by one -/
def compV (k : Nat) (cond elt : Env → St → R Val) (tg : Tg) : List Val → Env → St → R Val
  | [], _, s => .ok .non s
  | x :: xs, env, s => onO (tgV tg x env) fun env1 => (cond env1 s).nox.andThen fun c s1 => match c with
      | .bl true => (elt env1 s1).nox.andThen fun y s2 => (appK k y s2).andThen fun _ s3 => compV k cond elt tg xs env s3
      | .bl false => compV k cond elt tg xs env s1
      | _ => .bad

mutual
def evE (T : Tab) (cf : CF) : E → Env → St → R Val
  | .v i, env, s => match env[i]? with
    | some (some x) => .ok x s
    | _ => .bad
  | .c x, _, s => .ok x s
  | .g k, _, s => .ok (.gl k) s
  | .gc k, _, s => .ok (T.gc k) s
  | .bin op a b, env, s => (evE T cf a env s).andThen fun x s1 => (evE T cf b env s1).andThen fun y s2 => binV op s2 x y
  | .neg a, env, s => (evE T cf a env s).andThen fun x s1 => match x with
    | .int i => .ok (.int (-i)) s1
    | _ => .bad
  | .cmp op a b, env, s => (evE T cf a env s).andThen fun x s1 => (evE T cf b env s1).andThen fun y s2 => cmpV op s2 x y
  | .chain a op b op' d, env, s => (evE T cf a env s).andThen fun x s1 => (evE T cf b env s1).andThen fun y s2 => (cmpV op s2 x y).andThen fun z s3 => match z with
    | .bl true => (evE T cf d env s3).andThen fun w s4 => cmpV op' s4 y w
    | .bl false => .ok (.bl false) s3
    | _ => .bad
  | .and es, env, s => evAnd T cf es env s
  | .or es, env, s => evOr T cf es env s
  | .not a, env, s => (evE T cf a env s).andThen fun x s1 => match truV s1 x with
    | some b => .ok (.bl (!b)) s1
    | none => .bad
  | .ite c a b, env, s => (evE T cf c env s).andThen fun x s1 => match truV s1 x with
    | some true => evE T cf a env s1
    | some false => evE T cf b env s1
    | none => .bad
  | .tup es, env, s => (evEs T cf es env s).andThen fun xs s1 => .ok (.tup xs) s1
  | .lst fz es, env, s => (evEs T cf es env s).andThen fun xs s1 => match fz with
    | true => .ok (.lst xs) s1
    | false => .ok (.ref s1.n) (s1.new (.lst xs))
  | .ix a b, env, s => (evE T cf a env s).andThen fun x s1 => (evE T cf b env s1).andThen fun y s2 => ixV s2 x y
  | .sl a lo hi, env, s => (evE T cf a env s).andThen fun x s1 => (evEs T cf lo env s1).andThen fun l s2 => onO (partV l) fun l => (evEs T cf hi env s2).andThen fun h s3 => onO (partV h) fun h => slV s3 x l h
  | .attr a m, env, s => (evE T cf a env s).andThen fun x s1 => attrV T s1 x m
  | .call f es, env, s => (evEs T cf es env s).andThen fun xs s1 => cf f xs s1
  | .bi b es, env, s => (evEs T cf es env s).andThen fun xs s1 => biV b s1 xs
  | .bm o b es, env, s => (evE T cf o env s).andThen fun x s1 => (evEs T cf es env s1).andThen fun xs s2 => bmV b s2 x xs
  | .meth o m es, env, s => (evE T cf o env s).andThen fun x s1 => match asI s1 x with
    | some (c, fs) => match T.me c m, lookN m fs with
      | some f, none => (evEs T cf es env s1).andThen fun xs s2 => cf f (x :: xs) s2
      | _, _ => .bad
    | none => .bad
  | .mk c es, env, s => (evEs T cf es env s).andThen fun xs s1 => match T.ini c with
    | some f => (cf f (.ref s1.n :: xs) (s1.new (.ins c []))).andThen fun v s2 => match v with
      | .non => .ok (.ref s1.n) s2
      | _ => .bad
    | none => .bad
  | .mkx c _ e, env, s => (evE T cf e env s).andThen fun x s1 => onO (T.xi c) fun f => .ok (.exo c f x) s1
  | .isin e t, env, s => (evE T cf e env s).andThen fun x s1 => onO (tagV s1 x) fun u => onO (T.isT u t) fun b => .ok (.bl b) s1
  | .lc fz src es tg cond elt, env, s => (evEs T cf es env s).andThen fun xs s1 => onO (srcV src xs) fun items =>
    (compV s1.n (fun e t => evAnd T cf cond e t) (fun e t => evE T cf elt e t) tg items (wipeE env tg.slots) (s1.new (.lst []))).andThen fun _ s2 => lcEnd fz s1.n s2
  | .fz a, env, s => (evE T cf a env s).andThen fun x s1 => fzV s1 x
def evEs (T : Tab) (cf : CF) : List E → Env → St → R (List Val)
  | [], _, s => .ok [] s
  | e :: es, env, s => (evE T cf e env s).andThen fun x s1 => (evEs T cf es env s1).andThen fun xs s2 => .ok (x :: xs) s2
/-- and: the value of the first that is not true, or of the last; of none: True -/
def evAnd (T : Tab) (cf : CF) : List E → Env → St → R Val
  | [], _, s => .ok (.bl true) s
  | [e], env, s => evE T cf e env s
  | e :: es, env, s => (evE T cf e env s).andThen fun x s1 => match truV s1 x with
    | some true => evAnd T cf es env s1
    | some false => .ok x s1
    | none => .bad
def evOr (T : Tab) (cf : CF) : List E → Env → St → R Val
  | [], _, s => .ok (.bl false) s
  | [e], env, s => evE T cf e env s
  | e :: es, env, s => (evE T cf e env s).andThen fun x s1 => match truV s1 x with
    | some false => evOr T cf es env s1
    | some true => .ok x s1
    | none => .bad
end
end Ev

set_option linter.all false
/-! Ev.Stm: statements, functions. -/
namespace Ev
open PySem (Str PyData)

inductive S where
  | ex (e : E)
  | asg (tg : Tg) (e : E)
  | par (i j : Nat) (a b : E)
  | sets (o i e : E)
  | seta (o : E) (m : Nat) (e : E)
  | aug (i : Nat) (op : Op) (e : E)
  | ifs (c : E) (a b : List S)
  | for (tg : Tg) (src : Src) (es : List E) (body : List S)
  | whil (c : E) (body : List S)
  | ret (e : E) | retN | brk | cnt | pass

inductive Fl where
  | nx (e : Env) | ret (v : Val) | brk (e : Env) | cnt (e : Env)

def onF {α : Type} (o : Option α) (f : α → R Fl) : R Fl := match o with
  | some a => f a
  | none => .bad
/-- o[i] = v -/
def setV (s : St) (o i v : Val) : R Val := match o, i with
  | .ref p, .int k => match s.get p with
    | some (.lst xs) => match L2.ixN xs.length k with
      | some j => .ok .non (s.put p (.lst (xs.set j v)))
      | none => .bad
    | _ => .bad
  | _, _ => .bad
/-- o.m = v -/
def setA (T : Tab) (s : St) (o : Val) (m : Nat) (v : Val) : R Val := match o with
  | .ref p => match s.get p with
    | some (.ins c fs) => match memN m (T.fd c) && leN (fs.length + 1) 1000 with
      | true => .ok .non (s.put p (.ins c (putN m v fs)))
      | false => .bad
    | _ => .bad
  | _ => .bad

/-- x op= y -/
def augV (op : Op) (s : St) (x y : Val) : R Val := match op, x, y with
  | .add, .int i, .int j => .ok (.int (i + j)) s
  | .add, .str a, .str b => onB (leN (a.length + b.length) SL) (.ok (.str (a ++ b)) s)
  | .sub, .int i, .int j => .ok (.int (i - j)) s
  | .mul, .int i, .int j => onB (smallI i || smallI j) (.ok (.int (i * j)) s)
  | _, _, _ => .bad
def loopV (body : Env → St → R Fl) (tg : Tg) : List Val → Env → St → R Fl
  | [], env, s => .ok (.nx env) s
  | x :: xs, env, s => onF (tgV tg x env) fun env1 => (body env1 s).andThen fun f s1 => match f with
      | .nx e => loopV body tg xs e s1
      | .cnt e => loopV body tg xs e s1
      | .brk e => .ok (.nx e) s1
      | .ret v => .ok (.ret v) s1
def whileV (c : Env → St → R Val) (body : Env → St → R Fl) : Nat → Env → St → R Fl
  | 0, _, _ => .bad
  | n + 1, env, s => (c env s).andThen fun x s1 => match truV s1 x with
    | some true => (body env s1).andThen fun f s2 => match f with
      | .nx e => whileV c body n e s2
      | .cnt e => whileV c body n e s2
      | .brk e => .ok (.nx e) s2
      | .ret v => .ok (.ret v) s2
    | some false => .ok (.nx env) s1
    | none => .bad

def seqV (r : R Fl) (k : Env → St → R Fl) : R Fl := r.andThen fun f s => match f with
  | .nx e => k e s
  | f => .ok f s

mutual
def evS (T : Tab) (cf : CF) (w : Nat) : S → Env → St → R Fl
  | .ex e, env, s => (evE T cf e env s).andThen fun _ s1 => .ok (.nx env) s1
  | .asg tg e, env, s => (evE T cf e env s).andThen fun x s1 => onF (tgV tg x env) fun env1 => .ok (.nx env1) s1
  | .par i j a b, env, s => (evE T cf a env s).andThen fun x s1 => (evE T cf b env s1).andThen fun y s2 => .ok (.nx ((env.set i (some x)).set j (some y))) s2
  | .sets o i e, env, s => (evE T cf e env s).andThen fun x s1 => (evE T cf o env s1).andThen fun p s2 => (evE T cf i env s2).andThen fun k s3 => (setV s3 p k x).andThen fun _ s4 => .ok (.nx env) s4
  | .seta o m e, env, s => (evE T cf e env s).andThen fun x s1 => (evE T cf o env s1).andThen fun p s2 => (setA T s2 p m x).andThen fun _ s3 => .ok (.nx env) s3
  | .aug i op e, env, s => match env[i]? with
    | some (some x) => (evE T cf e env s).andThen fun y s1 => (augV op s1 x y).andThen fun z s2 => .ok (.nx (env.set i (some z))) s2
    | _ => .bad
  | .ifs c a b, env, s => (evE T cf c env s).andThen fun x s1 => match truV s1 x with
    | some true => evSs T cf w a env s1
    | some false => evSs T cf w b env s1
    | none => .bad
  | .for tg src es body, env, s => (evEs T cf es env s).andThen fun xs s1 => onF (srcV src xs) fun items => loopV (fun e t => evSs T cf w body e t) tg items env s1
  | .whil c body, env, s => whileV (fun e t => evE T cf c e t) (fun e t => evSs T cf w body e t) w env s
  | .ret e, env, s => (evE T cf e env s).andThen fun x s1 => .ok (.ret x) s1
  | .retN, _, s => .ok (.ret .non) s
  | .brk, env, s => .ok (.brk env) s
  | .cnt, env, s => .ok (.cnt env) s
  | .pass, env, s => .ok (.nx env) s
def evSs (T : Tab) (cf : CF) (w : Nat) : List S → Env → St → R Fl
  | [], env, s => .ok (.nx env) s
  | [a], env, s => evS T cf w a env s
  | a :: r, env, s => seqV (evS T cf w a env s) fun e t => evSs T cf w r e t
end

/-- a function of the text -/
structure Fn where
  np : Nat
  ns : Nat
  body : List S
structure Prog where
  T : Tab
  fn : Nat → Option Fn
  w : Nat
def startE (f : Fn) (xs : List Val) : Env := xs.map some ++ List.replicate (f.ns - xs.length) none
def evF (P : Prog) : Nat → CF
  | 0 => fun _ _ _ => .bad
  | n + 1 => fun f xs s => match P.fn f with
    | some F => match natEq xs.length F.np with
      | true => (evSs P.T (evF P n) P.w F.body (startE F xs) s).andThen fun r t => match r with
        | .ret v => .ok v t
        | .nx _ => .ok .non t
        | _ => .bad
      | false => .bad
    | none => .bad
end Ev

set_option Elab.async false
set_option linter.all false
set_option maxRecDepth 100000
/-! Ev.Rel: how values and the store stand in the abstract heap. -/
namespace Ev
open PySem PySem.Spec PyProof.Rows L2

theorem natEq_iff {a b : Nat} : natEq a b = true ↔ a = b := ⟨Nat.eq_of_beq_eq_true, fun h => by subst h; exact Nat.beq_refl a⟩
theorem natEq_false {a b : Nat} (h : natEq a b = false) : a ≠ b := fun e => by
  have := natEq_iff.mpr e
  rw [h] at this; cases this

/-- a name by its number -/
def digs : Nat → Nat → List Nat
  | 0, _ => []
  | f + 1, n => match n with
    | 0 => []
    | n => (n % 256) :: digs f (n / 256)
def undig : List Nat → Nat
  | [] => 0
  | d :: r => d + 256 * undig r
theorem undig_digs : ∀ (f n : Nat), n ≤ f → undig (digs f n) = n
  | 0, n, h => by
    have e : n = 0 := by omega
    subst e
    rfl
  | f + 1, n, h => by
    cases n with
    | zero => rfl
    | succ m =>
      show (m + 1) % 256 + 256 * undig (digs f ((m + 1) / 256)) = m + 1
      rw [undig_digs f ((m + 1) / 256) (by omega)]
      omega
def nt (n : Nat) : Str := ⟨(digs n n).toArray⟩
theorem nt_inj {m n : Nat} (h : nt m = nt n) : m = n := by
  have e : digs m m = digs n n := by
    have := congrArg (fun s : Str => s.cps.toList) h
    simpa [nt] using this
  rw [← undig_digs m m (Nat.le_refl _), e, undig_digs n n (Nat.le_refl _)]

/-- the addresses of what is global: functions, classes -/
structure Gm where
  K : PySem.W.Frag
  ga : Nat → Addr
  ca : Nat → Addr

/-- where the store's objects stand -/
abbrev As := Nat → Addr
/-- a state: addresses, store, heap -/
structure Sit where
  as : As
  st : St
  H : Hp
/-- the places of what may change -/
def Sit.Mu (s : Sit) (a : Addr) : Prop := ∃ i o, lookN i s.st.m = some o ∧ s.as i = a

/-- a list of the module's own -/
def KLs (K : PySem.W.Frag) (a : Addr) (vs : List V) : Prop := ∃ (o : Obj) (its : Array Value) (n : Nat), K.lookup a = some o ∧ o.cls = .type "list" ∧ o.dict = none ∧ o.data = .seq its n ∧ its.size ≤ sizeLine ∧ Vals vs its.toList
/-- a list that never changes: the script, one of the module's -/
def FzL (G : Gm) (s : Sit) (a : Addr) (vs : List V) : Prop := (∃ o, s.H a = some (.frz o (.lst vs)) ∧ ¬ s.Mu a) ∨ KLs G.K a vs
theorem FzL.sq {G : Gm} {s : Sit} {a : Addr} {vs : List V} (h : FzL G s a vs) : SqL G.K s.H a vs := by
  rcases h with ⟨o, h, _⟩ | h
  · exact .inl (.inr ⟨o, h⟩)
  · exact .inr h

mutual
/-- the value stands as v -/
def Rv (G : Gm) (s : Sit) : Val → V → Prop
  | .non, v => v = .non
  | .bl b, v => v = .bl b
  | .int i, v => v = .int i
  | .str x, v => v = .str x
  | .tup xs, v => ∃ a vs, v = .ref a ∧ SqT G.K s.H a vs ∧ Rvs G s xs vs
  | .lst xs, v => ∃ a vs, v = .ref a ∧ s.H a = some (.lst vs) ∧ ¬ s.Mu a ∧ Rvs G s xs vs
  | .fr xs, v => ∃ a vs, v = .ref a ∧ FzL G s a vs ∧ Rvs G s xs vs
  | .dct kvs, v => ∃ a kws, v = .ref a ∧ s.H a = some (.dK kws) ∧ ¬ s.Mu a ∧ Rkv G s kvs kws
  | .ins c fs, v => ∃ a dx ws, v = .ref a ∧ s.H a = some (.ins (G.ca c) dx ws) ∧ ¬ s.Mu a ∧ Rfs G s fs ws
  | .exo c f x, v => ∃ a dx w, v = .ref a ∧ s.H a = some (exo a (G.ca c) (some dx)) ∧ s.H dx = some (exd dx [(nt f, w)]) ∧ ¬ s.Mu a ∧ ¬ s.Mu dx ∧ Rv G s x w
  | .ref i, v => v = .ref (s.as i) ∧ i < s.st.n
  | .gl k, v => v = .ref (G.ga k)
def Rvs (G : Gm) (s : Sit) : List Val → List V → Prop
  | [], vs => vs = []
  | x :: xs, vs => ∃ w ws, vs = w :: ws ∧ Rv G s x w ∧ Rvs G s xs ws
def Rkv (G : Gm) (s : Sit) : List (Val × Val) → List (Key × V) → Prop
  | [], vs => vs = []
  | (k, x) :: xs, vs => ∃ q w ws, vs = (q, w) :: ws ∧ Rv G s k (kV q) ∧ Rv G s x w ∧ Rkv G s xs ws
def Rfs (G : Gm) (s : Sit) : List (Nat × Val) → List (Str × V) → Prop
  | [], vs => vs = []
  | (m, x) :: xs, vs => ∃ w ws, vs = (nt m, w) :: ws ∧ Rv G s x w ∧ Rfs G s xs ws
end

/-- the store's object o stands as u -/
def Ro (G : Gm) (s : Sit) : Ob → HO → Prop
  | .lst xs, u => ∃ vs, u = .lst vs ∧ Rvs G s xs vs
  | .dct kvs, u => ∃ kws, u = .dK kws ∧ Rkv G s kvs kws
  | .ins c fs, u => ∃ dx ws, u = .ins (G.ca c) dx ws ∧ Rfs G s fs ws

structure Rep (G : Gm) (s : Sit) : Prop where
  lt : ∀ i o, lookN i s.st.m = some o → i < s.st.n
  inj : ∀ i j o o', lookN i s.st.m = some o → lookN j s.st.m = some o' → s.as i = s.as j → i = j
  ob : ∀ i o, lookN i s.st.m = some o → ∃ u, s.H (s.as i) = some u ∧ Ro G s o u

/-- what stays from s to t -/
structure Le (G : Gm) (s t : Sit) : Prop where
  as : ∀ i, i < s.st.n → t.as i = s.as i
  n : s.st.n ≤ t.st.n
  kp : ∀ a o, s.H a = some o → ¬ s.Mu a → t.H a = some o ∧ ¬ t.Mu a

theorem Le.refl {G : Gm} (s : Sit) : Le G s s := ⟨fun _ _ => rfl, Nat.le_refl _, fun _ _ h m => ⟨h, m⟩⟩
theorem Le.trans {G : Gm} {s t u : Sit} (a : Le G s t) (b : Le G t u) : Le G s u :=
  ⟨fun i h => (b.as i (Nat.lt_of_lt_of_le h a.n)).trans (a.as i h), Nat.le_trans a.n b.n, fun x o h m => b.kp x o (a.kp x o h m).1 (a.kp x o h m).2⟩

theorem FzL.le {G : Gm} {s t : Sit} (h : Le G s t) {a : Addr} {vs : List V} (q : FzL G s a vs) : FzL G t a vs := by
  rcases q with ⟨o, q, m⟩ | q
  · exact .inl ⟨o, (h.kp a _ q m).1, (h.kp a _ q m).2⟩
  · exact .inr q
theorem tup_notMu {G : Gm} {s : Sit} (R : Rep G s) {a : Addr} {vs : List V} (q : Rd s.H a (.tup vs)) : ¬ s.Mu a := fun ⟨i, o, h, e⟩ => by
  obtain ⟨u, hu, r⟩ := R.ob i o h
  rw [e] at hu
  rcases q with q | ⟨z, q⟩ <;> rw [q] at hu <;> cases hu <;> cases o <;> simp [Ro] at r
theorem SqT.le {G : Gm} {s t : Sit} (R : Rep G s) (h : Le G s t) {a : Addr} {vs : List V} (q : SqT G.K s.H a vs) : SqT G.K t.H a vs := by
  rcases q with q | q
  · have m := tup_notMu R q
    rcases q with q | ⟨o, q⟩
    · exact .inl (.inl (h.kp a _ q m).1)
    · exact .inl (.inr ⟨o, (h.kp a _ q m).1⟩)
  · exact .inr q

mutual
theorem Rv.le {G : Gm} {s t : Sit} (R : Rep G s) (h : Le G s t) : ∀ (x : Val) (v : V), Rv G s x v → Rv G t x v
  | .non, _, r => r
  | .bl _, _, r => r
  | .int _, _, r => r
  | .str _, _, r => r
  | .tup xs, _, ⟨a, vs, e, q, r⟩ => ⟨a, vs, e, SqT.le R h q, Rvs.le R h xs vs r⟩
  | .lst xs, _, ⟨a, vs, e, q, m, r⟩ => ⟨a, vs, e, (h.kp a _ q m).1, (h.kp a _ q m).2, Rvs.le R h xs vs r⟩
  | .fr xs, _, ⟨a, vs, e, q, r⟩ => ⟨a, vs, e, FzL.le h q, Rvs.le R h xs vs r⟩
  | .dct kvs, _, ⟨a, kws, e, q, m, r⟩ => ⟨a, kws, e, (h.kp a _ q m).1, (h.kp a _ q m).2, Rkv.le R h kvs kws r⟩
  | .ins c fs, _, ⟨a, dx, ws, e, q, m, r⟩ => ⟨a, dx, ws, e, (h.kp a _ q m).1, (h.kp a _ q m).2, Rfs.le R h fs ws r⟩
  | .exo c f x, _, ⟨a, dx, w, e, q, q2, m, m2, r⟩ => ⟨a, dx, w, e, (h.kp a _ q m).1, (h.kp dx _ q2 m2).1, (h.kp a _ q m).2, (h.kp dx _ q2 m2).2, Rv.le R h x w r⟩
  | .ref i, _, ⟨e, l⟩ => ⟨by rw [h.as i l]; exact e, Nat.lt_of_lt_of_le l h.n⟩
  | .gl _, _, r => r
theorem Rvs.le {G : Gm} {s t : Sit} (R : Rep G s) (h : Le G s t) : ∀ (xs : List Val) (vs : List V), Rvs G s xs vs → Rvs G t xs vs
  | [], _, r => r
  | x :: xs, _, ⟨w, ws, e, r, q⟩ => ⟨w, ws, e, Rv.le R h x w r, Rvs.le R h xs ws q⟩
theorem Rkv.le {G : Gm} {s t : Sit} (R : Rep G s) (h : Le G s t) : ∀ (xs : List (Val × Val)) (vs : List (Key × V)), Rkv G s xs vs → Rkv G t xs vs
  | [], _, r => r
  | (k, x) :: xs, _, ⟨q, w, ws, e, r1, r2, r3⟩ => ⟨q, w, ws, e, Rv.le R h k _ r1, Rv.le R h x w r2, Rkv.le R h xs ws r3⟩
theorem Rfs.le {G : Gm} {s t : Sit} (R : Rep G s) (h : Le G s t) : ∀ (xs : List (Nat × Val)) (vs : List (Str × V)), Rfs G s xs vs → Rfs G t xs vs
  | [], _, r => r
  | (m, x) :: xs, _, ⟨w, ws, e, r, q⟩ => ⟨w, ws, e, Rv.le R h x w r, Rfs.le R h xs ws q⟩
end

/-- the heap with a new object that never changes -/
def Sit.lay (s : Sit) (p : Addr) (o : HO) : Sit := ⟨s.as, s.st, upd s.H p o⟩
theorem notMu_new {G : Gm} {s : Sit} (R : Rep G s) {p : Addr} (hp : s.H p = none) : ¬ s.Mu p := fun ⟨i, o, h, e⟩ => by
  obtain ⟨u, hu, _⟩ := R.ob i o h
  rw [e, hp] at hu; cases hu
theorem Le.lay {G : Gm} {s : Sit} {p : Addr} {o : HO} (hp : s.H p = none) : Le G s (s.lay p o) :=
  ⟨fun _ _ => rfl, Nat.le_refl _, fun a u h m => ⟨by show upd s.H p o a = some u; rw [upd_ne (ne_of_none h hp)]; exact h, m⟩⟩
theorem Ro.le {G : Gm} {s t : Sit} (R : Rep G s) (h : Le G s t) {o : Ob} {u : HO} (r : Ro G s o u) : Ro G t o u := by
  cases o with
  | lst xs => obtain ⟨vs, e, r⟩ := r; exact ⟨vs, e, Rvs.le R h _ _ r⟩
  | dct xs => obtain ⟨vs, e, r⟩ := r; exact ⟨vs, e, Rkv.le R h _ _ r⟩
  | ins c fs => obtain ⟨dx, ws, e, r⟩ := r; exact ⟨dx, ws, e, Rfs.le R h _ _ r⟩
theorem Rep.lay {G : Gm} {s : Sit} (R : Rep G s) {p : Addr} {o : HO} (hp : s.H p = none) : Rep G (s.lay p o) :=
  ⟨R.lt, R.inj, fun i ob h => by
    obtain ⟨u, hu, r⟩ := R.ob i ob h
    exact ⟨u, by show upd s.H p o (s.as i) = some u; rw [upd_ne (ne_of_none hu hp)]; exact hu, Ro.le R (Le.lay hp) r⟩⟩

/-! ### the store's list -/
section
variable {α : Type}
theorem lookN_cons {i j : Nat} {x : α} {r : List (Nat × α)} : lookN i ((j, x) :: r) = if i = j then some x else lookN i r := by
  show (match natEq i j with | true => some x | false => lookN i r) = _
  by_cases h : i = j
  · rw [natEq_iff.mpr h, if_pos h]
  · rw [show natEq i j = false from Bool.eq_false_iff.mpr fun q => h (natEq_iff.mp q), if_neg h]
theorem lookN_put {i j : Nat} {x : α} : ∀ {l : List (Nat × α)}, lookN j (putN i x l) = if j = i then some x else lookN j l
  | [] => by
    show lookN j [(i, x)] = _
    rw [lookN_cons]
  | (k, y) :: r => by
    have e : putN i x ((k, y) :: r) = if i = k then (k, x) :: r else (k, y) :: putN i x r := by
      show (match natEq i k with | true => (k, x) :: r | false => (k, y) :: putN i x r) = _
      by_cases h : i = k
      · rw [natEq_iff.mpr h, if_pos h]
      · rw [show natEq i k = false from Bool.eq_false_iff.mpr fun q => h (natEq_iff.mp q), if_neg h]
    rw [e]
    by_cases h : i = k
    · rw [if_pos h, lookN_cons, lookN_cons]
      subst h
      by_cases q : j = i
      · rw [if_pos q, if_pos q]
      · rw [if_neg q, if_neg q, if_neg q]
    · rw [if_neg h, lookN_cons, lookN_cons, lookN_put]
      by_cases q : j = k
      · subst q
        rw [if_pos rfl, if_pos rfl, if_neg (Ne.symm h)]
      · rw [if_neg q, if_neg q]
theorem lookN_drop {i j : Nat} : ∀ {l : List (Nat × α)}, lookN j (dropN i l) = if j = i then none else lookN j l
  | [] => by
    show (none : Option α) = _
    split <;> rfl
  | (k, y) :: r => by
    have e : dropN i ((k, y) :: r) = if i = k then dropN i r else (k, y) :: dropN i r := by
      show (match natEq i k with | true => dropN i r | false => (k, y) :: dropN i r) = _
      by_cases h : i = k
      · rw [natEq_iff.mpr h, if_pos h]
      · rw [show natEq i k = false from Bool.eq_false_iff.mpr fun q => h (natEq_iff.mp q), if_neg h]
    rw [e]
    by_cases h : i = k
    · rw [if_pos h, lookN_drop, lookN_cons]
      subst h
      by_cases q : j = i
      · rw [if_pos q, if_pos q]
      · rw [if_neg q, if_neg q, if_neg q]
    · rw [if_neg h, lookN_cons, lookN_cons, lookN_drop]
      by_cases q : j = k
      · subst q
        rw [if_pos rfl, if_pos rfl, if_neg (Ne.symm h)]
      · rw [if_neg q, if_neg q]
end

/-! ### a new object of the store, at p -/
def Sit.alloc (s : Sit) (p : Addr) (o : Ob) (u : HO) : Sit := ⟨fun i => if i = s.st.n then p else s.as i, s.st.new o, upd s.H p u⟩
section
variable {G : Gm} {s : Sit} {p : Addr} {o : Ob} {u : HO}
theorem alloc_look {i : Nat} : lookN i (s.alloc p o u).st.m = if i = s.st.n then some o else lookN i s.st.m := lookN_cons
theorem alloc_Mu (R : Rep G s) {a : Addr} (h : (s.alloc p o u).Mu a) : a = p ∨ s.Mu a := by
  obtain ⟨i, ob, h1, h2⟩ := h
  rw [alloc_look] at h1
  by_cases e : i = s.st.n
  · left
    rw [← h2]
    exact if_pos e
  · rw [if_neg e] at h1
    refine .inr ⟨i, ob, h1, ?_⟩
    rw [← h2]
    exact (if_neg e).symm
theorem Le.alloc (R : Rep G s) (hp : s.H p = none) : Le G s (s.alloc p o u) where
  as := fun i h => if_neg (Nat.ne_of_lt h)
  n := Nat.le_succ _
  kp := fun a ob h m => by
    have ne : a ≠ p := ne_of_none h hp
    refine ⟨by show upd s.H p u a = some ob; rw [upd_ne ne]; exact h, fun q => ?_⟩
    rcases alloc_Mu R q with q | q
    · exact ne q
    · exact m q
theorem Rep.alloc (R : Rep G s) (hp : s.H p = none) (hr : Ro G (s.alloc p o u) o u) : Rep G (s.alloc p o u) where
  lt := fun i ob h => by
    rw [alloc_look] at h
    by_cases e : i = s.st.n
    · rw [e]; exact Nat.lt_succ_self _
    · rw [if_neg e] at h
      exact Nat.lt_succ_of_lt (R.lt i ob h)
  inj := fun i j o1 o2 h1 h2 e => by
    rw [alloc_look] at h1 h2
    have key : ∀ {i : Nat} {ob : Ob}, lookN i s.st.m = some ob → s.as i ≠ p := fun {i ob} h q => by
      obtain ⟨w, hw, _⟩ := R.ob i ob h
      rw [q, hp] at hw; cases hw
    have e : (if i = s.st.n then p else s.as i) = (if j = s.st.n then p else s.as j) := e
    by_cases hi : i = s.st.n
    · by_cases hj : j = s.st.n
      · rw [hi, hj]
      · rw [if_pos hi, if_neg hj] at e
        rw [if_neg hj] at h2
        exact absurd e.symm (key h2)
    · rw [if_neg hi] at h1
      by_cases hj : j = s.st.n
      · rw [if_neg hi, if_pos hj] at e
        exact absurd e (key h1)
      · rw [if_neg hj] at h2
        rw [if_neg hi, if_neg hj] at e
        exact R.inj i j _ _ h1 h2 e
  ob := fun i ob h => by
    rw [alloc_look] at h
    show ∃ w, upd s.H p u (if i = s.st.n then p else s.as i) = some w ∧ _
    by_cases e : i = s.st.n
    · rw [if_pos e] at h ⊢
      cases h
      exact ⟨u, upd_same, hr⟩
    · rw [if_neg e] at h ⊢
      obtain ⟨w, hw, r⟩ := R.ob i ob h
      exact ⟨w, by rw [upd_ne (ne_of_none hw hp)]; exact hw, Ro.le R (Le.alloc R hp) r⟩
theorem alloc_ref : Rv G (s.alloc p o u) (.ref s.st.n) (.ref p) := by
  refine ⟨?_, Nat.lt_succ_self _⟩
  show V.ref p = V.ref (if s.st.n = s.st.n then p else _)
  rw [if_pos rfl]

/-! ### an object of the store changes -/
def Sit.put (s : Sit) (i : Nat) (o : Ob) (u : HO) : Sit := ⟨s.as, s.st.put i o, upd s.H (s.as i) u⟩
theorem put_look {i j : Nat} : lookN j (s.put i o u).st.m = if j = i then some o else lookN j s.st.m := lookN_put
theorem put_Mu {i : Nat} {o0 : Ob} (h0 : lookN i s.st.m = some o0) {a : Addr} : (s.put i o u).Mu a ↔ s.Mu a := by
  constructor
  · rintro ⟨j, ob, h1, h2⟩
    rw [put_look] at h1
    by_cases e : j = i
    · exact ⟨i, o0, h0, by rw [← e]; exact h2⟩
    · rw [if_neg e] at h1
      exact ⟨j, ob, h1, h2⟩
  · rintro ⟨j, ob, h1, h2⟩
    by_cases e : j = i
    · exact ⟨j, o, by rw [put_look, if_pos e], h2⟩
    · exact ⟨j, ob, by rw [put_look, if_neg e]; exact h1, h2⟩
theorem Le.put {i : Nat} {o0 : Ob} (h0 : lookN i s.st.m = some o0) : Le G s (s.put i o u) where
  as := fun _ _ => rfl
  n := Nat.le_refl _
  kp := fun a ob h m => by
    have ne : a ≠ s.as i := fun e => m ⟨i, o0, h0, e.symm⟩
    exact ⟨by show upd s.H (s.as i) u a = some ob; rw [upd_ne ne]; exact h, fun q => m ((put_Mu h0).mp q)⟩
theorem Rep.put (R : Rep G s) {i : Nat} {o0 : Ob} (h0 : lookN i s.st.m = some o0) (hr : Ro G (s.put i o u) o u) : Rep G (s.put i o u) where
  lt := fun j ob h => by
    rw [put_look] at h
    by_cases e : j = i
    · rw [e]; exact R.lt i o0 h0
    · rw [if_neg e] at h; exact R.lt j ob h
  inj := fun a b o1 o2 h1 h2 e => by
    rw [put_look] at h1 h2
    have look : ∀ {a : Nat} {o1 : Ob}, (if a = i then some o else lookN a s.st.m) = some o1 → ∃ o2, lookN a s.st.m = some o2 := fun {a o1} h => by
      by_cases q : a = i
      · exact ⟨o0, by rw [q]; exact h0⟩
      · rw [if_neg q] at h; exact ⟨_, h⟩
    obtain ⟨x1, y1⟩ := look h1
    obtain ⟨x2, y2⟩ := look h2
    exact R.inj a b _ _ y1 y2 e
  ob := fun j ob h => by
    rw [put_look] at h
    show ∃ w, upd s.H (s.as i) u (s.as j) = some w ∧ _
    by_cases e : j = i
    · subst e
      rw [if_pos rfl] at h
      cases h
      exact ⟨u, upd_same, hr⟩
    · rw [if_neg e] at h
      obtain ⟨w, hw, r⟩ := R.ob j ob h
      have ne : s.as j ≠ s.as i := fun q => e (R.inj j i _ _ h h0 q)
      exact ⟨w, by rw [upd_ne ne]; exact hw, Ro.le R (Le.put h0) r⟩

/-! ### an object of the store is kept as it is -/
def Sit.drop (s : Sit) (i : Nat) : Sit := ⟨s.as, s.st.drop i, s.H⟩
theorem drop_look {i j : Nat} : lookN j (s.drop i).st.m = if j = i then none else lookN j s.st.m := lookN_drop
theorem drop_Mu (R : Rep G s) {i : Nat} {a : Addr} (h : (s.drop i).Mu a) : s.Mu a ∧ ∀ o0, lookN i s.st.m = some o0 → a ≠ s.as i := by
  obtain ⟨j, ob, h1, h2⟩ := h
  rw [drop_look] at h1
  by_cases e : j = i
  · rw [if_pos e] at h1; cases h1
  · rw [if_neg e] at h1
    refine ⟨⟨j, ob, h1, h2⟩, fun o0 h0 q => e (R.inj j i _ _ h1 h0 (h2.trans q))⟩
theorem Le.drop (R : Rep G s) {i : Nat} : Le G s (s.drop i) :=
  ⟨fun _ _ => rfl, Nat.le_refl _, fun a o h m => ⟨h, fun q => m (drop_Mu R q).1⟩⟩
theorem Rep.drop (R : Rep G s) {i : Nat} : Rep G (s.drop i) where
  lt := fun j ob h => by
    rw [drop_look] at h
    by_cases e : j = i
    · rw [if_pos e] at h; cases h
    · rw [if_neg e] at h; exact R.lt j ob h
  inj := fun a b o1 o2 h1 h2 e => by
    rw [drop_look] at h1 h2
    by_cases q : a = i
    · rw [if_pos q] at h1; cases h1
    · by_cases q' : b = i
      · rw [if_pos q'] at h2; cases h2
      · rw [if_neg q] at h1
        rw [if_neg q'] at h2
        exact R.inj a b _ _ h1 h2 e
  ob := fun j ob h => by
    rw [drop_look] at h
    by_cases e : j = i
    · rw [if_pos e] at h; cases h
    · rw [if_neg e] at h
      obtain ⟨w, hw, r⟩ := R.ob j ob h
      exact ⟨w, hw, Ro.le R (Le.drop R) r⟩
end

/-! ### readings -/
section
variable {G : Gm} {s : Sit}
theorem Rvs.length : ∀ {xs : List Val} {vs : List V}, Rvs G s xs vs → xs.length = vs.length
  | [], _, h => by
    have e : _ = [] := h
    rw [e]; rfl
  | x :: xs, _, ⟨w, ws, e, _, r⟩ => by rw [e, List.length_cons, List.length_cons, Rvs.length r]
theorem Rvs.get : ∀ {xs : List Val} {vs : List V} {j : Nat} {x : Val}, Rvs G s xs vs → xs[j]? = some x → ∃ v, vs[j]? = some v ∧ Rv G s x v
  | [], _, _, _, _, h => by simp at h
  | y :: ys, _, 0, x, ⟨w, ws, e, r, _⟩, h => by
    simp at h
    subst h; subst e
    exact ⟨w, rfl, r⟩
  | y :: ys, _, j + 1, x, ⟨w, ws, e, _, r⟩, h => by
    subst e
    obtain ⟨v, h1, h2⟩ := Rvs.get (j := j) r (by simpa using h)
    exact ⟨v, by simpa using h1, h2⟩
theorem Rvs.append : ∀ {xs ys : List Val} {vs ws : List V}, Rvs G s xs vs → Rvs G s ys ws → Rvs G s (xs ++ ys) (vs ++ ws)
  | [], _, _, _, h, q => by
    have e : _ = [] := h
    rw [e]; exact q
  | x :: xs, _, _, _, ⟨w, ws, e, r, t⟩, q => by
    subst e
    exact ⟨w, _, rfl, r, Rvs.append t q⟩
theorem Rvs.set : ∀ {xs : List Val} {vs : List V} {x : Val} {v : V} (j : Nat), Rvs G s xs vs → Rv G s x v → Rvs G s (xs.set j x) (vs.set j v)
  | [], _, _, _, _, h, _ => by
    have e : _ = [] := h
    rw [e]; rfl
  | y :: ys, _, x, v, 0, ⟨w, ws, e, r, t⟩, q => by
    subst e
    exact ⟨v, ws, rfl, q, t⟩
  | y :: ys, _, x, v, j + 1, ⟨w, ws, e, r, t⟩, q => by
    subst e
    exact ⟨w, _, rfl, r, Rvs.set j t q⟩
theorem Rvs.drop : ∀ {xs : List Val} {vs : List V} (n : Nat), Rvs G s xs vs → Rvs G s (xs.drop n) (vs.drop n)
  | _, _, 0, h => h
  | [], _, n + 1, h => by
    have e : _ = [] := h
    rw [e]; rfl
  | x :: xs, _, n + 1, ⟨w, ws, e, r, t⟩ => by
    subst e
    exact Rvs.drop n t
theorem Rvs.take : ∀ {xs : List Val} {vs : List V} (n : Nat), Rvs G s xs vs → Rvs G s (xs.take n) (vs.take n)
  | _, _, 0, h => by simp [Rvs]
  | [], _, n + 1, h => by
    have e : _ = [] := h
    rw [e]; rfl
  | x :: xs, _, n + 1, ⟨w, ws, e, r, t⟩ => by
    subst e
    exact ⟨w, _, rfl, r, Rvs.take n t⟩
theorem asL_rel {v : Val} {u : V} {xs : List Val} (R : Rep G s) (h : asL s.st v = some xs) (r : Rv G s v u) : ∃ a vs, u = .ref a ∧ s.H a = some (.lst vs) ∧ Rvs G s xs vs := by
  cases v with
  | lst ys =>
    cases h
    obtain ⟨a, vs, e, q, _, r⟩ := r
    exact ⟨a, vs, e, q, r⟩
  | ref i =>
    have h : (match lookN i s.st.m with | some (.lst xs) => some xs | _ => none) = some xs := h
    obtain ⟨e, _⟩ := r
    cases q : lookN i s.st.m with
    | none => rw [q] at h; cases h
    | some o =>
      rw [q] at h
      obtain ⟨w, hw, ro⟩ := R.ob i o q
      cases o with
      | lst ys =>
        cases h
        obtain ⟨vs, e2, r2⟩ := ro
        subst e2
        exact ⟨_, vs, e, hw, r2⟩
      | _ => cases h
  | _ => cases h
theorem asLr_rel {v : Val} {u : V} {xs : List Val} (R : Rep G s) (h : asLr s.st v = some xs) (r : Rv G s v u) : ∃ a vs, u = .ref a ∧ SqL G.K s.H a vs ∧ Rvs G s xs vs := by
  have go : asL s.st v = some xs → ∃ a vs, u = .ref a ∧ SqL G.K s.H a vs ∧ Rvs G s xs vs := fun h => by
    obtain ⟨a, vs, e, q, r2⟩ := asL_rel R h r
    exact ⟨a, vs, e, SqL.of q, r2⟩
  cases v with
  | fr ys =>
    cases h
    obtain ⟨a, vs, e, q, r2⟩ := r
    exact ⟨a, vs, e, q.sq, r2⟩
  | lst ys => exact go h
  | ref i => exact go h
  | _ => cases h
theorem asI_rel {v : Val} {u : V} {c : Nat} {fs : List (Nat × Val)} (R : Rep G s) (h : asI s.st v = some (c, fs)) (r : Rv G s v u) : ∃ a dx ws, u = .ref a ∧ s.H a = some (.ins (G.ca c) dx ws) ∧ Rfs G s fs ws := by
  cases v with
  | ins c' gs =>
    cases h
    obtain ⟨a, dx, ws, e, q, _, r⟩ := r
    exact ⟨a, dx, ws, e, q, r⟩
  | ref i =>
    have h : (match lookN i s.st.m with | some (.ins c fs) => some (c, fs) | _ => none) = some (c, fs) := h
    obtain ⟨e, _⟩ := r
    cases q : lookN i s.st.m with
    | none => rw [q] at h; cases h
    | some o =>
      rw [q] at h
      obtain ⟨w, hw, ro⟩ := R.ob i o q
      cases o with
      | ins c' gs =>
        cases h
        obtain ⟨dx, ws, e2, r2⟩ := ro
        subst e2
        exact ⟨_, dx, ws, e, hw, r2⟩
      | _ => cases h
  | _ => cases h

theorem Rfs.some : ∀ {fs : List (Nat × Val)} {ws : List (Str × V)} {m : Nat} {x : Val}, Rfs G s fs ws → lookN m fs = some x → ∃ w, ws.lookup (nt m) = some w ∧ Rv G s x w
  | [], _, _, _, _, h => by cases h
  | (k, y) :: fs, _, m, x, ⟨w, ws, e, r, q⟩, h => by
    subst e
    rw [lookN_cons] at h
    by_cases c : m = k
    · subst c
      rw [if_pos rfl] at h
      cases h
      exact ⟨w, by simp, r⟩
    · rw [if_neg c] at h
      obtain ⟨v, h1, h2⟩ := Rfs.some q h
      refine ⟨v, ?_, h2⟩
      rw [List.lookup_cons, show (nt m == nt k) = false from beq_eq_false_iff_ne.mpr fun z => c (nt_inj z)]
      exact h1
theorem Rfs.none : ∀ {fs : List (Nat × Val)} {ws : List (Str × V)} {m : Nat}, Rfs G s fs ws → lookN m fs = none → ws.lookup (nt m) = none
  | [], _, _, h, _ => by
    have e : _ = [] := h
    rw [e]; rfl
  | (k, y) :: fs, _, m, ⟨w, ws, e, r, q⟩, h => by
    subst e
    rw [lookN_cons] at h
    by_cases c : m = k
    · rw [if_pos c] at h; cases h
    · rw [if_neg c] at h
      rw [List.lookup_cons, show (nt m == nt k) = false from beq_eq_false_iff_ne.mpr fun z => c (nt_inj z)]
      exact Rfs.none q h
theorem Rfs.length : ∀ {fs : List (Nat × Val)} {ws : List (Str × V)}, Rfs G s fs ws → fs.length = ws.length
  | [], _, h => by
    have e : _ = [] := h
    rw [e]; rfl
  | (k, y) :: fs, _, ⟨w, ws, e, r, q⟩ => by rw [e, List.length_cons, List.length_cons, Rfs.length q]
theorem Rfs.put : ∀ {fs : List (Nat × Val)} {ws : List (Str × V)} {m : Nat} {x : Val} {v : V}, Rfs G s fs ws → Rv G s x v → Rfs G s (putN m x fs) (putF (nt m) v ws)
  | [], _, m, x, v, h, r => by
    have e : _ = [] := h
    rw [e]
    exact ⟨v, [], rfl, r, rfl⟩
  | (k, y) :: fs, _, m, x, v, ⟨w, ws, e, r1, q⟩, r => by
    subst e
    have e1 : putN m x ((k, y) :: fs) = if m = k then (k, x) :: fs else (k, y) :: putN m x fs := by
      show (match natEq m k with | true => (k, x) :: fs | false => (k, y) :: putN m x fs) = _
      by_cases h : m = k
      · rw [natEq_iff.mpr h, if_pos h]
      · rw [show natEq m k = false from Bool.eq_false_iff.mpr fun q => h (natEq_iff.mp q), if_neg h]
    have e2 : putF (nt m) v ((nt k, w) :: ws) = if nt k = nt m then (nt k, v) :: ws else (nt k, w) :: putF (nt m) v ws := rfl
    rw [e1, e2]
    by_cases h : m = k
    · subst h
      rw [if_pos rfl, if_pos rfl]
      exact ⟨v, ws, rfl, r, q⟩
    · rw [if_neg h, if_neg fun z => h (nt_inj z).symm]
      exact ⟨w, _, rfl, r1, Rfs.put q r⟩

/-! ### data -/
mutual
theorem toD_rel : ∀ {v : Val} {u : V} {d : PyData}, toD v = some d → Rv G s v u → Dp G.K s.H u d
  | .non, _, _, h, r => by
    cases h
    have e : _ = V.non := r
    rw [e]; exact .non
  | .bl b, _, _, h, r => by
    cases h
    have e : _ = V.bl b := r
    rw [e]; exact .bl b
  | .int i, _, _, h, r => by
    cases h
    have e : _ = V.int i := r
    rw [e]; exact .int i
  | .str x, _, _, h, r => by
    cases h
    have e : _ = V.str x := r
    rw [e]; exact .str x
  | .tup xs, _, _, h, r => by
    obtain ⟨ds, h1, h2⟩ := Option.map_eq_some_iff.mp h
    obtain ⟨a, vs, e, q, r2⟩ := r
    subst e; subst h2
    exact .tup q (toDs_rel h1 r2)
  | .lst xs, _, _, h, r => by
    obtain ⟨ds, h1, h2⟩ := Option.map_eq_some_iff.mp h
    obtain ⟨a, vs, e, q, _, r2⟩ := r
    subst e; subst h2
    exact .lst (SqL.of q) (toDs_rel h1 r2)
  | .fr xs, _, _, h, r => by
    obtain ⟨ds, h1, h2⟩ := Option.map_eq_some_iff.mp h
    obtain ⟨a, vs, e, q, r2⟩ := r
    subst e; subst h2
    exact .lst q.sq (toDs_rel h1 r2)
  | .dct _, _, _, h, _ => by cases h
  | .ins _ _, _, _, h, _ => by cases h
  | .exo _ _ _, _, _, h, _ => by cases h
  | .ref _, _, _, h, _ => by cases h
  | .gl _, _, _, h, _ => by cases h
theorem toDs_rel : ∀ {xs : List Val} {vs : List V} {ds : List PyData}, toDs xs = some ds → Rvs G s xs vs → DpAll G.K s.H vs ds
  | [], _, _, h, r => by
    cases h
    have e : _ = [] := r
    rw [e]; exact .nil
  | x :: xs, _, _, h, ⟨w, ws, e, r1, r2⟩ => by
    subst e
    have h : (match toD x, toDs xs with | some d, some ds => some (d :: ds) | _, _ => none) = some _ := h
    cases q1 : toD x with
    | none => rw [q1] at h; cases h
    | some d =>
      cases q2 : toDs xs with
      | none => rw [q1, q2] at h; cases h
      | some ds =>
        rw [q1, q2] at h
        cases h
        exact .cons (toD_rel q1 r1) (toDs_rel q2 r2)
end
theorem toD0_rel {v : Val} {u : V} {d : PyData} (R : Rep G s) (h : toD0 s.st v = some d) (r : Rv G s v u) : Dp G.K s.H u d := by
  unfold toD0 at h
  cases q : asL s.st v with
  | none =>
    rw [q] at h
    exact toD_rel h r
  | some xs =>
    rw [q] at h
    obtain ⟨ds, h1, h2⟩ := Option.map_eq_some_iff.mp h
    obtain ⟨a, vs, e, q1, r2⟩ := asL_rel R q r
    subst e; subst h2
    exact .lst (SqL.of q1) (toDs_rel h1 r2)
end
end Ev

set_option Elab.async false
set_option linter.all false
set_option maxRecDepth 100000
/-! Ev.Snd1: what the evaluator says, as a reading; operators. -/
namespace Ev
open PySem PySem.Spec PyProof.Rows L2

def Out {α : Type} (G : Gm) (s : Sit) (r : R α) (ok : α → Sit → Prop) (ex : Nat → Val → Sit → Prop) : Prop := match r with
  | .ok a st => ∀ t, Le G s t → Rep G t → t.st = st → ok a t
  | .exc c v st => ∀ t, Le G s t → Rep G t → t.st = st → ex c v t
  | .bad => False
section
variable {α β : Type} {G : Gm} {s t : Sit} {r : R α} {ok ok' : α → Sit → Prop} {ex ex' : Nat → Val → Sit → Prop}
theorem Out.mono (h : Out G s r ok ex) (h1 : ∀ a t, Le G s t → Rep G t → ok a t → ok' a t) (h2 : ∀ c v t, Le G s t → Rep G t → ex c v t → ex' c v t) : Out G s r ok' ex' := by
  cases r with
  | ok a st => exact fun t l p e => h1 a t l p (h t l p e)
  | exc c v st => exact fun t l p e => h2 c v t l p (h t l p e)
  | bad => exact h
theorem Out.on (h : Out G s r ok ex) (l : Le G s t) : Out G t r ok ex := by
  cases r with
  | ok a st => exact fun u l2 p e => h u (l.trans l2) p e
  | exc c v st => exact fun u l2 p e => h u (l.trans l2) p e
  | bad => exact h
theorem Out.bind {f : α → St → R β} {okb : β → Sit → Prop} (h : Out G s (r.andThen f) okb ex) : Out G s r (fun a t => Out G t (f a t.st) okb ex) ex := by
  cases r with
  | ok a st =>
    intro t l p e
    subst e
    exact Out.on (r := f a t.st) h l
  | exc c v st => exact h
  | bad => exact h
theorem Out.ofO {o : Option α} {st : St} (h : Out G s (ofO o st) ok ex) : ∃ a, o = some a ∧ ∀ t, Le G s t → Rep G t → t.st = st → ok a t := by
  cases o with
  | none => exact h.elim
  | some a => exact ⟨a, rfl, h⟩
end

/-- the slots -/
structure EnvR (G : Gm) (s : Sit) (env : Env) (σ : L2.St) : Prop where
  len : env.length = σ.length
  at_ : ∀ (i : Nat) (x : Val), env[i]? = some (some x) → ∃ v : V, (show List (Option V) from σ)[i]? = some (some v) ∧ Rv G s x v
theorem EnvR.le {G : Gm} {s t : Sit} {env : Env} {σ : L2.St} (E : EnvR G s env σ) (R : Rep G s) (l : Le G s t) : EnvR G t env σ :=
  ⟨E.len, fun i x h => let ⟨v, h1, h2⟩ := E.at_ i x h; ⟨v, h1, Rv.le R l _ _ h2⟩⟩
theorem EnvR.set {G : Gm} {s : Sit} {env : Env} {σ : L2.St} (E : EnvR G s env σ) (i : Nat) {x : Val} {v : V} (r : Rv G s x v) : EnvR G s (env.set i (some x)) (σ.set i (some v)) := by
  refine ⟨by rw [List.length_set, List.length_set, E.len], fun j y h => ?_⟩
  by_cases e : i = j
  · subst e
    by_cases hi : i < env.length
    · rw [List.getElem?_set_self hi] at h
      cases h
      exact ⟨v, by rw [List.getElem?_set_self (by rw [← E.len]; exact hi)], r⟩
    · rw [List.getElem?_eq_none (by rw [List.length_set]; omega)] at h
      cases h
  · rw [List.getElem?_set_ne e] at h
    obtain ⟨w, h1, h2⟩ := E.at_ j y h
    exact ⟨w, by rw [List.getElem?_set_ne e]; exact h1, h2⟩

/-- an exception as it flies: its class, its own dict -/
def XR (G : Gm) (s : Sit) (c : Nat) (v : Val) (cls : Value) (d : Option Addr) : Prop :=
  cls = .ref (G.ca c) ∧ ∃ dx f u, d = some dx ∧ s.H dx = some (.xd [(f, u)]) ∧ ¬ s.Mu dx ∧ Rv G s v u

/-- the reading of an expression's evaluation -/
def tR (G : Gm) (W : WX) (f : Env → St → R Val) : TE := fun σ H Q => ∃ s env, s.H = H ∧ Rep G s ∧ EnvR G s env σ ∧
  Out G s (f env s.st) (fun v t => ∀ u, Rv G t v u → Q u t.H) (fun c v t => ∀ cls d, XR G t c v cls d → W cls d σ t.H)
/-- .. of a list of arguments -/
def tA (G : Gm) (W : WX) (f : Env → St → R (List Val)) : TA := fun σ H Q => ∃ s env, s.H = H ∧ Rep G s ∧ EnvR G s env σ ∧
  Out G s (f env s.st) (fun v t => ∀ u, Rvs G t v u → Q u t.H) (fun c v t => ∀ cls d, XR G t c v cls d → W cls d σ t.H)
/-- .. of a test -/
def tT (G : Gm) (W : WX) (f : Env → St → R Val) : TT := fun σ H Q => ∃ s env, s.H = H ∧ Rep G s ∧ EnvR G s env σ ∧
  Out G s (f env s.st) (fun v t => ∃ b, truV t.st v = some b ∧ Q b t.H) (fun c v t => ∀ cls d, XR G t c v cls d → W cls d σ t.H)

theorem PE_imp {X : Cx} {e : Expr} {t t' : TE} (h : PE X e t) (i : ∀ σ H Q, t' σ H Q → t σ H Q) : PE X e t' := ⟨fun pins s σ H Q I q => h.run pins s σ H Q I (i σ H Q q)⟩
theorem PT_imp {X : Cx} {e : Expr} {t t' : TT} (h : PT X e t) (i : ∀ σ H Q, t' σ H Q → t σ H Q) : PT X e t' := ⟨fun pins s σ H Q I q => h.run pins s σ H Q I (i σ H Q q)⟩
theorem PA_imp {X : Cx} {e : List Expr} {t t' : TA} (h : PA X e t) (i : ∀ σ H Q, t' σ H Q → t σ H Q) : PA X e t' := ⟨fun pos pins s σ H Q I q => h.run pos pins s σ H Q I (i σ H Q q)⟩
theorem PS_imp {X : Cx} {e : Stmt} {t t' : TS} (h : PS X e t) (i : ∀ D σ H, t' D σ H → t D σ H) : PS X e t' := ⟨fun pins s σ H D I q => h.run pins s σ H D I (i D σ H q)⟩
theorem PSs_imp {X : Cx} {e : List Stmt} {t t' : TS} (h : PSs X e t) (i : ∀ D σ H, t' D σ H → t D σ H) : PSs X e t' := ⟨fun pins s σ H D I q => h.run pins s σ H D I (i D σ H q)⟩

/-- an operation on two values, by the evaluator's own -/
def r2 (G : Gm) (f : St → Val → Val → R Val) : R2 := fun x y H Q => ∃ t vx vy, t.H = H ∧ Rep G t ∧ Rv G t vx x ∧ Rv G t vy y ∧ Out G t (f t.st vx vy) (fun v t' => ∀ u, Rv G t' v u → Q u t'.H) (fun _ _ _ => True)
section
variable {G : Gm} {W : WX} {fa fb : Env → St → R Val} {f : St → Val → Val → R Val}
theorem tOp_of {σ : L2.St} {H : Hp} {Q : VK} (h : tR G W (fun env s => (fa env s).andThen fun x s1 => (fb env s1).andThen fun y s2 => f s2 x y) σ H Q) : tOp (r2 G f) (tR G W fa) (tR G W fb) σ H Q := by
  obtain ⟨s, env, e, R, E, o⟩ := h
  subst e
  refine ⟨s, env, rfl, R, E, o.bind.mono (fun v t l p o2 u ru => ?_) fun _ _ _ _ _ x => x⟩
  refine ⟨t, env, rfl, p, E.le R l, o2.bind.mono (fun v2 t2 l2 p2 o3 u2 ru2 => ?_) fun _ _ _ _ _ x => x⟩
  exact ⟨t2, v, v2, rfl, p2, Rv.le p l2 _ _ ru, ru2, o3.mono (fun _ _ _ _ x => x) fun _ _ _ _ _ _ => True.intro⟩
end

section
variable {X : Cx} {G : Gm}
/-- the end of an operation that gives v and leaves the heap -/
theorem Out.now {s : Sit} {v : Val} {ok : Val → Sit → Prop} {ex : Nat → Val → Sit → Prop} (R : Rep G s) (h : Out G s (.ok v s.st) ok ex) : ok v s := h s (Le.refl s) R rfl
/-- .. lays a new object that never changes -/
theorem Out.laid {s : Sit} {v : Val} {p : Addr} {o : HO} {ok : Val → Sit → Prop} {ex : Nat → Val → Sit → Prop} (R : Rep G s) (hp : s.H p = none) (h : Out G s (.ok v s.st) ok ex) : ok v (s.lay p o) := h _ (Le.lay hp) (Rep.lay R hp) rfl
theorem lay_at {s : Sit} {p : Addr} {o : HO} : (s.lay p o).H p = some o := upd_same
theorem lay_lst {s : Sit} {p : Addr} {xs : List Val} {vs : List V} (R : Rep G s) (hp : s.H p = none) (r : Rvs G s xs vs) : Rv G (s.lay p (.lst vs)) (.lst xs) (.ref p) :=
  ⟨p, vs, rfl, lay_at, notMu_new R hp, Rvs.le R (Le.lay hp) _ _ r⟩
theorem lay_tup {s : Sit} {p : Addr} {xs : List Val} {vs : List V} (R : Rep G s) (hp : s.H p = none) (r : Rvs G s xs vs) : Rv G (s.lay p (.tup vs)) (.tup xs) (.ref p) :=
  ⟨p, vs, rfl, SqT.of lay_at, Rvs.le R (Le.lay hp) _ _ r⟩

theorem leN_iff {a b : Nat} : leN a b = true ↔ a ≤ b := ⟨Nat.le_of_ble_eq_true, Nat.ble_eq_true_of_le⟩
theorem SL_eq : SL = sizeLine := by rw [sizeLine_eq]; rfl
theorem ite_out {c : Bool} {r : R Val} {s : Sit} {ok : Val → Sit → Prop} {ex : Nat → Val → Sit → Prop} (h : Out G s (match c with | true => r | false => .bad) ok ex) : c = true ∧ Out G s r ok ex := by
  cases c with
  | true => exact ⟨rfl, h⟩
  | false => exact h.elim

theorem op_add_r (hK : X.K = G.K) : OpR X (binaryOp .Add) (r2 G (binV .add)) := by
  intro pins s σ H x y v u Q I rx ry h
  obtain ⟨t, vx, vy, e, R, r1, r3, o⟩ := h
  subst e
  -- two lists
  have lists : (∃ a b, asL t.st vx = some a ∧ asL t.st vy = some b ∧ a.length + b.length ≤ sizeLine ∧ Out G t (.ok (.lst (a ++ b)) t.st) (fun v t' => ∀ u, Rv G t' v u → Q u t'.H) (fun _ _ _ => True)) →
      wpAny (model X.prog X.w) X.A (binaryOp .Add v u) (EP X pins σ Q) X.xe s := by
    rintro ⟨a, b, h1, h2, hl, o⟩
    obtain ⟨p, vs, ep, hp, q1⟩ := asL_rel R h1 r1
    obtain ⟨p2, vs2, ep2, hp2, q2⟩ := asL_rel R h2 r3
    subst ep; subst ep2
    refine op_cat pins s σ t.H _ _ v u Q I rx ry ⟨p, p2, vs, vs2, rfl, rfl, hp, hp2, by rw [← q1.length, ← q2.length]; exact hl, fun z hz => ?_⟩
    exact Out.laid (o := .lst (vs ++ vs2)) R hz o _ (lay_lst R hz (q1.append q2))
  have gen : (match asL t.st vx, asL t.st vy with
      | some a, some b => match leN (a.length + b.length) SL with
        | true => Ev.R.ok (.lst (a ++ b)) t.st
        | false => .bad
      | _, _ => .bad) = binV .add t.st vx vy → wpAny (model X.prog X.w) X.A (binaryOp .Add v u) (EP X pins σ Q) X.xe s := fun e => by
    rw [← e] at o
    cases q1 : asL t.st vx with
    | none => rw [q1] at o; exact o.elim
    | some a =>
      cases q2 : asL t.st vy with
      | none => rw [q1, q2] at o; exact o.elim
      | some b =>
        rw [q1, q2] at o
        obtain ⟨c, o⟩ := ite_out o
        exact lists ⟨a, b, q1, q2, by rw [← SL_eq]; exact leN_iff.mp c, o⟩
  cases vx with
  | int i =>
    cases vy with
    | int j =>
      cases (show x = V.int i from r1)
      cases (show y = V.int j from r3)
      exact op_add pins s σ t.H _ _ v u Q I rx ry ⟨i, j, rfl, rfl, Out.now R o _ rfl⟩
    | _ => exact gen rfl
  | str a =>
    cases vy with
    | str b =>
      cases (show x = V.str a from r1)
      cases (show y = V.str b from r3)
      obtain ⟨c, o⟩ := ite_out o
      exact op_add_str pins s σ t.H _ _ v u Q I rx ry ⟨a, b, rfl, rfl, by rw [← SL_eq]; exact leN_iff.mp c, Out.now R o _ rfl⟩
    | _ => exact gen rfl
  | tup xs =>
    cases vy with
    | tup ys =>
      obtain ⟨c, o⟩ := ite_out o
      obtain ⟨p, vs, ep, hp, q1⟩ := r1
      obtain ⟨p2, vs2, ep2, hp2, q2⟩ := r3
      subst ep; subst ep2
      have hl : vs.length + vs2.length ≤ sizeLine := by rw [← q1.length, ← q2.length, ← SL_eq]; exact leN_iff.mp c
      refine op_catA pins s σ t.H _ _ v u Q I rx ry ⟨p, p2, vs, vs2, rfl, rfl, by rw [hK]; exact hp, by rw [hK]; exact hp2, hl, fun e1 => ?_, fun e1 e2 => ?_, fun e1 e2 z hz => ?_⟩
      · have z := Out.now R o
        refine z (.ref p2) ⟨p2, vs2, rfl, hp2, ?_⟩
        have zz := q1.append q2
        rw [e1] at zz
        exact zz
      · have z := Out.now R o
        refine z (.ref p) ⟨p, vs, rfl, hp, ?_⟩
        have zz := q1.append q2
        rw [e2, List.append_nil] at zz
        exact zz
      · exact Out.laid (o := .tup (vs ++ vs2)) R hz o _ (lay_tup R hz (q1.append q2))
    | _ => exact gen rfl
  | _ => exact gen rfl
theorem op_sub_r : OpR X (binaryOp .Sub) (r2 G (binV .sub)) := by
  intro pins s σ H x y v u Q I rx ry h
  obtain ⟨t, vx, vy, e, R, r1, r3, o⟩ := h
  subst e
  cases vx with
  | int i =>
    cases vy with
    | int j =>
      cases (show x = V.int i from r1)
      cases (show y = V.int j from r3)
      exact op_sub pins s σ t.H _ _ v u Q I rx ry ⟨i, j, rfl, rfl, Out.now R o _ rfl⟩
    | _ => exact o.elim
  | _ => cases vy <;> exact o.elim
theorem dec2 {a b : Bool} (h : (a && b) = true) : a = true ∧ b = true := Bool.and_eq_true_iff.mp h
theorem smallI_iff {i : Int} (h : smallI i = true) : -(2 ^ 64) < i ∧ i < 2 ^ 64 := ⟨of_decide_eq_true (dec2 h).1, of_decide_eq_true (dec2 h).2⟩
theorem Rvs.rep {t : Sit} {xs : List Val} {vs : List V} (r : Rvs G t xs vs) : ∀ n : Nat, Rvs G t (List.replicate n xs).flatten (List.replicate n vs).flatten
  | 0 => rfl
  | n + 1 => by
    rw [List.replicate_succ, List.replicate_succ, List.flatten_cons, List.flatten_cons]
    exact r.append (Rvs.rep r n)
theorem op_mul_r : OpR X (binaryOp .Mult) (r2 G (binV .mul)) := by
  intro pins s σ H x y v u Q I rx ry h
  obtain ⟨t, vx, vy, e, R, r1, r3, o⟩ := h
  subst e
  cases vy with
  | int k =>
    cases (show y = V.int k from r3)
    have gen : (match asL t.st vx with
      | some a => match decide (0 ≤ k) && (decide (k < 4611686018427387904) && leN (a.length * k.toNat) SL) with
        | true => Ev.R.ok (.lst (List.replicate k.toNat a).flatten) t.st
        | false => .bad
      | none => .bad) = binV .mul t.st vx (.int k) → wpAny (model X.prog X.w) X.A (binaryOp .Mult v u) (EP X pins σ Q) X.xe s := fun e => by
      rw [← e] at o
      cases q1 : asL t.st vx with
      | none => rw [q1] at o; exact o.elim
      | some a =>
        rw [q1] at o
        obtain ⟨c, o⟩ := ite_out o
        obtain ⟨c1, c2⟩ := dec2 c
        obtain ⟨c2, c3⟩ := dec2 c2
        obtain ⟨p, vs, ep, hp, q2⟩ := asL_rel R q1 r1
        subst ep
        have h1 : 0 ≤ k := of_decide_eq_true c1
        have h2 : k < 4611686018427387904 := of_decide_eq_true c2
        refine op_rep pins s σ t.H _ _ v u Q I rx ry ⟨p, k, vs, rfl, rfl, hp, by omega, by omega, by rw [← q2.length, ← SL_eq]; exact leN_iff.mp c3, fun z hz => ?_⟩
        exact Out.laid (o := .lst (List.replicate k.toNat vs).flatten) R hz o _ (lay_lst R hz (Rvs.rep q2 _))
    cases vx with
    | int i =>
      cases (show x = V.int i from r1)
      obtain ⟨c, o⟩ := ite_out o
      refine op_mul pins s σ t.H _ _ v u Q I rx ry ⟨i, k, rfl, rfl, ?_, Out.now R o _ rfl⟩
      rcases Bool.or_eq_true_iff.mp c with c | c
      · exact .inl (smallI_iff c)
      · exact .inr (smallI_iff c)
    | _ => exact gen rfl
  | _ => cases vx <;> exact o.elim
theorem op_fdiv_r : OpR X (binaryOp .FloorDiv) (r2 G (binV .fdiv)) := by
  intro pins s σ H x y v u Q I rx ry h
  obtain ⟨t, vx, vy, e, R, r1, r3, o⟩ := h
  subst e
  cases vx with
  | int i =>
    cases vy with
    | int j =>
      cases (show x = V.int i from r1)
      cases (show y = V.int j from r3)
      obtain ⟨c, o⟩ := ite_out o
      exact op_fdiv pins s σ t.H _ _ v u Q I rx ry ⟨i, j, rfl, rfl, ⟨of_decide_eq_true (dec2 c).1, of_decide_eq_true (dec2 c).2⟩, Out.now R o _ rfl⟩
    | _ => exact o.elim
  | _ => cases vy <;> exact o.elim
theorem op_mod_r : OpR X (binaryOp .Mod) (r2 G (binV .mod)) := by
  intro pins s σ H x y v u Q I rx ry h
  obtain ⟨t, vx, vy, e, R, r1, r3, o⟩ := h
  subst e
  cases vx with
  | int i =>
    cases vy with
    | int j =>
      cases (show x = V.int i from r1)
      cases (show y = V.int j from r3)
      obtain ⟨c, o⟩ := ite_out o
      exact op_mod pins s σ t.H _ _ v u Q I rx ry ⟨i, j, rfl, rfl, of_decide_eq_true c, Out.now R o _ rfl⟩
    | _ => exact o.elim
  | _ => cases vy <;> exact o.elim
theorem op_pow_r : OpR X (binaryOp .Pow) (r2 G (binV .pow)) := by
  intro pins s σ H x y v u Q I rx ry h
  obtain ⟨t, vx, vy, e, R, r1, r3, o⟩ := h
  subst e
  cases vx with
  | int i =>
    cases vy with
    | int j =>
      cases (show x = V.int i from r1)
      cases (show y = V.int j from r3)
      obtain ⟨c, o⟩ := ite_out o
      obtain ⟨c1, c2⟩ := dec2 c
      obtain ⟨c2, c3⟩ := dec2 c2
      obtain ⟨c4, c5⟩ := smallI_iff c3
      exact op_pow pins s σ t.H _ _ v u Q I rx ry ⟨i, j, rfl, rfl, ⟨of_decide_eq_true c1, of_decide_eq_true c2, by omega⟩, Out.now R o _ rfl⟩
    | _ => exact o.elim
  | _ => cases vy <;> exact o.elim
def opA : Op → Operator
  | .add => .Add
  | .sub => .Sub
  | .mul => .Mult
  | .fdiv => .FloorDiv
  | .mod => .Mod
  | .pow => .Pow
theorem op_bin (hK : X.K = G.K) (op : Op) : OpR X (binaryOp (opA op)) (r2 G (binV op)) := by
  cases op with
  | add => exact op_add_r hK
  | sub => exact op_sub_r
  | mul => exact op_mul_r
  | fdiv => exact op_fdiv_r
  | mod => exact op_mod_r
  | pow => exact op_pow_r
end
end Ev

set_option Elab.async false
set_option linter.all false
set_option maxRecDepth 100000
/-! Ev.Snd2: comparisons, truth, places, slices, built-in functions, by values. -/
namespace Ev
open PySem PySem.Spec PyProof.Rows L2
section
variable {X : Cx} {G : Gm}
theorem eqD_dp {t : Sit} {vx vy : Val} {x y : V} {b : Bool} (R : Rep G t) (h : eqD t.st vx vy = some b) (r1 : Rv G t vx x) (r3 : Rv G t vy y) :
    ∃ d e, Dp G.K t.H x d ∧ Dp G.K t.H y e ∧ SeqAt.shaped d = true ∧ SeqAt.shaped e = true ∧ PyData.eqv d e = b := by
  unfold eqD at h
  cases q1 : toD0 t.st vx with
  | none => rw [q1] at h; cases h
  | some d =>
    cases q2 : toD0 t.st vy with
    | none => rw [q1, q2] at h; cases h
    | some e =>
      rw [q1, q2] at h
      have h : (match SeqAt.shaped d && SeqAt.shaped e with | true => some (PyData.eqv d e) | false => none) = some b := h
      cases q3 : (SeqAt.shaped d && SeqAt.shaped e) with
      | false => rw [q3] at h; cases h
      | true =>
        rw [q3] at h
        obtain ⟨s1, s2⟩ := dec2 q3
        exact ⟨d, e, toD0_rel R q1 r1, toD0_rel R q2 r3, s1, s2, Option.some.inj h⟩
theorem inV_dp {t : Sit} {vx vy : Val} {x y : V} {b : Bool} (R : Rep G t) (h : inV t.st vx vy = some b) (r1 : Rv G t vx x) (r3 : Rv G t vy y) :
    ∃ d ds, Dp G.K t.H x d ∧ Dp G.K t.H y (.list ds) ∧ SeqAt.shaped d = true ∧ SeqAt.shaped (.list ds) = true ∧ (ds.any fun z => PyData.eqv z d) = b := by
  unfold inV at h
  cases q0 : asL t.st vy with
  | none => rw [q0] at h; cases h
  | some ys =>
    rw [q0] at h
    have h : (match toD0 t.st vx, toDs ys with | some d, some ds => (match SeqAt.shaped d && SeqAt.shaped (.list ds) with | true => some (ds.any fun z => PyData.eqv z d) | false => none) | _, _ => none) = some b := h
    cases q1 : toD0 t.st vx with
    | none => rw [q1] at h; cases h
    | some d =>
      cases q2 : toDs ys with
      | none => rw [q1, q2] at h; cases h
      | some ds =>
        rw [q1, q2] at h
        have h : (match SeqAt.shaped d && SeqAt.shaped (.list ds) with | true => some (ds.any fun z => PyData.eqv z d) | false => none) = some b := h
        cases q3 : (SeqAt.shaped d && SeqAt.shaped (.list ds)) with
        | false => rw [q3] at h; cases h
        | true =>
          rw [q3] at h
          obtain ⟨s1, s2⟩ := dec2 q3
          obtain ⟨a, vs, ey, hp, rv⟩ := asL_rel R q0 r3
          subst ey
          exact ⟨d, ds, toD0_rel R q1 r1, .lst (SqL.of hp) (toDs_rel q2 rv), s1, s2, Option.some.inj h⟩
theorem ofO_map {o : Option Bool} {f : Bool → Bool} {t : Sit} {Q : VK} (R : Rep G t) (h : Out G t (ofO (o.map fun b => Val.bl (f b)) t.st) (fun v t' => ∀ u, Rv G t' v u → Q u t'.H) (fun _ _ _ => True)) : ∃ b, o = some b ∧ Q (.bl (f b)) t.H := by
  obtain ⟨a, e, k⟩ := Out.ofO h
  obtain ⟨b, e1, e2⟩ := Option.map_eq_some_iff.mp e
  subst e2
  exact ⟨b, e1, k t (Le.refl t) R rfl _ rfl⟩
def cmA : Cm → CmpOp
  | .eq => .Eq
  | .ne => .NotEq
  | .lt => .Lt
  | .le => .LtE
  | .gt => .Gt
  | .ge => .GtE
  | .is => .Is
  | .isnot => .IsNot
  | .in => .In
  | .notin => .NotIn
theorem isNon_iff {v : Val} {u : V} {t : Sit} (r : Rv G t v u) : isNon v = decide (u = .non) := by
  cases v with
  | non => cases (show u = V.non from r); rfl
  | bl b => cases (show u = V.bl b from r); rfl
  | int b => cases (show u = V.int b from r); rfl
  | str b => cases (show u = V.str b from r); rfl
  | tup xs => obtain ⟨a, vs, e, _⟩ := r; subst e; rfl
  | lst xs => obtain ⟨a, vs, e, _⟩ := r; subst e; rfl
  | fr xs => obtain ⟨a, vs, e, _⟩ := r; subst e; rfl
  | dct xs => obtain ⟨a, vs, e, _⟩ := r; subst e; rfl
  | ins c xs => obtain ⟨a, dx, vs, e, _⟩ := r; subst e; rfl
  | exo c f x => obtain ⟨a, dx, w, e, _⟩ := r; subst e; rfl
  | ref i => obtain ⟨e, _⟩ := r; subst e; rfl
  | gl k => cases (show u = V.ref _ from r); rfl
theorem op_cmp (hK : X.K = G.K) (hu : X.A.units + 65 < cLine) (op : Cm) : OpR X (compareOp (cmA op)) (r2 G (cmpV op)) := by
  intro pins s σ H x y v u Q I rx ry h
  obtain ⟨t, vx, vy, e, R, r1, r3, o⟩ := h
  subst e
  have hu' : X.A.units + 64 < cLine := by omega
  have ii : ∀ {p : Int → Int → Bool}, OpR X (compareOp (cmA op)) (rI0 fun i j => .bl (p i j)) →
      Out G t (match vx, vy with | .int i, .int j => .ok (.bl (p i j)) t.st | _, _ => .bad) (fun v t' => ∀ u, Rv G t' v u → Q u t'.H) (fun _ _ _ => True) →
      wpAny (model X.prog X.w) X.A (compareOp (cmA op) v u) (EP X pins σ Q) X.xe s := fun {p} ho o => by
    cases vx with
    | int i =>
      cases vy with
      | int j =>
        cases (show x = V.int i from r1)
        cases (show y = V.int j from r3)
        exact ho pins s σ t.H _ _ v u Q I rx ry ⟨i, j, rfl, rfl, Out.now R o _ rfl⟩
      | _ => exact o.elim
    | _ => cases vy <;> exact o.elim
  cases op with
  | eq =>
    obtain ⟨b, e, q⟩ := ofO_map (f := id) R o
    obtain ⟨d, e, h1, h2, h3, h4, h5⟩ := eqD_dp R e r1 r3
    exact op_eqD hu' pins s σ t.H _ _ v u Q I rx ry ⟨d, e, by rw [hK]; exact h1, by rw [hK]; exact h2, h3, h4, by rw [h5]; exact q⟩
  | ne =>
    obtain ⟨b, e, q⟩ := ofO_map R o
    obtain ⟨d, e, h1, h2, h3, h4, h5⟩ := eqD_dp R e r1 r3
    exact op_neD hu' pins s σ t.H _ _ v u Q I rx ry ⟨d, e, by rw [hK]; exact h1, by rw [hK]; exact h2, h3, h4, by rw [h5]; exact q⟩
  | lt => exact ii op_lt o
  | le => exact ii op_le o
  | gt => exact ii op_gt o
  | ge => exact ii op_ge o
  | is =>
    cases vy with
    | non =>
      cases (show y = V.non from r3)
      refine op_isN pins s σ t.H _ _ v u Q I rx ry ⟨rfl, ?_⟩
      rw [← isNon_iff r1]
      exact Out.now R o _ rfl
    | _ => exact o.elim
  | isnot =>
    cases vy with
    | non =>
      cases (show y = V.non from r3)
      refine op_notN pins s σ t.H _ _ v u Q I rx ry ⟨rfl, ?_⟩
      rw [← isNon_iff r1]
      exact Out.now R o _ rfl
    | _ => exact o.elim
  | «in» =>
    obtain ⟨b, e, q⟩ := ofO_map (f := id) R o
    obtain ⟨d, ds, h1, h2, h3, h4, h5⟩ := inV_dp R e r1 r3
    exact op_inD hu pins s σ t.H _ _ v u Q I rx ry ⟨d, ds, by rw [hK]; exact h1, by rw [hK]; exact h2, h3, h4, by rw [h5]; exact q⟩
  | notin =>
    obtain ⟨b, e, q⟩ := ofO_map R o
    obtain ⟨d, ds, h1, h2, h3, h4, h5⟩ := inV_dp R e r1 r3
    exact op_notInD hu pins s σ t.H _ _ v u Q I rx ry ⟨d, ds, by rw [hK]; exact h1, by rw [hK]; exact h2, h3, h4, by rw [h5]; exact q⟩

/-! ### truth -/
theorem isEmpty_rel {t : Sit} {xs : List Val} {vs : List V} (r : Rvs G t xs vs) : xs.isEmpty = vs.isEmpty := by
  have h := r.length
  cases xs <;> cases vs <;> simp at h <;> rfl
theorem tru_rel {t : Sit} {x : Val} {v : V} {b : Bool} (R : Rep G t) (h : truV t.st x = some b) (r : Rv G t x v) : TruV G.K v t.H b := by
  have seq : (asLr t.st x).map (fun xs => !xs.isEmpty) = some b → TruV G.K v t.H b := fun h => by
    obtain ⟨xs, h1, h2⟩ := Option.map_eq_some_iff.mp h
    obtain ⟨a, vs, e, q, r2⟩ := asLr_rel R h1 r
    subst e
    exact .inl ⟨vs, q, by rw [← isEmpty_rel r2, h2]⟩
  cases x with
  | non => cases (show v = V.non from r); cases h; rfl
  | bl c => cases (show v = V.bl c from r); cases h; rfl
  | int i => cases (show v = V.int i from r); cases h; rfl
  | str z =>
    cases (show v = V.str z from r)
    have h : (match leN z.length SL with | true => some ((z.length : Int) != 0) | false => none) = some b := h
    cases q : leN z.length SL with
    | false => rw [q] at h; cases h
    | true =>
      rw [q] at h
      exact ⟨by rw [← SL_eq]; exact leN_iff.mp q, (Option.some.inj h).symm⟩
  | tup xs =>
    cases h
    obtain ⟨a, vs, e, q, r2⟩ := r
    subst e
    exact .inr (.inl ⟨vs, q, by rw [isEmpty_rel r2]⟩)
  | lst xs => exact seq h
  | fr xs => exact seq h
  | ref i => exact seq h
  | dct kvs => exact seq h
  | ins c fs => exact seq h
  | exo c f x => exact seq h
  | gl k => exact seq h

/-! ### places -/
theorem ixN_of {xs : List Val} {vs : List V} {t : Sit} {i : Int} {x : Val} (r : Rvs G t xs vs) (h : L2.atI xs i = some x) : ∃ v, L2.atI vs i = some v ∧ Rv G t x v := by
  unfold L2.atI at h ⊢
  rw [← r.length]
  cases q : L2.ixN xs.length i with
  | none => rw [q] at h; cases h
  | some j =>
    rw [q] at h
    exact r.get h
theorem ix_r (hK : X.K = G.K) : IxR X (r2 G ixV) := by
  intro value slice pins s σ H x y v u Q I rx ry h hs
  obtain ⟨t, vx, vy, e, R, r1, r3, o⟩ := h
  subst e
  cases vy with
  | int i =>
    cases (show y = V.int i from r3)
    have seq : Out G t (match asLr t.st vx with | some xs => ofO (L2.atI xs i) t.st | none => .bad) (fun v t' => ∀ u, Rv G t' v u → Q u t'.H) (fun _ _ _ => True) →
        wpAny (model X.prog X.w) X.A (subscriptTail value slice v u) (EP X pins σ Q) X.xe s := fun o => by
      cases q : asLr t.st vx with
      | none => rw [q] at o; exact o.elim
      | some xs =>
        rw [q] at o
        obtain ⟨a, h1, k⟩ := Out.ofO o
        obtain ⟨p, vs, ep, hp, rv⟩ := asLr_rel R q r1
        subst ep
        obtain ⟨w, h2, r4⟩ := ixN_of rv h1
        exact ix_list value slice pins s σ t.H _ _ v u Q I rx ry ⟨p, vs, i, w, rfl, rfl, by rw [hK]; exact hp, h2, k t (Le.refl t) R rfl _ r4⟩ hs
    cases vx with
    | tup xs =>
      obtain ⟨a, h1, k⟩ := Out.ofO o
      obtain ⟨p, vs, ep, hp, rv⟩ := r1
      subst ep
      obtain ⟨w, h2, r4⟩ := ixN_of rv h1
      exact ix_tup value slice pins s σ t.H _ _ v u Q I rx ry ⟨p, vs, i, w, rfl, rfl, by rw [hK]; exact hp, h2, k t (Le.refl t) R rfl _ r4⟩ hs
    | str z =>
      cases (show x = V.str z from r1)
      obtain ⟨c, o⟩ := ite_out o
      obtain ⟨a, h1, k⟩ := Out.ofO o
      obtain ⟨c', h2, h3⟩ := Option.map_eq_some_iff.mp h1
      subst h3
      exact ix_str value slice pins s σ t.H _ _ v u Q I rx ry ⟨z, i, c', rfl, rfl, by rw [← SL_eq]; exact leN_iff.mp c, h2, k t (Le.refl t) R rfl _ rfl⟩ hs
    | _ => exact seq o
  | _ => exact o.elim

/-! ### slices -/
theorem cut_rel {t : Sit} {xs : List Val} {vs : List V} (r : Rvs G t xs vs) (lo hi : Option Int) : Rvs G t (cutL xs lo hi) (cutV vs lo hi) := by
  unfold cutL cutV
  rw [← r.length]
  exact (r.drop _).take _
theorem cut_whole {xs : List Val} {lo hi : Option Int} (h : HT.sIx xs.length 0 lo = 0 ∧ HT.sIx xs.length xs.length hi = xs.length) : cutL xs lo hi = xs := by
  unfold cutL
  rw [h.1, h.2]
  simp
/-- a slice, by the evaluator's own -/
def rSl (G : Gm) : V → Option Int → Option Int → Hp → VK → Prop := fun x lo hi H Q => ∃ t vx, t.H = H ∧ Rep G t ∧ Rv G t vx x ∧ Out G t (slV t.st vx lo hi) (fun v t' => ∀ u, Rv G t' v u → Q u t'.H) (fun _ _ _ => True)
theorem sl_r (hK : X.K = G.K) : SlR X (rSl G) := by
  intro pins s σ H x v vl vu lo hi sl Q I rx hs pl pu h
  obtain ⟨t, vx, e, R, r1, o⟩ := h
  subst e
  have seq : Out G t (match asLr t.st vx with | some xs => .ok (.lst (cutL xs lo hi)) t.st | none => .bad) (fun v t' => ∀ u, Rv G t' v u → Q u t'.H) (fun _ _ _ => True) →
      ∃ T id, typeLookup (.type T) "__getitem__" = pure (some (.builtin id)) ∧ s.TypeIs v T ∧ wpAny (model X.prog X.w) X.A (getItem v (.ref sl)) (EP X pins σ Q) X.xe s := fun o => by
    cases q : asLr t.st vx with
    | none => rw [q] at o; exact o.elim
    | some xs =>
      rw [q] at o
      obtain ⟨p, vs, ep, hp, rv⟩ := asLr_rel R q r1
      subst ep
      refine sl_list pins s σ t.H _ v vl vu lo hi sl Q I rx hs pl pu ⟨p, vs, rfl, by rw [hK]; exact hp, fun z hz => ?_⟩
      exact Out.laid (o := .lst (cutV vs lo hi)) R hz o _ (lay_lst R hz (cut_rel rv lo hi))
  cases vx with
  | str z =>
    cases (show x = V.str z from r1)
    obtain ⟨c, o⟩ := ite_out o
    exact sl_str pins s σ t.H _ v vl vu lo hi sl Q I rx hs pl pu ⟨z, rfl, by rw [← SL_eq]; exact leN_iff.mp c, Out.now R o _ rfl⟩
  | tup xs =>
    obtain ⟨p, vs, ep, hp, rv⟩ := r1
    subst ep
    refine sl_tupA pins s σ t.H _ v vl vu lo hi sl Q I rx hs pl pu ⟨p, vs, rfl, by rw [hK]; exact hp, fun hw => ?_, fun hw z hz => ?_⟩
    · rw [← rv.length] at hw
      refine Out.now R o _ ⟨p, vs, rfl, hp, ?_⟩
      rw [cut_whole hw]
      exact rv
    · exact Out.laid (o := .tup (cutV vs lo hi)) R hz o _ (lay_tup R hz (cut_rel rv lo hi))
  | _ => exact seq o

/-! ### built-in functions -/
/-- a call, by the evaluator's own -/
def rC (G : Gm) (f : St → List Val → R Val) : List V → Hp → VK → Prop := fun vs H Q => ∃ t xs, t.H = H ∧ Rep G t ∧ Rvs G t xs vs ∧ Out G t (f t.st xs) (fun v t' => ∀ u, Rv G t' v u → Q u t'.H) (fun _ _ _ => True)
theorem ints_rel {t : Sit} : ∀ {xs : List Val} {vs : List V} {ns : List Int}, intsV xs = some ns → Rvs G t xs vs → vs = ns.map V.int
  | [], _, _, h, r => by
    cases h
    exact r
  | x :: xs, _, _, h, ⟨w, ws, e, r1, r2⟩ => by
    cases x with
    | int i =>
      obtain ⟨ms, h1, h2⟩ := Option.map_eq_some_iff.mp h
      subst h2
      rw [e, ints_rel h1 r2, show w = V.int i from r1]
      rfl
    | _ => cases h
theorem bls_rel {t : Sit} : ∀ {xs : List Val} {vs : List V} {ns : List Bool}, blsV xs = some ns → Rvs G t xs vs → vs = ns.map V.bl
  | [], _, _, h, r => by
    cases h
    exact r
  | x :: xs, _, _, h, ⟨w, ws, e, r1, r2⟩ => by
    cases x with
    | bl i =>
      obtain ⟨ms, h1, h2⟩ := Option.map_eq_some_iff.mp h
      subst h2
      rw [e, bls_rel h1 r2, show w = V.bl i from r1]
      rfl
    | _ => cases h
theorem rvs1 {t : Sit} {x : Val} {vs : List V} (r : Rvs G t [x] vs) : ∃ v, vs = [v] ∧ Rv G t x v := by
  obtain ⟨w, ws, e, r1, r2⟩ := r
  have e2 : ws = [] := r2
  subst e2
  exact ⟨w, e, r1⟩
theorem rvs2 {t : Sit} {x y : Val} {vs : List V} (r : Rvs G t [x, y] vs) : ∃ v w, vs = [v, w] ∧ Rv G t x v ∧ Rv G t y w := by
  obtain ⟨w, ws, e, r1, r2⟩ := r
  obtain ⟨w2, e2, r3⟩ := rvs1 r2
  subst e2
  exact ⟨w, w2, e, r1, r3⟩
end
end Ev

set_option Elab.async false
set_option linter.all false
set_option maxRecDepth 100000
/-! Ev.Snd3: built-in functions. -/
namespace Ev
open PySem PySem.Spec PyProof.Rows L2
section
variable {X : Cx} {G : Gm} {t : Sit} {ok : Val → Sit → Prop} {ex : Nat → Val → Sit → Prop}
theorem one_out {xs : List Val} {f : Val → R Val} (o : Out G t (one xs f) ok ex) : ∃ x, xs = [x] ∧ Out G t (f x) ok ex := by
  unfold one at o
  split at o
  · exact ⟨_, rfl, o⟩
  · exact o.elim
theorem two_out {xs : List Val} {f : Val → Val → R Val} (o : Out G t (two xs f) ok ex) : ∃ x y, xs = [x, y] ∧ Out G t (f x y) ok ex := by
  unfold two at o
  split at o
  · exact ⟨_, _, rfl, o⟩
  · exact o.elim
theorem int_out {x : Val} {f : Int → R Val} (o : Out G t (onInt x f) ok ex) : ∃ i, x = .int i ∧ Out G t (f i) ok ex := by
  unfold onInt at o
  split at o
  · exact ⟨_, rfl, o⟩
  · exact o.elim
theorem o_out {α : Type} {x : Option α} {f : α → R Val} (o : Out G t (onO x f) ok ex) : ∃ i, x = some i ∧ Out G t (f i) ok ex := by
  unfold onO at o
  split at o
  · exact ⟨_, rfl, o⟩
  · exact o.elim
theorem b_out {b : Bool} {r : R Val} (o : Out G t (onB b r) ok ex) : b = true ∧ Out G t r ok ex := by
  cases b with
  | true => exact ⟨rfl, o⟩
  | false => exact o.elim

theorem bi_len (hK : X.K = G.K) : CallR X (.builtin "len") (rC G (biV .len)) := by
  intro pins s σ H vs us Q I r h
  obtain ⟨t, xs, e, R, rv, o⟩ := h
  subst e
  obtain ⟨x, ex, o⟩ := one_out o
  subst ex
  obtain ⟨u, ev, r1⟩ := rvs1 rv
  subst ev
  have seq : Out G t (onO (asLr t.st x) fun ys => .ok (.int ys.length) t.st) (fun v t' => ∀ u, Rv G t' v u → Q u t'.H) (fun _ _ _ => True) → wpAny (model X.prog X.w) X.A (call (.builtin "len") us) (EP X pins σ Q) X.xe s := fun o => by
    obtain ⟨ys, h1, o⟩ := o_out o
    obtain ⟨a, ws, eu, hq, rw'⟩ := asLr_rel R h1 r1
    subst eu
    exact call_len pins s σ t.H _ us Q I r ⟨_, ws.length, rfl, .inl ⟨ws, by rw [hK]; exact hq, rfl⟩, by rw [← rw'.length]; exact Out.now R o _ rfl⟩
  cases x with
  | str z =>
    cases (show u = V.str z from r1)
    obtain ⟨c, o⟩ := b_out o
    exact call_len pins s σ t.H _ us Q I r ⟨_, z.length, rfl, ⟨by rw [← SL_eq]; exact leN_iff.mp c, rfl⟩, Out.now R o _ rfl⟩
  | tup ys =>
    obtain ⟨a, ws, eu, hq, rw'⟩ := r1
    subst eu
    exact call_len pins s σ t.H _ us Q I r ⟨_, ws.length, rfl, .inr ⟨ws, by rw [hK]; exact hq, rfl⟩, by rw [← rw'.length]; exact Out.now R o _ rfl⟩
  | _ => exact seq o
theorem bi_int : CallR X (.type "int") (rC G (biV .int)) := by
  intro pins s σ H vs us Q I r h
  obtain ⟨t, xs, e, R, rv, o⟩ := h
  subst e
  obtain ⟨x, ex, o⟩ := one_out o
  subst ex
  obtain ⟨u, ev, r1⟩ := rvs1 rv
  subst ev
  cases x with
  | int i =>
    cases (show u = V.int i from r1)
    exact call_int1 pins s σ t.H _ us Q I r (.inl ⟨i, rfl, Out.now R o _ rfl⟩)
  | bl k =>
    cases (show u = V.bl k from r1)
    exact call_int1 pins s σ t.H _ us Q I r (.inr ⟨k, rfl, Out.now R o _ rfl⟩)
  | _ => exact o.elim
theorem bi_abs : CallR X (.builtin "abs") (rC G (biV .abs)) := by
  intro pins s σ H vs us Q I r h
  obtain ⟨t, xs, e, R, rv, o⟩ := h
  subst e
  obtain ⟨x, ex, o⟩ := one_out o
  subst ex
  obtain ⟨i, ei, o⟩ := int_out o
  subst ei
  obtain ⟨u, ev, r1⟩ := rvs1 rv
  subst ev
  cases (show u = V.int i from r1)
  exact call_abs pins s σ t.H _ us Q I r ⟨i, rfl, Out.now R o _ rfl⟩
theorem bi_max (hc : X.calm = true) : CallR X (.builtin "max") (rC G (biV .max)) := by
  intro pins s σ H vs us Q I r h
  obtain ⟨t, xs, e, R, rv, o⟩ := h
  subst e
  obtain ⟨x, y, ex, o⟩ := two_out o
  subst ex
  obtain ⟨i, ei, o⟩ := int_out o
  obtain ⟨j, ej, o⟩ := int_out o
  subst ei; subst ej
  obtain ⟨u, v, ev, r1, r3⟩ := rvs2 rv
  subst ev
  cases (show u = V.int i from r1)
  cases (show v = V.int j from r3)
  exact call_max2 hc pins s σ t.H _ us Q I r ⟨i, j, rfl, Out.now R o _ rfl⟩
theorem bi_min (hc : X.calm = true) : CallR X (.builtin "min") (rC G (biV .min)) := by
  intro pins s σ H vs us Q I r h
  obtain ⟨t, xs, e, R, rv, o⟩ := h
  subst e
  obtain ⟨x, y, ex, o⟩ := two_out o
  subst ex
  obtain ⟨i, ei, o⟩ := int_out o
  obtain ⟨j, ej, o⟩ := int_out o
  subst ei; subst ej
  obtain ⟨u, v, ev, r1, r3⟩ := rvs2 rv
  subst ev
  cases (show u = V.int i from r1)
  cases (show v = V.int j from r3)
  exact call_min2 hc pins s σ t.H _ us Q I r ⟨i, j, rfl, Out.now R o _ rfl⟩
theorem bi_sum (hK : X.K = G.K) (hc : X.calm = true) : CallR X (.builtin "sum") (rC G (biV .sum)) := by
  intro pins s σ H vs us Q I r h
  obtain ⟨t, xs, e, R, rv, o⟩ := h
  subst e
  obtain ⟨x, ex, o⟩ := one_out o
  subst ex
  obtain ⟨ys, h0, o⟩ := o_out o
  obtain ⟨ns, h1, o⟩ := o_out o
  obtain ⟨u, ev, r1⟩ := rvs1 rv
  subst ev
  obtain ⟨a, ws, eu, hq, rw'⟩ := asLr_rel R h0 r1
  subst eu
  exact cr_sum hc pins s σ t.H _ us Q I r ⟨a, ns, rfl, by rw [hK, ← ints_rel h1 rw']; exact hq, Out.now R o _ rfl⟩
theorem bi_all (hK : X.K = G.K) (hc : X.calm = true) : CallR X (.builtin "all") (rC G (biV .all)) := by
  intro pins s σ H vs us Q I r h
  obtain ⟨t, xs, e, R, rv, o⟩ := h
  subst e
  obtain ⟨x, ex, o⟩ := one_out o
  subst ex
  obtain ⟨ys, h0, o⟩ := o_out o
  obtain ⟨ns, h1, o⟩ := o_out o
  obtain ⟨u, ev, r1⟩ := rvs1 rv
  subst ev
  obtain ⟨a, ws, eu, hq, rw'⟩ := asL_rel R h0 r1
  subst eu
  exact cr_all hc pins s σ t.H _ us Q I r ⟨a, ns, rfl, by rw [hK, ← bls_rel h1 rw']; exact SqL.of hq, Out.now R o _ rfl⟩
theorem bi_any (hK : X.K = G.K) (hc : X.calm = true) : CallR X (.builtin "any") (rC G (biV .any)) := by
  intro pins s σ H vs us Q I r h
  obtain ⟨t, xs, e, R, rv, o⟩ := h
  subst e
  obtain ⟨x, ex, o⟩ := one_out o
  subst ex
  obtain ⟨ys, h0, o⟩ := o_out o
  obtain ⟨ns, h1, o⟩ := o_out o
  obtain ⟨u, ev, r1⟩ := rvs1 rv
  subst ev
  obtain ⟨a, ws, eu, hq, rw'⟩ := asL_rel R h0 r1
  subst eu
  exact cr_any hc pins s σ t.H _ us Q I r ⟨a, ns, rfl, by rw [hK, ← bls_rel h1 rw']; exact SqL.of hq, Out.now R o _ rfl⟩
theorem bi_tup (hK : X.K = G.K) : CallR X (.type "tuple") (rC G (biV .tup)) := by
  intro pins s σ H vs us Q I r h
  obtain ⟨t, xs, e, R, rv, o⟩ := h
  subst e
  obtain ⟨x, ex, o⟩ := one_out o
  subst ex
  obtain ⟨u, ev, r1⟩ := rvs1 rv
  subst ev
  have seq : Out G t (onO (asL t.st x) fun ys => .ok (.tup ys) t.st) (fun v t' => ∀ u, Rv G t' v u → Q u t'.H) (fun _ _ _ => True) → wpAny (model X.prog X.w) X.A (call (.type "tuple") us) (EP X pins σ Q) X.xe s := fun o => by
    obtain ⟨ys, h0, o⟩ := o_out o
    obtain ⟨a, ws, eu, hq, rw'⟩ := asL_rel R h0 r1
    subst eu
    refine call_tuple_of pins s σ t.H _ us Q I r ⟨a, ws, rfl, .inl ⟨by rw [hK]; exact SqL.of hq, fun z hz => ?_⟩⟩
    exact Out.laid (o := .tup ws) R hz o _ (lay_tup R hz rw')
  cases x with
  | tup ys =>
    obtain ⟨a, ws, eu, hq, rw'⟩ := r1
    subst eu
    exact call_tuple_of pins s σ t.H _ us Q I r ⟨a, ws, rfl, .inr ⟨by rw [hK]; exact hq, Out.now R o _ ⟨a, ws, rfl, hq, rw'⟩⟩⟩
  | _ => exact seq o
theorem bi_repr (hK : X.K = G.K) (hg : X.A.guards = some []) (hu : X.A.units + 65 < cLine) : CallR X (.builtin "repr") (rC G (biV .repr)) := by
  intro pins s σ H vs us Q I r h
  obtain ⟨t, xs, e, R, rv, o⟩ := h
  subst e
  obtain ⟨x, ex, o⟩ := one_out o
  subst ex
  obtain ⟨d, hd, o⟩ := o_out o
  obtain ⟨hb, o⟩ := b_out o
  obtain ⟨u, ev, r1⟩ := rvs1 rv
  subst ev
  obtain ⟨c1, c2⟩ := dec2 hb
  obtain ⟨c2, c3⟩ := dec2 c2
  obtain ⟨c3, c4⟩ := dec2 c3
  have hl : d.shown.length ≤ sizeLine := by rw [← SL_eq]; exact leN_iff.mp c2
  have hdp : d.depth ≤ 60 := leN_iff.mp c4
  have hnd : d.hasDict = false := by cases q : d.hasDict <;> first | rfl | (rw [q] at c3; cases c3)
  have dp : Dp X.K t.H u d := by rw [hK]; exact toD0_rel R hd r1
  obtain ⟨v, rfl, rw'⟩ := vals1 r
  have fin : ∀ s', L2.Inv X pins σ t.H s' → ∀ k, EP X pins σ Q (.str d.shown k) s' := fun s' J k => ⟨.str d.shown, t.H, J, ⟨k, rfl⟩, Out.now R o _ rfl⟩
  have ref : ∀ {a : Addr}, v = .ref a → wpAny (model X.prog X.w) X.A (call (.builtin "repr") [v]) (EP X pins σ Q) X.xe s := fun {a} e => by
    subst e
    obtain ⟨as, rr⟩ := Dp.reads I d u _ dp rw'
    exact repr_of_reads' rr c1 (fun e => by rw [hnd] at e; cases e) hg (by omega) (fun _ _ e => e) (fun h' k tk hk => fin _ (I.kept (t' := tk) hk) k) hl
  cases d with
  | none =>
    cases dp
    cases rw'
    exact PySem.P.repr_of_none (fin _ (I.tok _) _)
  | bool b =>
    cases dp
    cases rw'
    exact PySem.P.repr_of_bool (fin _ (I.tok _) _)
  | int i =>
    cases dp
    obtain ⟨k, rfl⟩ := rw'
    exact PySem.P.repr_of_int (of_decide_eq_true c1) (fin _ (I.tok _) _)
  | str z =>
    cases dp
    obtain ⟨k, rfl⟩ := rw'
    exact PySem.P.repr_of_str (fin _ (I.tok _) _) hl
  | list ds =>
    cases dp with
    | lst hs _ => cases rw'; exact ref rfl
  | tuple ds =>
    cases dp with
    | tup hs _ => cases rw'; exact ref rfl
  | dict _ => cases dp
end
end Ev

set_option Elab.async false
set_option linter.all false
set_option maxRecDepth 100000
/-! Ev.Chk: readers of the tree, names, and the check that an expression of the tree is the evaluator's. -/
namespace Ev
open PySem PySem.Spec PyProof.Rows L2

/-! ### readers -/
def aName : Expr → Option Str
  | .Name x _ => some x
  | _ => none
def aBin : Expr → Option (Expr × Operator × Expr)
  | .BinOp a o b _ => some (a, o, b)
  | _ => none
def aUn : Expr → Option (UnaryOp × Expr)
  | .UnaryOp o a _ => some (o, a)
  | _ => none
def aCmp : Expr → Option (Expr × List CmpOp × List Expr)
  | .Compare a os bs _ => some (a, os, bs)
  | _ => none
def aBool : Expr → Option (BoolOp × List Expr)
  | .BoolOp o es _ => some (o, es)
  | _ => none
def aIf : Expr → Option (Expr × Expr × Expr)
  | .IfExp c a b _ => some (c, a, b)
  | _ => none
def aTup : Expr → Option (List Expr)
  | .Tuple es _ _ => some es
  | _ => none
def aLst : Expr → Option (List Expr)
  | .List es _ => some es
  | _ => none
def aSub : Expr → Option (Expr × Expr)
  | .Subscript a b _ => some (a, b)
  | _ => none
def aSlice : Expr → Option (Option Expr × Option Expr × Option Expr)
  | .Slice a b c _ => some (a, b, c)
  | _ => none
def aAttr : Expr → Option (Expr × Str)
  | .Attribute a m _ => some (a, m)
  | _ => none
def aCall : Expr → Option (Expr × List Expr × List Keyword)
  | .Call f es ks _ => some (f, es, ks)
  | _ => none
def aConst : Expr → Option Const
  | .Constant c _ _ => some c
  | _ => none
def aLC : Expr → Option (Expr × List Comprehension × Scope)
  | .ListComp e gs sc _ => some (e, gs, sc)
  | _ => none
theorem aName_eq {e : Expr} {x : Str} (h : aName e = some x) : ∃ p, e = .Name x p := by
  cases e <;> first | (cases h; exact ⟨_, rfl⟩) | cases h
theorem aBin_eq {e : Expr} {a b : Expr} {o : Operator} (h : aBin e = some (a, o, b)) : ∃ p, e = .BinOp a o b p := by
  cases e <;> first | (cases h; exact ⟨_, rfl⟩) | cases h
theorem aUn_eq {e : Expr} {a : Expr} {o : UnaryOp} (h : aUn e = some (o, a)) : ∃ p, e = .UnaryOp o a p := by
  cases e <;> first | (cases h; exact ⟨_, rfl⟩) | cases h
theorem aCmp_eq {e : Expr} {a : Expr} {os : List CmpOp} {bs : List Expr} (h : aCmp e = some (a, os, bs)) : ∃ p, e = .Compare a os bs p := by
  cases e <;> first | (cases h; exact ⟨_, rfl⟩) | cases h
theorem aBool_eq {e : Expr} {o : BoolOp} {es : List Expr} (h : aBool e = some (o, es)) : ∃ p, e = .BoolOp o es p := by
  cases e <;> first | (cases h; exact ⟨_, rfl⟩) | cases h
theorem aIf_eq {e : Expr} {c a b : Expr} (h : aIf e = some (c, a, b)) : ∃ p, e = .IfExp c a b p := by
  cases e <;> first | (cases h; exact ⟨_, rfl⟩) | cases h
theorem aTup_eq {e : Expr} {es : List Expr} (h : aTup e = some es) : ∃ k p, e = .Tuple es k p := by
  cases e <;> first | (cases h; exact ⟨_, _, rfl⟩) | cases h
theorem aLst_eq {e : Expr} {es : List Expr} (h : aLst e = some es) : ∃ p, e = .List es p := by
  cases e <;> first | (cases h; exact ⟨_, rfl⟩) | cases h
theorem aSub_eq {e : Expr} {a b : Expr} (h : aSub e = some (a, b)) : ∃ p, e = .Subscript a b p := by
  cases e <;> first | (cases h; exact ⟨_, rfl⟩) | cases h
theorem aSlice_eq {e : Expr} {a b c : Option Expr} (h : aSlice e = some (a, b, c)) : ∃ p, e = .Slice a b c p := by
  cases e <;> first | (cases h; exact ⟨_, rfl⟩) | cases h
theorem aAttr_eq {e : Expr} {a : Expr} {m : Str} (h : aAttr e = some (a, m)) : ∃ p, e = .Attribute a m p := by
  cases e <;> first | (cases h; exact ⟨_, rfl⟩) | cases h
theorem aCall_eq {e : Expr} {f : Expr} {es : List Expr} {ks : List Keyword} (h : aCall e = some (f, es, ks)) : ∃ p, e = .Call f es ks p := by
  cases e <;> first | (cases h; exact ⟨_, rfl⟩) | cases h
theorem aConst_eq {e : Expr} {c : Const} (h : aConst e = some c) : ∃ k p, e = .Constant c k p := by
  cases e <;> first | (cases h; exact ⟨_, _, rfl⟩) | cases h
theorem aLC_eq {e : Expr} {x : Expr} {gs : List Comprehension} {sc : Scope} (h : aLC e = some (x, gs, sc)) : ∃ p, e = .ListComp x gs sc p := by
  cases e <;> first | (cases h; exact ⟨_, rfl⟩) | cases h

/-! ### names -/
theorem listEqN_iff : ∀ {a b : List Nat}, listEqN a b = true ↔ a = b
  | [], [] => ⟨fun _ => rfl, fun _ => rfl⟩
  | [], _ :: _ => ⟨(fun h => nomatch h), (fun h => nomatch h)⟩
  | _ :: _, [] => ⟨(fun h => nomatch h), (fun h => nomatch h)⟩
  | x :: a, y :: b => by
    show (match natEq x y with | true => listEqN a b | false => false) = true ↔ _
    by_cases e : x = y
    · rw [natEq_iff.mpr e]
      show listEqN a b = true ↔ _
      rw [listEqN_iff]
      exact ⟨fun h => (by rw [e, h]), fun h => (List.cons.inj h).2⟩
    · rw [show natEq x y = false from Bool.eq_false_iff.mpr fun q => e (natEq_iff.mp q)]
      exact ⟨fun h => (nomatch h), fun h => absurd (List.cons.inj h).1 e⟩
theorem strEq_iff {a b : Str} : strEq a b = true ↔ a = b := by
  unfold strEq
  rw [listEqN_iff]
  obtain ⟨⟨a⟩⟩ := a
  obtain ⟨⟨b⟩⟩ := b
  exact ⟨fun h => (by simp at h; rw [h]), fun h => (by rw [h])⟩
theorem strEq_false {a b : Str} (h : strEq a b = false) : a ≠ b := fun e => by
  rw [strEq_iff.mpr e] at h; cases h
def lookS {α : Type} (x : Str) : List (Str × α) → Option α
  | [] => none
  | (y, k) :: r => match strEq x y with
    | true => some k
    | false => lookS x r
theorem lookS_eq {α : Type} {x : Str} : ∀ {l : List (Str × α)}, lookS x l = l.lookup x
  | [] => rfl
  | (y, k) :: r => by
    show (match strEq x y with | true => some k | false => lookS x r) = _
    rw [List.lookup_cons]
    by_cases e : x = y
    · rw [strEq_iff.mpr e, show (x == y) = true from beq_iff_eq.mpr e]
    · rw [show strEq x y = false from Bool.eq_false_iff.mpr fun q => e (strEq_iff.mp q), show (x == y) = false from beq_eq_false_iff_ne.mpr e]
      exact lookS_eq
abbrev NmL := List (Str × NameKind)
def visB (L : NmL) (x : Str) : Bool := match lookS x L with
  | some .local => true
  | some .cell => true
  | some .free => true
  | _ => false
def capB (L : NmL) (x : Str) : Bool := match lookS x L with
  | some .cell => true
  | some .free => true
  | _ => false
def locB (L : NmL) (x : Str) : Bool := match lookS x L with
  | some .local => true
  | some .cell => true
  | _ => false
def lclB (L : NmL) (x : Str) : Bool := match lookS x L with
  | some .local => true
  | _ => false
def glB (L : NmL) (x : Str) : Bool := match lookS x L with
  | some .globalImplicit => true
  | _ => false
def nameAt (N : List Str) (i : Nat) (x : Str) : Bool := match N[i]? with
  | some y => strEq y x
  | none => false
theorem nameAt_iff {N : List Str} {i : Nat} {x : Str} (h : nameAt N i x = true) : N[i]? = some x := by
  unfold nameAt at h
  split at h
  · rename_i y e
    rw [e, strEq_iff.mp h]
  · cases h
def memS (x : Str) : List Str → Bool
  | [] => false
  | y :: r => match strEq x y with
    | true => true
    | false => memS x r
theorem memS_iff {x : Str} : ∀ {l : List Str}, memS x l = true ↔ x ∈ l
  | [] => ⟨(fun h => nomatch h), (fun h => nomatch h)⟩
  | y :: r => by
    show (match strEq x y with | true => true | false => memS x r) = true ↔ _
    by_cases e : x = y
    · rw [strEq_iff.mpr e]
      exact ⟨fun _ => (by rw [e]; exact List.mem_cons_self ..), fun _ => rfl⟩
    · rw [show strEq x y = false from Bool.eq_false_iff.mpr fun q => e (strEq_iff.mp q)]
      show memS x r = true ↔ _
      rw [memS_iff]
      exact ⟨fun h => List.mem_cons_of_mem _ h, fun h => (List.mem_cons.mp h).resolve_left e⟩
def nodupB : List Str → Bool
  | [] => true
  | x :: r => !memS x r && nodupB r
theorem nodupB_ok : ∀ {l : List Str}, nodupB l = true → l.Nodup
  | [], _ => List.nodup_nil
  | x :: r, h => by
    obtain ⟨h1, h2⟩ := dec2 h
    refine List.nodup_cons.mpr ⟨fun m => ?_, nodupB_ok h2⟩
    rw [memS_iff.mpr m] at h1
    cases h1
/-- the block of a comprehension -/
def blkB (N : List Str) (L : NmL) (scope : Scope) (own : List Nat) : Bool :=
  (match scope.kind with | .function => true | _ => false) && (scope.names.all fun y => match lookS y.1 scope.names, y.2 with
    | some .local, .local => true
    | some .cell, .cell => true
    | some .free, .free => true
    | some .globalImplicit, .globalImplicit => true
    | some .globalExplicit, .globalExplicit => true
    | _, _ => false) &&
    (scope.names.all fun y => match y.2 with
      | .free => capB L y.1
      | .local => (own.any fun i => nameAt N i y.1) || !memS y.1 N
      | .cell => (own.any fun i => nameAt N i y.1) || !memS y.1 N
      | _ => true)
def ownL (N : List Str) (own : List Nat) : List (Str × Nat) := own.filterMap fun i => (N[i]?).map fun x => (x, i)
theorem ownL_mem {N : List Str} {own : List Nat} {i : Nat} {x : Str} (h : i ∈ own) (e : N[i]? = some x) : (x, i) ∈ ownL N own :=
  List.mem_filterMap.mpr ⟨i, h, by rw [e]; rfl⟩
theorem blkB_ok {N : List Str} {L : NmL} {sc scope : Scope} {own : List Nat} (hL : ∀ x, capB L x = true → sc.names.lookup x = some .cell ∨ sc.names.lookup x = some .free) (h : blkB N L scope own = true) : BlkOk N sc scope (ownL N own) := by
  obtain ⟨h1, h3⟩ := dec2 h
  obtain ⟨h1, h2⟩ := dec2 h1
  have lc : ∀ y : Str × NameKind, y ∈ scope.names → y.2 = .local ∨ y.2 = .cell → ((own.any fun i => nameAt N i y.1) || !memS y.1 N) = true := fun y hy e => by
    have q := List.all_eq_true.mp h3 y hy
    rcases e with e | e <;> (rw [e] at q; exact q)
  refine ⟨?_, fun y hy => ?_, fun p hp => ?_, fun y hy e => ?_, fun y hy e => ?_⟩
  · cases q : scope.kind <;> rw [q] at h1 <;> first | rfl | cases h1
  · have q := List.all_eq_true.mp h2 y hy
    rw [← lookS_eq]
    revert q
    cases lookS y.1 scope.names with
    | none => intro q; cases q
    | some k =>
      obtain ⟨y1, y2⟩ := y
      cases k <;> cases y2 <;> intro q <;> first | rfl | cases q
  · obtain ⟨i, hi, e⟩ := List.mem_filterMap.mp hp
    obtain ⟨x, e1, e2⟩ := Option.map_eq_some_iff.mp e
    rw [← e2]
    exact e1
  · have q := List.all_eq_true.mp h3 y hy
    rw [e] at q
    exact hL _ q
  · rcases Bool.or_eq_true_iff.mp (lc y hy e) with q | q
    · left
      obtain ⟨i, hi, q⟩ := List.any_eq_true.mp q
      exact List.mem_map.mpr ⟨(y.1, i), ownL_mem hi (nameAt_iff q), rfl⟩
    · right
      intro m
      rw [memS_iff.mpr m] at q
      cases q

/-! ### sides -/
def isStar : Expr → Bool
  | .Starred _ _ => true
  | _ => false
def noStar (es : List Expr) : Bool := es.all fun e => !isStar e
theorem star_cons {e : Expr} {es : List Expr} {env : PySem.Env} (h : isStar e = false) : starEach (e :: es) env = (false, eval e env) :: starEach es env := by
  cases e <;> first | rfl | cases h
theorem star_any {env : PySem.Env} {pos : Pos} : ∀ {es : List Expr}, noStar es = true → (backTo pos (starEach es env)).any (·.1) = false
  | [], _ => rfl
  | e :: es, h => by
    obtain ⟨h1, h2⟩ := dec2 (show ((!isStar e) && es.all fun e => !isStar e) = true from h)
    rw [star_cons (by simpa using h1)]
    exact star_any (es := es) h2
def isSet : Expr → Bool
  | .Set _ _ _ => true
  | _ => false
theorem marks_of {op : CmpOp} {b : Expr} (h : isSet b = false) : behindInMarks op b = false := by
  cases b <;> first | rfl | cases h
theorem last_of {op op' : CmpOp} {b c : Expr} (h : isSet c = false) : lastMarks [op, op'] [b, c] = false := marks_of h
theorem folded_of {e : Expr} {env : PySem.Env} (h : isSet e = false) : ∀ x, foldedSetIterable e env x = pure x := fun x => by
  cases e <;> first | rfl | cases h
def isCall : Expr → Bool
  | .Call _ _ _ _ => true
  | _ => false
def calls0 : Expr → Bool
  | .Call (.Name _ _) [] [] _ => true
  | _ => false
theorem base_of {e : Expr} {f : Str} {env : PySem.Env} (h : calls0 e = false) : attributeBase e f env (eval e env) = eval e env := by
  unfold attributeBase
  split
  · cases h
  · rfl
/-- what stands as a plain index -/
def plainB : Expr → Bool
  | .Name _ _ => true
  | .Constant _ _ _ => true
  | .BinOp _ _ _ _ => true
  | .UnaryOp _ _ _ => true
  | .Call _ _ _ _ => true
  | .Attribute _ _ _ => true
  | .Subscript _ _ _ => true
  | .Tuple _ _ _ => true
  | .IfExp _ _ _ _ => true
  | _ => false
theorem plain_of {b : Expr} (h : plainB b = true) : PlainIx b := fun o i => by
  cases b <;> first | rfl | cases h
end Ev

set_option Elab.async false
set_option linter.all false
set_option maxRecDepth 100000
set_option maxHeartbeats 4000000
/-! Ev.Exc1: an own exception class is called, its own __init__ walked; keywords too. -/
namespace Ev
open PySem PySem.Spec PySem.Calls PySem.HandSPX
section
variable {prog : Program} {w : World} {A : Around} {E : Value → Shared → Prop} {R : Result → Shared → Prop} {h : Heap} {g : Array GenState} {d : Drawn} {t : Nat} {os : OsState}
variable {nm q : Str} {C N : Addr} {bs bm bmB : List Value} {hdct : Bool} {sn : List Str} {sub : List Value} {ab : Bool} {col : Option Bool} {dd : Option Addr} {k0 k1 k2 k3 k5 : Option Value} {B newId initId : String}
theorem check_new_x {M : Model} (F : ExcBaseFacts B newId initId bmB) (hB : bm.contains (.type B) = true) {rest : List Value} {kw : List (Str × Value)} {Q : Unit → Shared → Prop}
    (hC : h.get? C = some (excClassObj nm q C N bs bm hdct sn sub ab col dd k0 k1 k2 k3 k5 newId)) (hq : Q () ⟨h, g, d, t, os⟩) : wpAny M A (checkBuiltinCall newId ⟨.ref C :: rest, kw⟩) Q E ⟨h, g, d, t, os⟩ := by
  have hcont : (Value.ref C :: bm).contains (.type B) = true := by rw [List.contains_cons, hB, Bool.or_true]
  have hstar := F.noStar
  simp only [checkBuiltinCall, F.newKind, F.newSplit, F.newRow]
  repeat (first | refine wpAny_loadPart_at hC ?_ | (refine wpAny_isSubtype_exc hC ?_; rw [hcont]) | refine wpAny_staticBase_exc hC ?_ | refine wpAny_madeBy_exc hC ?_ | simp only [bne_self_eq_false, Bool.false_eq_true, if_false] | wp_step)
  exact hq
theorem new_x (F : ExcBaseFacts B newId initId bmB) (hB : bm.contains (.type B) = true) (hA : bm.contains (.type "AttributeError") = false) (hNm : bm.contains (.type "NameError") = false) {rest : List Value} {kw : List (Str × Value)}
    (hC : h.get? C = some (excClassObj nm q C N bs bm hdct sn sub ab col dd k0 k1 k2 k3 k5 newId))
    (hq : R (.ok (.ret (.ref (h.objs.size + 1)))) ⟨(h.push { cls := .type "tuple", data := .seq rest.toArray }).push
      { cls := .ref C, data := .fields #[.ref h.objs.size, .none, .none, .none, .bool false, .none] }, g, d, t, os⟩) (hrest : rest.length ≤ sizeLine) :
    codeAny (model prog w) A (.builtin newId ⟨.ref C :: rest, kw⟩) R ⟨h, g, d, t, os⟩ := by
  have hends := F.ends
  have hcB : (Value.ref C :: bm).contains (.type B) = true := by rw [List.contains_cons, hB, Bool.or_true]
  have hcA : (Value.ref C :: bm).contains (.type "AttributeError") = false := by rw [List.contains_cons, hA]; rfl
  have hcN : (Value.ref C :: bm).contains (.type "NameError") = false := by rw [List.contains_cons, hNm]; rfl
  refine codeAny_builtinAt F.entry ?_
  unfold Builtin.«BaseException.__new__»
  refine wpAt_bind ?_
  show wpAt _ _ _ (stack >>= _) _ _ _
  refine wpAt_bind (wpAt_stack fun p below => wpAt_of_wpAny ?_)
  wp_walk
  refine wpAt_of_wpAny ?_
  rw [F.owner]
  repeat (first | with_reducible refine wpAny_madeHere_exc F.canon hC ?_ | with_reducible refine wpAny_loadPart_at hC ?_ | (with_reducible refine wpAny_isSubtype_exc hC ?_; first | rw [hcB] | rw [hcA] | rw [hcN]) | wp_step)
  show R _ _
  rw [Heap.size_push]
  exact hq
theorem check_tc {M : Model} {rest : List Value} {kw : List (Str × Value)} {Q : Unit → Shared → Prop} (hC : h.get? C = some (excClassObj nm q C N bs bm hdct sn sub ab col dd k0 k1 k2 k3 k5 newId))
    (hq : Q () ⟨h, g, d, t, os⟩) : wpAny M A (checkBuiltinCall "type.__call__" ⟨.ref C :: rest, kw⟩) Q E ⟨h, g, d, t, os⟩ := by
  have f3 := tc_sub
  have hT : (⟨h, g, d, t, os⟩ : Shared).TypeIs (.ref C) "type" := ⟨_, hC, rfl⟩
  simp only [checkBuiltinCall, tc_kind, tc_split]
  repeat (any_goals (first | assumption | with_reducible refine wpAny_loadPart_at hC ?_ | with_reducible refine wpAny_onRaise ?_ | with_reducible refine wpAny_map ?_ | wp_step))
theorem type_call_x (F : ExcBaseFacts B newId initId bmB) (hB : bm.contains (.type B) = true) (hA : bm.contains (.type "AttributeError") = false) (hNm : bm.contains (.type "NameError") = false) {rest : List Value} {kw : List (Str × Value)} {fI : Addr} {Q : Fin → Shared → Prop}
    (hC : h.get? C = some (excClassObj nm q C N bs bm hdct sn sub ab col dd k0 k1 k2 k3 k5 newId))
    (hi : W.Looks (model prog w) h (typeLookup (.ref C) "__init__") (some (.ref fI))) (hb : ∀ self, W.Looks (model prog w) h (bindSpecial (.ref fI) self) (.ref fI, [self])) (hrest : rest.length ≤ sizeLine)
    (hq : codeAny (model prog w) A (.call (.ref fI) ⟨.ref (h.objs.size + 1) :: rest, kw⟩)
      (fun r s' => match r with | .ok (.ret v) => v = .none ∧ Q (.done (.ret (.ref (h.objs.size + 1)))) s' | .ok _ => False | .error e => E e s')
      ⟨(h.push (W.kdv_tup rest)).push (excO C h.objs.size), g, d, t, os⟩) :
    wpAny (model prog w) A (Builtin.«type.__call__» ⟨.ref C :: rest, kw⟩) Q E ⟨h, g, d, t, os⟩ := by
  repeat (first | with_reducible refine wpAny_loadPart_at hC ?_ | with_reducible refine wpAny_madeBy_exc hC ?_ | wp_step)
  refine codeAny_call_builtin_code (Code.quiet_builtin _ F.quiet) (check_new_x F hB hC ?_)
  refine new_x F hB hA hNm hC ?_ hrest
  show wpAny _ _ _ _ _ _
  have k : ∀ b o, h.get? b = some o → ((h.push (W.kdv_tup rest)).push (excO C h.objs.size)).get? b = some o := fun b o e => Heap.get?_push_of_some _ (Heap.get?_push_of_some _ e)
  have hC₁ := k _ _ hC
  have hget : ((h.push (W.kdv_tup rest)).push (excO C h.objs.size)).get? (h.objs.size + 1) = some (excO C h.objs.size) := by heap_get
  have hcC : (Value.ref C :: bm).contains (.ref C) = true := by simp
  have i1 := hi.keeps k
  have b1 := (hb (.ref (h.objs.size + 1))).keeps k
  unfold isInstance
  repeat (first | with_reducible refine wpAny_loadPart_at hget ?_ | (with_reducible refine wpAny_isSubtype_exc hC₁ ?_; rw [hcC]) | wp_step)
  show wpAny _ _ (typeLookup (.ref C) _) _ _ _
  refine i1.at ?_
  refine wpAny_holding (wpAny_bind (b1.at ?_))
  refine wpAny_bind (wpAny_call (codeAny_mono hq fun r s' z => ?_))
  rcases r with e | (v | _ | _ | _) <;> first | exact z | exact z.elim | skip
  obtain ⟨rfl, z⟩ := z
  first
    | exact wpAny_pure (wpAny_pure z)
    | (wp_walk; exact z)
theorem call_x (F : ExcBaseFacts B newId initId bmB) (hB : bm.contains (.type B) = true) (hA : bm.contains (.type "AttributeError") = false) (hNm : bm.contains (.type "NameError") = false) {rest : List Value} {kw : List (Str × Value)} {fI : Addr}
    (hC : h.get? C = some (excClassObj nm q C N bs bm hdct sn sub ab col dd k0 k1 k2 k3 k5 newId))
    (hi : W.Looks (model prog w) h (typeLookup (.ref C) "__init__") (some (.ref fI))) (hb : ∀ self, W.Looks (model prog w) h (bindSpecial (.ref fI) self) (.ref fI, [self])) (hrest : rest.length ≤ sizeLine)
    (hq : codeAny (model prog w) (A.under (.builtin "type.__call__" ⟨.ref C :: rest, kw⟩)) (.call (.ref fI) ⟨.ref (h.objs.size + 1) :: rest, kw⟩) (W.InitBack (h.objs.size + 1) R)
      ⟨(h.push (W.kdv_tup rest)).push (excO C h.objs.size), g, d, t, os⟩) :
    codeAny (model prog w) A (.call (.ref C) ⟨rest, kw⟩) R ⟨h, g, d, t, os⟩ := by
  have f1 := tc_lookup
  have f2 := tc_bind (.ref C)
  have hTy : (⟨h, g, d, t, os⟩ : Shared).TypeIs (.ref C) "type" := ⟨_, hC, rfl⟩
  refine codeAny_of_tree ?_
  show wpAny _ _ (callAny (.ref C) _) _ _ _
  repeat (any_goals (first | assumption | with_reducible refine wpAny_loadPart_at hC ?_ | wp_step))
  refine ⟨rfl, ?_⟩
  refine codeAny_call_builtin_at (Code.quiet_builtin _ (by decide +kernel)) entry_typeCall (check_tc hC (type_call_x F hB hA hNm hC hi hb hrest ?_))
  refine codeAny_mono hq fun r s' z => ?_
  rcases r with e | (v | _ | _ | _) <;> exact z
end
end Ev

set_option Elab.async false
set_option linter.all false
set_option maxRecDepth 100000
namespace Ev
open PySem PySem.F
theorem madeKey : Bind.madeBy (.type "KeyError") = pure (some "LookupError.__new__") := by kernel_rfl
theorem initSlotKey : Slot "KeyError" "__init__" "KeyError.__init__" := .of (owner := "KeyError") (n := "__init__") (by rw [typeLookup_type, builtinLookup_eq_fast]; kernel_rfl) (by decide +kernel) (by decide +kernel) (by decide +kernel)
    (by first | exact .inl (by decide +kernel) | exact .inr (by decide +kernel)) (by rw [isSubtype_type]; kernel_rfl)
theorem initEntryKey : entryFor table "KeyError.__init__" = some Builtin.«BaseException.__init__» := entryFor_alias (id' := "BaseException.__init__") (by rw [fastTable_eq_tree]; kernel_rfl) (by first | rfl | decide +kernel) (by decide +kernel) (by rw [fastTable_eq_tree]; kernel_rfl)
theorem initSplitKey : splitId "KeyError.__init__" = some ("KeyError", "__init__") := by kernel_rfl
theorem initKindKey : builtinKind "KeyError.__init__" = some .slot := by kernel_rfl
theorem initRowKey : Manifest.signature? "KeyError.__init__" = some ⟨.positional, "*", "KeyError", .self, [⟨"args", .varPos, false⟩]⟩ := by kernel_rfl
theorem storeKey (self : Value) : refuseLoop self "__setattr__" [.type "KeyError", .type "LookupError", .type "Exception", .type "BaseException", .type "object"] = pure () := by kernel_rfl
end Ev

set_option Elab.async false
set_option linter.all false
set_option maxRecDepth 100000
set_option maxHeartbeats 4000000
/-! Ev.Exc2: what the text says of an own exception class; its first field; its base's __init__. -/
namespace Ev
open PySem PySem.Spec PySem.Calls PySem.HandSPX
/-- a base's __init__ -/
structure InF (T initId : String) : Prop where
  init : Slot T "__init__" initId
  entry : entryFor table initId = some Builtin.«BaseException.__init__»
  split : splitId initId = some (T, "__init__")
  kind : builtinKind initId = some .slot
  row : Manifest.signature? initId = some ⟨.positional, "*", T, .self, [⟨"args", .varPos, false⟩]⟩
  noStar : (T != "*") = true
theorem InF.of {B newId initId : String} {bm : List Value} (F : ExcBaseFacts B newId initId bm) : InF B initId := ⟨F.init, F.initEntry, F.initSplit, F.initKind, F.initRow, F.noStar⟩
theorem InF.key : InF "KeyError" "KeyError.__init__" := ⟨initSlotKey, initEntryKey, initSplitKey, initKindKey, initRowKey, by decide +kernel⟩
section
variable {prog : Program} {w : World} {A : Around} {E : Value → Shared → Prop} {R : Result → Shared → Prop} {h : Heap} {g : Array GenState} {d : Drawn} {t : Nat} {os : OsState}
variable {nm q : Str} {C N : Addr} {bs bm : List Value} {hdct : Bool} {sn : List Str} {sub : List Value} {ab : Bool} {col : Option Bool} {dd : Option Addr} {k0 k1 k2 k3 k5 : Option Value} {T newId initId : String}
theorem check_init_x {M : Model} (F : InF T initId) (hT : bm.contains (.type T) = true) {e : Addr} {oe : Obj} {rest : List Value} {Q : Unit → Shared → Prop}
    (hC : h.get? C = some (excClassObj nm q C N bs bm hdct sn sub ab col dd k0 k1 k2 k3 k5 newId)) (he : h.get? e = some oe) (hcls : oe.cls = .ref C) (hq : Q () ⟨h, g, d, t, os⟩) :
    wpAny M A (checkBuiltinCall initId ⟨.ref e :: rest, []⟩) Q E ⟨h, g, d, t, os⟩ := by
  have hcB : (Value.ref C :: bm).contains (.type T) = true := by rw [List.contains_cons, hT, Bool.or_true]
  have hshort := F.noStar
  simp only [checkBuiltinCall, F.kind, F.split, F.row]
  repeat (first | (with_reducible refine wpAny_loadPart_at he ?_; rw [hcls]) | with_reducible refine wpAny_loadPart_at hC ?_ | (with_reducible refine wpAny_isSubtype_exc hC ?_; rw [hcB]) | wp_step)
  refine wpAny_onRaise ?_
  rw [show ∀ (a b : String) (n : Nat), Bind.check ⟨.positional, "*", T, .self, [⟨"args", .varPos, false⟩]⟩ a b n (List.map (fun x => x.fst) ({ pos := Value.ref e :: rest } : Args).kw) = pure () from
    fun a b n => check_star_args _ _ _ _ _ _]
  exact wpAny_pure hq
theorem init_x (F : InF T initId) (hT : bm.contains (.type T) = true) {e t0 : Addr} {rest : List Value}
    (hC : h.get? C = some (excClassObj nm q C N bs bm hdct sn sub ab col dd k0 k1 k2 k3 k5 newId)) (he : h.get? e = some (excO C t0)) (hrest : rest.length ≤ sizeLine)
    (hq : ∀ h' t1, (∀ b o, b ≠ e → h.get? b = some o → h'.get? b = some o) → h'.get? e = some (excO C t1) → R (.ok (.ret .none)) ⟨h', g, d, t, os⟩) :
    codeAny (model prog w) A (.call (.builtin initId) ⟨.ref e :: rest, []⟩) R ⟨h, g, d, t, os⟩ := by
  refine codeAny_call_builtin F.init.plain F.entry (check_init_x F hT hC he rfl ?_)
  wp_walk
  refine hq _ h.objs.size (fun b o hb ho => ?_) ?_
  · rw [Heap.get?_update_other _ _ (Ne.symm hb)]
    exact Heap.get?_push_of_some _ ho
  · rw [Heap.get?_update_self _ (Heap.get?_push_of_some _ he) rfl]
    rfl
end
section
open Builtin Builtin.ObjectAttr
variable {prog : Program} {w : World} {A : Around} {E : Value → Shared → Prop} {R : Result → Shared → Prop} {h : Heap} {g : Array GenState} {d : Drawn} {t : Nat} {os : OsState}
/-- self.name = v on an exception that has no dict yet -/
theorem osa_x {K : W.Frag} {name : Str} {tk : Tok} {v : Value} {x C : Addr} {fv : Array Value} {cd : ClassData}
    (X : K.In h) (hx : h.get? x = some { cls := .ref C, data := .fields fv }) (hcd : W.clsIn K C = some cd) (hpass : refuseLoop (.ref x) "__setattr__" cd.mro = pure ()) (hob : cd.mro.contains (.type "object") = true) (hh : cd.hasDict = true) (ha : W.findIn K (.ref C) name = some none)
    (hq : ∀ h' tk' dx, (∀ b o, b ≠ x → h.get? b = some o → h'.get? b = some o) → h.objs.size ≤ dx → dx ≠ x → h'.get? x = some { cls := .ref C, dict := some dx, data := .fields fv } →
      h'.Ns1 dx (fun y => if y = name then some v else none) → R (.ok (.ret .none)) ⟨h', g, d, tk', os⟩) :
    codeAny (model prog w) A (.call (.builtin "object.__setattr__") ⟨[.ref x, .str name tk, v], []⟩) R ⟨h, g, d, t, os⟩ := by
  have I : W.InstAt h x { cls := .ref C, data := .fields fv } C none := ⟨hx, rfl, rfl, trivial⟩
  have SF := F.store_object
  have ne : cd.mro.isEmpty = false := by cases q : cd.mro with
    | nil => rw [q] at hob; cases hob
    | cons _ _ => rfl
  have hxs : x ≠ h.objs.size := Nat.ne_of_lt (Heap.lt_size hx)
  have sub : W.Looks (model prog w) h (isInstance (.ref x) (.type "object")) true := I.type.andThen (W.looks_mroIn X (by unfold W.mroIn; rw [hcd, Option.bind_some, if_neg (by rw [ne]; decide), hob]))
  refine codeAny_call_builtin SF.slot.plain SF.entry (@W.check_slot (model prog w) _ _ ⟨h, g, d, t, os⟩ "object.__setattr__" "object" "__setattr__" (.ref x) [.str name tk, v] [] _ SF.kind SF.split sub (SF.args (.ref x) (.str name tk) v) ?_)
  have hmr : W.Looks (model prog w) h (mroOf (.ref C)) cd.mro := (W.looks_clsIn X hcd).andThen .now
  have L3 : W.Looks (model prog w) h (storeTaker? none) none := .now
  have hcls : W.Looks (model prog w) h (classData C) cd := W.looks_clsIn X hcd
  rw [W.osa_eq, refuse_eq]
  refine wpAny_bind (wpAny_bind (I.type.at (wpAny_bind (hmr.at ?_))))
  rw [hpass]
  refine wpAny_pure (wpAny_bind (I.type.at (wpAny_bind ((W.looks_findIn X ha).at (wpAny_bind (L3.at ?_))))))
  show wpAny _ _ (storeInOwnDict (.ref x) (.ref C) (.str name tk) name v false) _ _ _
  obtain ⟨nm, bs, mro, ns, qn, hd, sn, sb, ab, col, del⟩ := cd
  dsimp only at hh
  subst hh
  unfold storeInOwnDict ownDictForStores
  repeat (first | with_reducible refine store_in_new ?_ ?_ | with_reducible refine wpAny_loadPart_at hx ?_ | with_reducible refine hcls.at ?_ | wp_step)
  · exact ⟨_, #[], _, (Heap.get?_update_ne _ _ _ _ hxs.symm).trans (Heap.get?_push_at rfl rfl), rfl, fun e he => absurd he (by simp), fun _ => rfl⟩
  · intro h' tk' hn' hs
    have hx₁ : (h.push { cls := .type "dict", data := .dict #[] }).get? x = some { cls := .ref C, data := .fields fv } := Heap.get?_push_of_some _ hx
    refine hq h' tk' h.objs.size (fun b o hb ho => ?_) (Nat.le_refl _) hxs.symm ?_ hn'
    · exact (hs.2 b (Nat.ne_of_lt (Heap.lt_size ho))).trans ((Heap.get?_update_ne _ _ _ _ hb).trans (Heap.get?_push_of_some _ ho))
    · exact (hs.2 x hxs).trans (Heap.get?_update_self _ hx₁ rfl)
end
end Ev

set_option Elab.async false
set_option linter.all false
set_option maxRecDepth 100000
/-! Ev.Base2: defs that keep a promise where nothing is being shown; sides. -/
namespace Ev
open PySem PySem.Spec PyProof.Rows L2

theorem not_of' {b : Bool} (h : (!b) = true) : b = false := by cases b <;> first | rfl | cases h
/-- a def that keeps its promise where nothing is being shown -/
structure FnG (P : Program) (w : World) (K : PySem.W.Frag) (mg : Str → Option Value) (base : Heap) (CX : CXT) (k : Nat) (f : Addr) (fd : FuncData) (ps : List Str) (sp : Sp) : Prop where
  len : ∀ vs H Q E, sp vs H Q E → vs.length = ps.length
  run : ∀ (A : Around) (outer : List PySem.Env) (s : Shared) (H : Hp) (args : Args) (us : List Value) (vs : List V) (Q : VK) (E : XK), Room k A → A.guards = some [] → Env0 P w K mg base A outer s H → BindsTo s fd args (ps.zip us) → Vals vs us → sp vs H Q E →
    codeAny (model P w) A (.call (.ref f) args) (CR CX outer P w H s Q E) s
theorem FnG.mono {P : Program} {w : World} {K : PySem.W.Frag} {mg : Str → Option Value} {base : Heap} {CX : CXT} {j k : Nat} {f : Addr} {fd : FuncData} {ps : List Str} {sp : Sp} (F : FnG P w K mg base CX j f fd ps sp) (h : j ≤ k) : FnG P w K mg base CX k f fd ps sp :=
  ⟨F.len, fun A outer s H args us vs Q E hr hg e b r p => F.run A outer s H args us vs Q E (hr.mono h) hg e b r p⟩

theorem make_guards {A : Around} {C : Addr} {us : List Value} {kw : List (Str × Value)} (h : A.guards = some []) : (A.under (.builtin "type.__call__" ⟨.ref C :: us, kw⟩)).guards = some [] := by
  show pushGuards (Code.builtin "type.__call__" ⟨.ref C :: us, kw⟩).guards A.guards = some []
  rw [h]
  rfl
theorem star_all {env : PySem.Env} {pos : Pos} : ∀ {es : List Expr}, noStar es = true → (backTo pos (starEach es env)).all (fun x => !x.1) = true
  | [], _ => rfl
  | e :: es, h => by
    obtain ⟨h1, h2⟩ := dec2 (show ((!isStar e) && es.all fun e => !isStar e) = true from h)
    rw [star_cons (by simpa using h1)]
    exact star_all (es := es) h2
/-- a method's call on one line, of few arguments -/
def oneLine : Expr → Bool
  | .Call (.Attribute x _ p) es _ p2 => natEq p.endLine p2.line && (leN es.length 25 && !calls0 x)
  | _ => false
theorem meth_tree {x : Expr} {m : Str} {p p2 : Pos} {as : List Expr} {env : PySem.Env} (h : oneLine (.Call (.Attribute x m p) as [] p2) = true) (hs : noStar as = true) : eval (.Call (.Attribute x m p) as [] p2) env = (do
      let ov ← eval x env
      standAt p.atName
      let (f, first) ← holding [ov] (getMethod ov m (do return (← importBound x env).getD true))
      callWith p2 f first (backTo p2 (starEach as env)) (backToKw p2 (keywordEach [] env))) := by
  obtain ⟨h1, h2⟩ := dec2 h
  obtain ⟨h2, h3⟩ := dec2 h2
  have hx : calls0 x = false := by simpa using h3
  have few : methodCallForm (as.length + ([] : List Keyword).length) (backTo p2 (starEach as env)) (backToKw p2 (keywordEach [] env)) = true := by
    unfold methodCallForm
    rw [star_all hs]
    have : as.length ≤ 25 := leN_iff.mp h2
    simp [keywordEach, backToKw]
    omega
  have hl : (p.endLine == p2.line) = true := beq_iff_eq.mpr (natEq_iff.mp h1)
  show (attributeBase x m env (eval x env) >>= fun ov => standAt p.atName >>= fun _ => methodCall x m p p2 env ov (as.length + ([] : List Keyword).length) (backTo p2 (starEach as env)) (backToKw p2 (keywordEach [] env))) = _
  rw [base_of hx]
  unfold methodCall
  rw [few]
  unfold calleeOf methodCallPos
  rw [hl]
  rfl
abbrev noX : WX := fun _ _ _ _ => False
theorem vis_cases {L : NmL} {x : Str} (h : visB L x = true) : L.lookup x = some .local ∨ L.lookup x = some .cell ∨ L.lookup x = some .free := by
  unfold visB at h
  rw [lookS_eq] at h
  split at h <;> first | exact .inl (by assumption) | exact .inr (.inl (by assumption)) | exact .inr (.inr (by assumption)) | cases h
theorem cap_cases {L : NmL} {x : Str} (h : capB L x = true) : L.lookup x = some .cell ∨ L.lookup x = some .free := by
  unfold capB at h
  rw [lookS_eq] at h
  split at h <;> first | exact .inl (by assumption) | exact .inr (by assumption) | cases h
theorem loc_cases {L : NmL} {x : Str} (h : locB L x = true) : L.lookup x = some .local ∨ L.lookup x = some .cell := by
  unfold locB at h
  rw [lookS_eq] at h
  split at h <;> first | exact .inl (by assumption) | exact .inr (by assumption) | cases h
theorem lcl_cases {L : NmL} {x : Str} (h : lclB L x = true) : L.lookup x = some .local := by
  unfold lclB at h
  rw [lookS_eq] at h
  split at h <;> first | assumption | cases h
theorem gl_cases {L : NmL} {x : Str} (h : glB L x = true) : L.lookup x = some .globalImplicit := by
  unfold glB at h
  rw [lookS_eq] at h
  split at h <;> first | assumption | cases h
def isComp : Expr → Bool
  | .ListComp _ _ _ _ => true
  | .SetComp _ _ _ _ => true
  | .DictComp _ _ _ _ _ => true
  | _ => false
theorem sw_nc {e : Expr} {tg : Option Expr} {l : Nat} {env : PySem.Env} (h : isComp e = false) : swapsWith e tg l env = pure false := by
  cases e <;> first | rfl | cases h
theorem sole_nc {e tg : Expr} {l : Nat} {env : PySem.Env} (h : isComp e = false) : swapsWithSole [tg] e l env = pure false := sw_nc h
def isName : Expr → Bool
  | .Name _ _ => true
  | _ => false
theorem sole_nn {e tg : Expr} {l : Nat} {env : PySem.Env} (h : isName tg = false) : swapsWithSole [tg] e l env = pure false := by
  cases tg <;> first | (cases e <;> rfl) | cases h
theorem sw_nn {e tg : Expr} {l : Nat} {env : PySem.Env} (h : isName tg = false) : swapsWith e (some tg) l env = pure false := sole_nn (e := e) (l := l) (env := env) h
/-! ### binding of plain parameters -/
theorem zip_lookup : ∀ {ps : List Str} {us : List Value}, us.length = ps.length → ∀ x ∈ ps, ((ps.zip us).lookup x).isSome = true
  | [], _, _, _, h => nomatch h
  | p :: ps, [], hl, _, _ => nomatch hl
  | p :: ps, u :: us, hl, x, h => by
    show (List.lookup x ((p, u) :: ps.zip us)).isSome = true
    rw [List.lookup_cons]
    by_cases e : x = p
    · subst e
      simp
    · rw [show (x == p) = false from beq_eq_false_iff_ne.mpr e]
      exact zip_lookup (Nat.succ.inj hl) x ((List.mem_cons.mp h).resolve_left e)
theorem zip_all : ∀ {ps : List Str} {us : List Value}, ps.Nodup → us.length = ps.length → (ps.filterMap fun n => ((ps.zip us).lookup n).map (n, ·)) = ps.zip us
  | [], [], _, _ => rfl
  | [], _ :: _, _, h => nomatch h
  | p :: ps, [], _, hl => nomatch hl
  | p :: ps, u :: us, nd, hl => by
    obtain ⟨h1, h2⟩ := List.nodup_cons.mp nd
    have e1 : (((p, u) :: ps.zip us).lookup p).map (p, ·) = some (p, u) := by simp [List.lookup]
    show List.filterMap (fun n => (((p, u) :: ps.zip us).lookup n).map (n, ·)) (p :: ps) = (p, u) :: ps.zip us
    rw [List.filterMap_cons, e1]
    show (p, u) :: List.filterMap (fun n => (((p, u) :: ps.zip us).lookup n).map (n, ·)) ps = _
    congr 1
    have key : ∀ l : List Str, (∀ n ∈ l, n ∈ ps) → l.filterMap (fun n => (((p, u) :: ps.zip us).lookup n).map (n, ·)) = l.filterMap fun n => ((ps.zip us).lookup n).map (n, ·) := fun l => by
      induction l with
      | nil => intro _; rfl
      | cons n l ih =>
        intro h
        have e2 : ((p, u) :: ps.zip us).lookup n = (ps.zip us).lookup n := by
          rw [List.lookup_cons, show (n == p) = false from beq_eq_false_iff_ne.mpr fun e => h1 (by rw [← e]; exact h n (List.mem_cons_self ..))]
        rw [List.filterMap_cons, List.filterMap_cons, e2, ih fun m hm => h m (List.mem_cons_of_mem _ hm)]
    rw [key ps fun _ h => h]
    exact zip_all h2 (Nat.succ.inj hl)
theorem bind_plain {x qual : Str} {as : List Arg} {body : List Stmt} {scope : Scope} {kV doc pm : Value} {an : Option Addr} {cdv ct : Value} {us : List Value} (hl : us.length = (as.map (·.arg)).length) (nd : (as.map (·.arg)).Nodup) :
    bindArgs (PySem.W.fnOf x qual ⟨[], as, none, [], [], none, []⟩ body scope .none kV doc pm an cdv ct) ⟨us, []⟩ = pure ((as.map (·.arg)).zip us) := by
  have hm : (((as.map (·.arg)).take ((as.map (·.arg)).length)).filter fun n => (((as.map (·.arg)).zip us).lookup n).isNone) = [] := by
    rw [List.take_length]
    refine List.filter_eq_nil_iff.mpr fun n hn => ?_
    have := zip_lookup hl n hn
    cases q : ((as.map (·.arg)).zip us).lookup n with
    | none => rw [q] at this; cases this
    | some _ => simp
  have e1 : seqItems? Value.none = pure none := rfl
  have hz : ((as.map (·.arg)).filterMap fun n => (((as.map (·.arg)).zip us).lookup n).map (n, ·)) = (as.map (·.arg)).zip us := zip_all nd hl
  rw [List.filterMap_map] at hz
  unfold bindArgs
  simp only [PySem.W.fnOf]
  rw [e1]
  simp [hl]
  rw [List.length_map] at hm
  rw [if_neg (by simp [hm]), hz]

/-! ### a def's body keeps its promise, where nothing is being shown -/
theorem fnG_of {P : Program} {w : World} {K : PySem.W.Frag} {mg : Str → Option Value} {base : Heap} {CX : CXT} {x qual : Str} {params : Arguments} {body : List Stmt} {scope : Scope} {dvs : List V} {kws : List (Str × V)} {f : Addr} {fd : FuncData} {N ps : List Str} {k : Nat} {sp : Sp}
    (F : FunD K x qual params body scope dvs kws f fd) (S : FnScope N ps scope) (len : ∀ vs H Q E, sp vs H Q E → vs.length = ps.length)
    (hbody : ∀ (cdv : Value) (A : Around) (outer : List PySem.Env) (s : Shared) (H : Hp) (vs : List V) (Q : VK) (E : XK), Room k (A.deeper (envOfC qual scope s.heap.objs.size f cdv)) → A.guards = some [] → sp vs H Q E →
      ∃ t, PSs (cxOf CX P w K mg base N qual scope f cdv A outer s H E) body t ∧ t { nx := fun _ H' => Q .non H', rt := Q } (start N vs) H) : FnG P w K mg base CX (k + 1) f fd ps sp := by
  obtain ⟨oc, od, dV, kV, doc, pm, an, cdv, ct, osl, rfl, lk, hcd, _, _⟩ := F.ex
  refine ⟨len, fun A outer s H args us vs Q E hr hg e0 hb r hsp => ?_⟩
  have keeps : ∀ b o, base.get? b = some o → s.heap.get? b = some o := fun b o e => (e0.bs b o e).1
  have KX : K.In s.heap := e0.mod.kin.keeps keeps
  have lim : s.heap.NoLimit := e0.mod.nolimit.keeps keeps
  have par : ∀ y ∈ ps.zip us, scope.names.lookup y.1 = some .local ∨ (scope.names.lookup y.1 = some .cell ∧ ((cellsFrom (s.heap.objs.size + 1) scope.names []).lookup y.1).isSome = true) := fun y hy => by
    rcases S.par y.1 (List.of_mem_zip (show (y.1, y.2) ∈ ps.zip us from hy)).1 with q | q
    · exact .inl q
    · exact .inr ⟨q, PySem.W.cellsFrom_some _ _ _ (.inl q)⟩
  obtain ⟨t, ht, hq⟩ := hbody cdv A outer s H vs Q E (hr.deeper _) hg hsp
  refine codeAny_call_function hr.depth (KX _ _ lk) rfl S.co S.gen rfl (PySem.W.codeRec_of KX hcd) (hb _ _ _ _ (wpAny_newFunctionEnv_cells S.kind par fun env he s1 x => ?_))
  subst he
  have I : L2.Inv (cxOf CX P w K mg base N qual scope f cdv A outer s H E) [] (start N vs) H s1 := inv_start S hr.hd e0 (len _ _ _ _ hsp) r x
  refine ⟨lim.keeps x.toInCall.keep, codeAny_func (wpAny_mono (ht.run [] s1 (start N vs) H _ I hq) (fun fl s' hs => ?_) fun e s' hs => hs)⟩
  match fl, hs with
  | .ret u, ⟨v, σ', H', J, rv, q⟩ => exact ⟨v, H', J.os, J.bare, J.base, J.hok, rv, q⟩
  | .next, ⟨σ', H', J, q⟩ => exact ⟨V.non, H', J.os, J.bare, J.base, J.hok, rfl, q⟩
  | .brk, ⟨_, _, _, q⟩ => exact False.elim q
  | .cont, ⟨_, _, _, q⟩ => exact False.elim q

/-! ### a def's check -/
def listEqS : List Str → List Str → Bool
  | [], [] => true
  | a :: x, b :: y => strEq a b && listEqS x y
  | _, _ => false
theorem listEqS_ok : ∀ {a b : List Str}, listEqS a b = true → a = b
  | [], [], _ => rfl
  | [], _ :: _, h => nomatch h
  | _ :: _, [], h => nomatch h
  | a :: x, b :: y, h => by
    obtain ⟨h1, h2⟩ := dec2 h
    rw [strEq_iff.mp h1, listEqS_ok h2]
def notFree : NameKind → Bool
  | .free => false
  | _ => true
def fnB (N ps : List Str) (sc : Scope) : Bool :=
  (match sc.kind with | .function => true | _ => false) && (!sc.isCoroutine && (!sc.isGenerator && (nodupB N && (listEqS (N.take ps.length) ps && (ps.all (fun x => locB sc.names x) && sc.names.all fun y => notFree y.2)))))
theorem fnB_ok {N ps : List Str} {sc : Scope} (h : fnB N ps sc = true) : FnScope N ps sc := by
  obtain ⟨h1, h⟩ := dec2 h
  obtain ⟨h2, h⟩ := dec2 h
  obtain ⟨h3, h⟩ := dec2 h
  obtain ⟨h4, h⟩ := dec2 h
  obtain ⟨h5, h⟩ := dec2 h
  obtain ⟨h6, h7⟩ := dec2 h
  refine ⟨?_, not_of' h2, not_of' h3, nodupB_ok h4, listEqS_ok h5, fun x hx => loc_cases (List.all_eq_true.mp h6 x hx), fun y hy e => ?_⟩
  · cases q : sc.kind <;> rw [q] at h1 <;> first | rfl | cases h1
  · have := List.all_eq_true.mp h7 y hy
    rw [e] at this
    cases this
def okNB (N : List Str) : Bool := N.all fun x => !strEq x "__debug__" && !strEq x "__classdict__"
theorem okNB_ok {N : List Str} (h : okNB N = true) : ∀ x, x ∈ N → (x == ("__debug__" : Str)) = false ∧ (x == ("__classdict__" : Str)) = false := fun x hx => by
  obtain ⟨h1, h2⟩ := dec2 (List.all_eq_true.mp h x hx)
  exact ⟨beq_eq_false_iff_ne.mpr (strEq_false (not_of' h1)), beq_eq_false_iff_ne.mpr (strEq_false (not_of' h2))⟩
/-- the parameters, when they are plain -/
def plainPs : Arguments → Option (List Arg)
  | ⟨[], as, none, [], [], none, []⟩ => some as
  | _ => none
theorem plainPs_eq {p : Arguments} {as : List Arg} (h : plainPs p = some as) : p = ⟨[], as, none, [], [], none, []⟩ := by
  unfold plainPs at h
  split at h
  · cases h; rfl
  · cases h
end Ev

set_option Elab.async false
set_option linter.all false
set_option maxRecDepth 100000
set_option maxHeartbeats 4000000
/-! Ev.Exc3: own exception classes in the hand layer. -/
namespace Ev
open PySem PySem.Spec L2

/-- the built-in class under an own exception class -/
inductive Tl where
  | ve | ke | oe | re
def Tl.l : Tl → List Value
  | .ve => [.type "ValueError", .type "Exception", .type "BaseException", .type "object"]
  | .ke => [.type "KeyError", .type "LookupError", .type "Exception", .type "BaseException", .type "object"]
  | .oe => [.type "OverflowError", .type "ArithmeticError", .type "Exception", .type "BaseException", .type "object"]
  | .re => [.type "RuntimeError", .type "Exception", .type "BaseException", .type "object"]
def Tl.new : Tl → String
  | .ve => "ValueError.__new__"
  | .ke => "LookupError.__new__"
  | .oe => "OverflowError.__new__"
  | .re => "RuntimeError.__new__"
def Tl.ini : Tl → String
  | .ve => "ValueError.__init__"
  | .ke => "KeyError.__init__"
  | .oe => "OverflowError.__init__"
  | .re => "RuntimeError.__init__"
def Tl.T : Tl → String
  | .ve => "ValueError"
  | .ke => "KeyError"
  | .oe => "OverflowError"
  | .re => "RuntimeError"
def stripR : List Value → List Value
  | .ref _ :: r => stripR r
  | l => l
theorem strip_cases (a : Value) (r : List Value) : (∃ c, a = .ref c ∧ stripR (a :: r) = stripR r) ∨ stripR (a :: r) = a :: r := by
  cases a <;> first | exact .inl ⟨_, rfl, rfl⟩ | exact .inr rfl
theorem strip_contains (X : String) : ∀ l : List Value, l.contains (.type X) = (stripR l).contains (.type X)
  | [] => rfl
  | a :: r => by
    rcases strip_cases a r with ⟨c, rfl, e⟩ | e
    · rw [e, ← strip_contains X r, List.contains_cons]
      rfl
    · rw [e]
theorem strip_pass (self : Value) (n : Str) : ∀ l : List Value, refuseLoop self n l = refuseLoop self n (stripR l)
  | [] => rfl
  | a :: r => by
    rcases strip_cases a r with ⟨c, rfl, e⟩ | e
    · rw [e, ← strip_pass self n r, refuseLoop_ref]
    · rw [e]
/-- what the text says of the class at C -/
structure XcK (K : PySem.W.Frag) (C : Addr) (k : Tl) : Prop where
  cls : ∃ nm q N bs bm sn sub ab col dd k0 k1 k2 k3 k5, K.lookup C = some (excClassObj nm q C N bs bm true sn sub ab col dd k0 k1 k2 k3 k5 k.new) ∧ stripR bm = k.l
  sa : PySem.W.findIn K (.ref C) "__setattr__" = some (some (.builtin "object.__setattr__"))
  tyC : PySem.W.typeIn K (.ref C) = some (.type "type")
  kC : PySem.W.keepIn K (.ref C) = true
  ex : ExcC K C
theorem XcK.fld {K : PySem.W.Frag} {C : Addr} {k : Tl} (T : XcK K C k) : XfC K C := ⟨T.ex.hg, T.ex.hk, T.ex.hs, T.ex.hd⟩
def eqL : List Value → List Value → Bool
  | [], [] => true
  | a :: x, b :: y => decide (a = b) && eqL x y
  | _, _ => false
theorem eqL_ok : ∀ {a b : List Value}, eqL a b = true → a = b
  | [], [], _ => rfl
  | [], _ :: _, h => nomatch h
  | _ :: _, [], h => nomatch h
  | a :: x, b :: y, h => by
    obtain ⟨h1, h2⟩ := dec2 h
    rw [of_decide_eq_true h1, eqL_ok h2]
def xcO (K : PySem.W.Frag) (C : Addr) (k : Tl) : Bool := match K.lookup C with
  | some ⟨.type "type", _, .cls cd, ⟨[_, _, _, _, some (.builtin n), _]⟩⟩ => (match cd.mro with
    | .ref C' :: bm => decide (C' = C) && (decide (n = k.new) && (!cd.hasDel && (cd.hasDict && eqL (stripR bm) k.l)))
    | _ => false)
  | _ => false
theorem xcO_ok {K : PySem.W.Frag} {C : Addr} {k : Tl} (h : xcO K C k = true) : ∃ nm q N bs bm sn sub ab col dd k0 k1 k2 k3 k5, K.lookup C = some (excClassObj nm q C N bs bm true sn sub ab col dd k0 k1 k2 k3 k5 k.new) ∧ stripR bm = k.l := by
  unfold xcO at h
  split at h
  · rename_i dd cd k0 k1 k2 k3 n k5 e
    split at h
    · rename_i C' bm hm
      obtain ⟨h1, h⟩ := dec2 h
      obtain ⟨h2, h⟩ := dec2 h
      obtain ⟨h3, h⟩ := dec2 h
      obtain ⟨h4, h5⟩ := dec2 h
      have e1 := of_decide_eq_true h1
      have e2 := of_decide_eq_true h2
      have e3 := not_of' h3
      obtain ⟨nm, bs, mro, ns, qn, hd, sn, sb, ab, col, del⟩ := cd
      dsimp only at hm e3 h4
      subst hm e1 e2 e3 h4
      exact ⟨nm, qn, ns, bs, bm, sn, sb, ab, col, dd, k0, k1, k2, k3, k5, e, eqL_ok h5⟩
    · cases h
  · cases h
def eqOO (a b : Option (Option Value)) : Bool := decide (a = b)
def excB (K : PySem.W.Frag) (D : Addr) : Bool :=
  decide (PySem.W.findIn K (.ref D) "__getattribute__" = some (some (.builtin "BaseException.__getattribute__"))) && (decide (PySem.W.findIn K (.ref D) "__getattr__" = some none) && (decide (PySem.W.subIn K (.ref D) (.type "BaseException") = some true) &&
    (PySem.W.hasDictIn K D && (decide (PySem.W.findIn K (.ref D) "__class__" = some (some (.builtin "object.__class__"))) && (decide (PySem.W.specialIn K (.builtin "object.__class__") "__get__" = some (some (.builtin "getset_descriptor.__get__"))) &&
      (decide (PySem.W.takesIn K (.builtin "object.__class__") = some true) && decide (PySem.W.mroIn K D (.type "object") = some true)))))))
theorem excB_ok {K : PySem.W.Frag} {D : Addr} (h : excB K D = true) : ExcC K D := by
  obtain ⟨h1, h⟩ := dec2 h
  obtain ⟨h2, h⟩ := dec2 h
  obtain ⟨h3, h⟩ := dec2 h
  obtain ⟨h4, h⟩ := dec2 h
  obtain ⟨h5, h⟩ := dec2 h
  obtain ⟨h6, h⟩ := dec2 h
  obtain ⟨h7, h8⟩ := dec2 h
  exact ⟨of_decide_eq_true h1, of_decide_eq_true h2, of_decide_eq_true h3, h4, of_decide_eq_true h5, of_decide_eq_true h6, of_decide_eq_true h7, of_decide_eq_true h8⟩
def xcB (K : PySem.W.Frag) (C : Addr) (k : Tl) : Bool := xcO K C k && (decide (PySem.W.findIn K (.ref C) "__setattr__" = some (some (.builtin "object.__setattr__"))) && (decide (PySem.W.typeIn K (.ref C) = some (.type "type")) && (PySem.W.keepIn K (.ref C) && excB K C)))
theorem xcB_ok {K : PySem.W.Frag} {C : Addr} {k : Tl} (h : xcB K C k = true) : XcK K C k := by
  obtain ⟨h1, h⟩ := dec2 h
  obtain ⟨h2, h⟩ := dec2 h
  obtain ⟨h3, h⟩ := dec2 h
  obtain ⟨h4, h5⟩ := dec2 h
  exact ⟨xcO_ok h1, of_decide_eq_true h2, of_decide_eq_true h3, h4, excB_ok h5⟩

section
variable {X : Cx} {pins : List (Addr × Obj)} {σ : L2.St} {H : Hp} {s : Shared} {a C dx : Addr} {k : Tl} {f : Str} {y : V} {u : Value}
/-- the exception gets its dict -/
theorem inv_dict {h' : Heap} {t' : Nat} (I : L2.Inv X pins σ H s) (e : H a = some (exo a C none)) (ry : RelV y u) (kp : ∀ b o, b ≠ a → s.heap.get? b = some o → h'.get? b = some o) (dn : s.heap.objs.size ≤ dx)
    (hx : ∃ t1 : Addr, h'.get? a = some ({ cls := .ref C, dict := some dx, data := .fields #[.ref t1, .none, .none, .none, .bool false, .none] } : Obj)) (hn : h'.Ns1 dx (fun z => if z = f then some u else none)) :
    L2.Inv X pins σ (upd (upd H dx (exd dx [(f, y)])) a (exo a C (some dx))) { s with heap := h', toks := t' } := by
  obtain ⟨t1, hx⟩ := hx
  have hd : H dx = none := I.hok.fresh dn
  have old : ∀ {b : Addr} {o : Obj}, s.heap.get? b = some o → b ≠ dx := fun q => Nat.ne_of_lt (Nat.lt_of_lt_of_le (Heap.lt_size q) dn)
  have un : ∀ {b : Addr}, H b = none → b ≠ a := fun n z => by rw [z, e] at n; cases n
  have ne : ∀ {b : Addr} {o : HO}, H b = some o → exo a C none ≠ o → b ≠ a ∧ b ≠ dx := fun q z => ⟨at_ne e q z, ne_of_none q hd⟩
  have look : ∀ {b : Addr}, b ≠ a → b ≠ dx → upd (upd H dx (exd dx [(f, y)])) a (exo a C (some dx)) b = H b := fun h1 h2 => by rw [upd_ne h1, upd_ne h2]
  refine I.un (t' := t') ⟨fun b o q n _ _ => kp b o (un n) q, fun b o q n _ _ => ⟨o.slots, kp b o (un n) q⟩, fun b o q n _ => by rw [look (un n) (old q)]; exact n, fun b o q _ => ?_,
    fun b xs q => by rw [look (ne q exo_tup).1 (ne q exo_tup).2]; exact q, fun b o v q => by rw [look (ne q exo_frz).1 (ne q exo_frz).2]; exact q, fun b ps q => ⟨#[], by rw [look (ne q exo_tbl).1 (ne q exo_tbl).2, q]; simp⟩⟩ fun b o q => ?_
  · by_cases hb : b = a
    · exact ⟨_, by rw [hb]; exact hx⟩
    · exact ⟨o, kp b o hb q⟩
  · by_cases hb : b = a
    · subst hb
      rw [upd_same] at q
      cases q
      exact exo_ok hx
    · by_cases hb2 : b = dx
      · subst hb2
        rw [upd_ne hb, upd_same] at q
        cases q
        exact exd_ok hn (relO_put (fs := []) ry fun g => True.intro)
      · rw [look hb hb2] at q
        refine (I.hok b o q).stay (fun c v hc z => kp c v ?_ z) (fun c hc => by rw [look (ne hc exo_own).1 (ne hc exo_own).2]; exact hc) fun c xs hc => by rw [look (ne hc exo_tup).1 (ne hc exo_tup).2]; exact hc
        rcases hc with hc | hc
        · rw [hc]; exact hb
        · exact (ne hc exo_own).1
theorem XcK.passes {K : PySem.W.Frag} {C : Addr} {bm : List Value} (e : stripR bm = k.l) (self : Value) : refuseLoop self "__setattr__" (.ref C :: bm) = pure () := by
  rw [refuseLoop_ref, strip_pass, e]
  cases k with
  | ve => exact F.store_ValueError.passes self
  | ke => exact storeKey self
  | oe => exact F.store_OverflowError.passes self
  | re => exact F.store_RuntimeError.passes self
/-- self.f = y -/
theorem ost_x {A : Around} {E : Value → Shared → Prop} {Q : Unit → Shared → Prop} (T : XcK X.K C k) (I : L2.Inv X pins σ H s) (e : H a = some (exo a C none)) (hno : PySem.W.findIn X.K (.ref C) f = some none) (ry : RelV y u)
    (h : ∀ dx s', H dx = none → dx ≠ a → L2.Inv X pins σ (upd (upd H dx (exd dx [(f, y)])) a (exo a C (some dx))) s' → Q () s') : wpAny (model X.prog X.w) A (setAttr (.ref a) f u) Q E s := by
  obtain ⟨nm, q, N, bs, bm, sn, sub, ab, col, dd, k0, k1, k2, k3, k5, hC, hbm⟩ := T.cls
  have hcl : PySem.W.clsIn X.K C = some { name := nm, bases := bs, mro := .ref C :: bm, ns := N, qualname := q, hasDict := true, slotNames := sn, subclasses := sub, abstract := ab, collection := col, hasDel := false } := by unfold PySem.W.clsIn; rw [hC] <;> rfl
  have hob : (Value.ref C :: bm).contains (.type "object") = true := by
    rw [List.contains_cons, strip_contains, hbm, show k.l.contains (.type "object") = true by cases k <;> decide +kernel, Bool.or_true]
  obtain ⟨t1, ho⟩ := exo_at I.hok e
  obtain ⟨hp, g, d, t, os⟩ := s
  refine PySem.W.set_plain I.kIn (ox := { cls := .ref C, dict := none, data := .fields #[.ref t1, .none, .none, .none, .bool false, .none] }) (od := none) ⟨ho, rfl, rfl, trivial⟩ T.sa ?_
  exact osa_x I.kIn ho hcl (XcK.passes (K := X.K) hbm _) hob rfl hno fun h' tk' dx kp dn dne hx hn => h dx _ (I.hok.fresh dn) dne (inv_dict (t' := tk') I e ry (fun b o hb q => kp b o hb q) dn ⟨t1, hx⟩ hn)
/-- T.__init__(self, ..) -/
theorem oinit_x {A : Around} {E : Value → Shared → Prop} {us : List Value} {Q : Value → Shared → Prop} (T : XcK X.K C k) (I : L2.Inv X pins σ H s) (e : H a = some (exo a C none)) (hl : us.length ≤ sizeLine) (h : ∀ s', L2.Inv X pins σ H s' → Q .none s') :
    wpAny (model X.prog X.w) A (call (.builtin k.ini) (.ref a :: us)) Q E s := by
  obtain ⟨nm, q, N, bs, bm, sn, sub, ab, col, dd, k0, k1, k2, k3, k5, hC, hbm⟩ := T.cls
  obtain ⟨t1, ho⟩ := exo_at I.hok e
  obtain ⟨hp, g, d, t, os⟩ := s
  have F : InF k.T k.ini := by
    cases k with
    | ve => exact InF.of F.excBase_ValueError
    | ke => exact InF.key
    | oe => exact InF.of F.excBase_OverflowError
    | re => exact InF.of F.excBase_RuntimeError
  have hT : bm.contains (.type k.T) = true := by
    rw [strip_contains, hbm]
    cases k <;> decide +kernel
  refine wpAny_call (init_x F hT (I.kIn _ _ hC) ho hl fun h' t2 kp hx => ?_)
  have J := I.write (t' := t) (x := a) (e := a) (o := exo a C none) (by rw [e]; exact True.intro) (.inl rfl) kp ⟨_, hx⟩ (exo_ok hx)
  have eu : upd H a (exo a C none) = H := by
    funext b
    by_cases hb : b = a
    · rw [hb, upd_same, e]
    · rw [upd_ne hb]
  rw [eu] at J
  exact h _ J
end
end Ev

set_option Elab.async false
set_option linter.all false
set_option maxRecDepth 100000
set_option maxHeartbeats 4000000
/-! Ev.Exc4: __init__ of an own exception class, and the class called. -/
namespace Ev
open PySem PySem.Spec PyProof.Rows L2

/-- the base's __init__ as the class at Cb (or the built-in type) shows it -/
inductive BaseAt (K : PySem.W.Frag) (mg : Str → Option Value) (k : Tl) (b : Str) : Prop where
  | own (Cb : Addr) (hm : mg b = some (.ref Cb)) (hd : (b == ("__debug__" : Str)) = false) (rd : PySem.W.readsIn K Cb (.type "type") = true) (fc : PySem.W.findCls K (.ref Cb) (.type "type") "__init__" = some (.val (.builtin k.ini)))
      (sg : PySem.W.specialIn K (.ref Cb) "__getattribute__" = some (some (.builtin "type.__getattribute__")))
  | blt (hb : b = Str.ofString k.T) (hm : mg b = none) (fc : PySem.W.findCls K (.type k.T) (.type "type") "__init__" = some (.val (.builtin k.ini)))
theorem keepB (k : Tl) {env : PySem.Env} {pos : Pos} {e : Expr} {es : List Expr} {M : Model} {A : Around} {E : Value → Shared → Prop} {s : Shared} {Q : Value → Shared → Prop} (h : wpAny M A (spliced (backTo pos (starEach (e :: es) env))) (fun us s1 => wpAny M A (call (.builtin k.ini) us) Q E s1) E s)
    (he : starEach (e :: es) env = (false, eval e env) :: starEach es env) (hpl : (backTo pos (starEach es env)).any (·.1) = false) : wpAny M A (callWith pos (.builtin k.ini) [] (backTo pos (starEach (e :: es) env)) []) Q E s :=
  PyProof.Rows.callWith_method1 h he hpl
section
variable {X : Cx} {ta : TA} {k : Tl} {b : Str} {e : Expr} {es : List Expr} {p1 p2 pos : Pos}
def tBI (K : PySem.W.Frag) (k : Tl) (ta : TA) : TE := fun σ H Q => ta σ H fun vs H1 => ∃ (a C : Addr) (ws : List V), vs = .ref a :: ws ∧ ws.length ≤ 1000 ∧ XcK K C k ∧ H1 a = some (exo a C none) ∧ Q .non H1
theorem pe_binit {pl : Sem Bool} (B : BaseAt X.K X.mg k b) (hg : Gl X b) (ha : PA X (e :: es) ta)
    (hc : eval (.Call (.Attribute (.Name b p1) "__init__" p2) (e :: es) [] pos) X.env = (do
      let ov ← eval (.Name b p1) X.env
      standAt p2.atName
      let (f, first) ← holding [ov] (getMethod ov "__init__" pl)
      callWith pos f first (backTo pos (starEach (e :: es) X.env)) (backToKw pos (keywordEach [] X.env))))
    (he : starEach (e :: es) X.env = (false, eval e X.env) :: starEach es X.env) (hpl : (backTo pos (starEach es X.env)).any (·.1) = false) :
    PE X (.Call (.Attribute (.Name b p1) "__init__" p2) (e :: es) [] pos) (tBI X.K k ta) := by
  refine ⟨fun pins s σ H Q I h => ?_⟩
  have fin : ∀ s', L2.Inv X pins σ H s' → wpAny (model X.prog X.w) X.A (callWith pos (.builtin k.ini) [] (backTo pos (starEach (e :: es) X.env)) []) (EP X pins σ Q) X.xe s' := fun s' I => by
    refine keepB k (thn (ha.run pos pins _ σ H _ I h) fun us s1 ⟨vs, H1, I1, r1, a, C, ws, ev, hl, T, ea, q⟩ => ?_) he hpl
    subst ev
    cases r1 with
    | @cons _ u0 _ ur ra rw' =>
      obtain rfl : u0 = Value.ref a := ra
      have hlen : ur.length ≤ sizeLine := by
        rw [← Paired.length rw', sizeLine_eq]
        omega
      exact oinit_x T I1 ea hlen fun s' J => ⟨.non, H1, J, rfl, q⟩
  cases B with
  | own Cb hm hd rd fc sg =>
    refine PySem.W.methodCall_KW (ld_glob I hg hm ?_ hd) hc
    refine PySem.W.method_cls I.kIn sg (PySem.W.cls_value I.kIn rd fc (by cases k <;> rfl) ?_)
    exact fin _ (I.tok _)
  | blt hb hm fc =>
    subst hb
    have go : ∀ {u : Value}, bootBuiltins (Str.ofString k.T) = some u → (Str.ofString k.T) ≠ "__name__" → ((Str.ofString k.T) == ("__debug__" : Str)) = false → u = .type k.T → typeOf (.type k.T) = pure (.type "type") → Manifest.isStub k.T = false →
        wpAny (model X.prog X.w) X.A (eval (.Call (.Attribute (.Name (Str.ofString k.T) p1) "__init__" p2) (e :: es) [] pos) X.env) (EP X pins σ Q) X.xe s := fun hb hn hd hu ht hs => by
      subst hu
      refine PySem.W.methodCall_KW (ld_blt I hg hm hb ?_ hn hd) hc
      obtain ⟨m, fr⟩ := I.fr
      exact PySem.W.method_type fr I.ok.mod.kin ht hs fc (by cases k <;> rfl) (fin _ (I.tok _))
    cases k with
    | ve => exact go PyProof.Rows.Boot.«ValueError» (by decide) (by decide) rfl (by kernel_rfl) (by decide +kernel)
    | ke => exact go PyProof.Rows.Boot.«KeyError» (by decide) (by decide) rfl (by kernel_rfl) (by decide +kernel)
    | oe => exact go PyProof.Rows.Boot.«OverflowError» (by decide) (by decide) rfl (by kernel_rfl) (by decide +kernel)
    | re => exact go PyProof.Rows.Boot.«RuntimeError» (by decide) (by decide) rfl (by kernel_rfl) (by decide +kernel)
/-- self.f = e -/
def tOx (K : PySem.W.Frag) (k : Tl) (f : Str) (to te : TE) : TS := fun D σ H => te σ H fun y H1 => to σ H1 fun x H2 => ∃ a C : Addr, x = .ref a ∧ XcK K C k ∧ PySem.W.findIn K (.ref C) f = some none ∧
  H2 a = some (exo a C none) ∧ ∀ dx, H2 dx = none → dx ≠ a → D.nx σ (upd (upd H2 dx (exd dx [(f, y)])) a (exo a C (some dx)))
theorem ps_ox {o x : Expr} {f : Str} {to te : TE} {p' : Pos} (ho : PE X o to) (he : PE X x te) : PS X (.Assign [.Attribute o f p'] x pos) (tOx X.K k f to te) := by
  refine ⟨fun pins s σ H D I h => ?_⟩
  refine plainObj_wpAny_Assign_Attribute (thn (he.run pins s σ H _ I h) fun v s1 ⟨y, H1, I1, r1, q1⟩ => thn (ho.run pins s1 σ H1 _ I1 q1) fun u s2 ⟨x, H2, I2, r2, a, C, ex, T, hno, ea, q⟩ => ?_) (sw_nn rfl)
  subst ex
  obtain rfl : u = Value.ref a := r2
  exact ost_x T I2 ea hno r1 fun dx s' n ne J => ⟨σ, _, J, q dx n ne⟩
end

/-- what __init__ of such a class promises: (self, x): self.f = x -/
def spX (C : Addr) (f : Str) : Sp := fun vs H Q _ => ∃ a v, vs = [.ref a, v] ∧ H a = some (exo a C none) ∧ ∀ dx, H dx = none → dx ≠ a → Q .non (upd (upd H dx (exd dx [(f, v)])) a (exo a C (some dx)))
/-- the def's shape: b.__init__(self, '..'); self.f = p -/
def iniB (b f : Str) (d : He.DefD) : Bool := match d.params, d.dfl, d.body with
  | ⟨[], [a1, a2], none, [], [], none, []⟩, [], [.Expr (.Call (.Attribute (.Name b' p1) i p2) [.Name s1 q1, .Constant (.str z) c1 c2] [] pos) pos', .Assign [.Attribute (.Name s2 q2) f' p'] (.Name x2 q3) pos''] =>
    strEq b' b && (strEq i "__init__" && (strEq s1 a1.arg && (strEq s2 a1.arg && (strEq x2 a2.arg && (strEq f' f && (natEq p2.endLine pos.line && (fnB [a1.arg, a2.arg] [a1.arg, a2.arg] d.scope && (okNB [a1.arg, a2.arg] && glB d.scope.names b'))))))))
  | _, _, _ => false
theorem init_ok {P : Program} {w : World} {K : PySem.W.Frag} {mg : Str → Option Value} {base : Heap} {CX : CXT} {d : He.DefD} {fI C : Addr} {fd : FuncData} {b f : Str} {k : Tl} (F : FunD K d.name d.qual d.params d.body d.scope (d.dvs K) (d.kws K) fI fd) (h : iniB b f d = true)
    (T : XcK K C k) (B : BaseAt K mg k b) (hno : PySem.W.findIn K (.ref C) f = some none) :
    ∃ a1 a2 : Arg, d.params = ⟨[], [a1, a2], none, [], [], none, []⟩ ∧ a1.arg ≠ a2.arg ∧ FunD K d.name d.qual ⟨[], [a1, a2], none, [], [], none, []⟩ d.body d.scope [] (d.kws K) fI fd ∧ FnG P w K mg base CX 1 fI fd [a1.arg, a2.arg] (spX C f) := by
  unfold iniB at h
  split at h
  · rename_i a1 a2 b' p1 i p2 s1 q1 z c1 c2 pos pos' s2 q2 f' p' x2 q3 pos'' e1 e2 e3
    obtain ⟨h1, h⟩ := dec2 h
    obtain ⟨h2, h⟩ := dec2 h
    obtain ⟨h3, h⟩ := dec2 h
    obtain ⟨h4, h⟩ := dec2 h
    obtain ⟨h5, h⟩ := dec2 h
    obtain ⟨h6, h⟩ := dec2 h
    obtain ⟨h7, h⟩ := dec2 h
    obtain ⟨h8, h⟩ := dec2 h
    obtain ⟨h9, h10⟩ := dec2 h
    have S := fnB_ok h8
    have dv : d.dvs K = [] := by unfold He.DefD.dvs; rw [e2]; rfl
    have F' := F
    rw [dv, e1] at F'
    refine ⟨a1, a2, e1, ?_, F', ?_⟩
    · have := S.nd
      simp at this
      exact this
    rw [dv, e1, e3] at F
    have i1 := strEq_iff.mp h1
    have i2 := strEq_iff.mp h2
    have i3 := strEq_iff.mp h3
    have i4 := strEq_iff.mp h4
    have i5 := strEq_iff.mp h5
    have i6 := strEq_iff.mp h6
    subst i1 i2 i3 i6
    have ok := okNB_ok h9
    refine fnG_of (k := 0) F S (fun vs H Q E ⟨a, v, ev, _⟩ => by rw [ev]; rfl) fun cdv A outer s H vs Q E hr hg hs => ?_
    obtain ⟨a, v, ev, ea, q⟩ := hs
    have vis : ∀ x, x ∈ [a1.arg, a2.arg] → Vis d.scope x := fun x hx => by
      rcases S.par x hx with z | z
      · exact .inl z
      · exact .inr (.inl z)
    generalize hX : cxOf CX P w K mg base [a1.arg, a2.arg] d.qual d.scope fI cdv A outer s H E = X
    have hK : X.K = K := by rw [← hX]; rfl
    have hmg : X.mg = mg := by rw [← hX]; rfl
    have hN : X.N = [a1.arg, a2.arg] := by rw [← hX]; rfl
    have hsc : X.env.scope = d.scope := by rw [← hX]; rfl
    have v0 : PE X (.Name a1.arg q1) (tVar 0) := pe_var (by rw [hN]; rfl) (by rw [hsc]; exact vis _ (by simp)) (ok _ (by simp)).1 (ok _ (by simp)).2
    have v0' : PE X (.Name s2 q2) (tVar 0) := by rw [i4]; exact pe_var (by rw [hN]; rfl) (by rw [hsc]; exact vis _ (by simp)) (ok _ (by simp)).1 (ok _ (by simp)).2
    have v1 : PE X (.Name x2 q3) (tVar 1) := by rw [i5]; exact pe_var (by rw [hN]; rfl) (by rw [hsc]; exact vis _ (by simp)) (ok _ (by simp)).1 (ok _ (by simp)).2
    have B' : BaseAt X.K X.mg k b' := by rw [hK, hmg]; exact B
    have hgl : Gl X b' := by show X.env.scope.names.lookup b' = _; rw [hsc]; exact gl_cases h10
    have one : oneLine (.Call (.Attribute (.Name b' p1) "__init__" p2) [.Name a1.arg q1, .Constant (.str z) c1 c2] [] pos) = true := by
      show (natEq p2.endLine pos.line && _) = true
      rw [h7]
      rfl
    have st := pe_binit (pl := _) B' hgl (pa_cons v0 (pa_cons pe_str pa_nil rfl) rfl) (meth_tree one rfl) rfl rfl
    refine ⟨_, pss_cons (ps_expr st (sw_nc rfl)) (pss_one (ps_ox (k := k) v0' v1)), ?_⟩
    subst ev
    refine ⟨.ref a, rfl, a, C, [.str z], rfl, by show 1 ≤ 1000; decide, by rw [hK]; exact T, ea, ?_⟩
    refine ⟨v, rfl, .ref a, rfl, a, C, rfl, by rw [hK]; exact T, by rw [hK]; exact hno, ea, fun dx h1 h2 => q dx h1 h2⟩
  · cases h
end Ev

set_option Elab.async false
set_option linter.all false
set_option maxRecDepth 100000
set_option maxHeartbeats 4000000
/-! Ev.Exc5: an own exception class called, by position or by name. -/
namespace Ev
open PySem PySem.Spec PyProof.Rows L2

theorem bind_kw {x qual : Str} {a1 a2 : Arg} {body : List Stmt} {scope : Scope} {kV doc pm : Value} {an : Option Addr} {cdv ct : Value} {u v : Value} (ne : a1.arg ≠ a2.arg) :
    bindArgs (PySem.W.fnOf x qual ⟨[], [a1, a2], none, [], [], none, []⟩ body scope .none kV doc pm an cdv ct) ⟨[u], [(a2.arg, v)]⟩ = pure [(a1.arg, u), (a2.arg, v)] := by
  have e1 : seqItems? Value.none = pure none := rfl
  have n1 : (a2.arg == a1.arg) = false := beq_eq_false_iff_ne.mpr (Ne.symm ne)
  have n2 : (a1.arg == a2.arg) = false := beq_eq_false_iff_ne.mpr ne
  unfold bindArgs
  simp only [PySem.W.fnOf]
  rw [e1]
  simp [List.lookup, n1, n2]
section
variable {X : Cx} {W : WX} {pins : List (Addr × Obj)} {σ : L2.St} {H1 : Hp} {s1 : Shared} {C fI : Addr} {k : Tl} {f : Str} {fd : FuncData} {p1 p2 : Str} {v : V} {u : Value} {us : List Value} {kw : List (Str × Value)} {Q : VK}
/-- the class's facts, for its call -/
structure XcC (X : Cx) (C : Addr) (k : Tl) (f : Str) (fI : Addr) (fd : FuncData) (p1 p2 : Str) : Prop where
  T : XcK X.K C k
  iC : PySem.W.findIn X.K (.ref C) "__init__" = some (some (.ref fI))
  tI : PySem.W.typeIn X.K (.ref fI) = some (.type "function")
  F : FnG X.prog X.w X.K X.mg X.base (L2.CX X.prog X.w) 1 fI fd [p1, p2] (spX C f)
  b1 : ∀ (s : Shared) (x u : Value), BindsTo s fd ⟨[x, u], []⟩ [(p1, x), (p2, u)]
  b2 : ∀ (s : Shared) (x u : Value), BindsTo s fd ⟨[x], [(p2, u)]⟩ [(p1, x), (p2, u)]
theorem upd_twice {H : Hp} {a dx : Addr} {o1 o2 o3 : HO} (ne : dx ≠ a) : upd (upd (upd H a o1) dx o2) a o3 = upd (upd H dx o2) a o3 := by
  funext b
  by_cases h : b = a
  · rw [h, upd_same, upd_same]
  · rw [upd_ne h, upd_ne h]
    by_cases h2 : b = dx
    · rw [h2, upd_same, upd_same]
    · rw [upd_ne h2, upd_ne h2, upd_ne h]
theorem run_mkx (S : XcC X C k f fI fd p1 p2) (Tk : Takes X W) (hr : Room 2 X.A) (hgd : X.A.guards = some []) (I1 : L2.Inv X pins σ H1 s1) (rv : RelV v u) (hz : us.length ≤ 1)
    (b : ∀ (s : Shared) (x : Value), BindsTo s fd ⟨x :: us, kw⟩ [(p1, x), (p2, u)]) (q : ∀ a dx, H1 a = none → H1 dx = none → dx ≠ a → Q (.ref a) (upd (upd H1 dx (exd dx [(f, v)])) a (exo a C (some dx)))) :
    wpAny (model X.prog X.w) X.A (call (.ref C) us kw) (EP X pins σ Q) X.xe s1 := by
  obtain ⟨nm, qn, N, bs, bm, sn, sub, ab, col, dd, k0, k1, k2, k3, k5, hC, hbm⟩ := S.T.cls
  obtain ⟨hp, g, dr, tk, os⟩ := s1
  have hsz : hp.objs.size ≤ hp.objs.size + 1 := Nat.le_succ _
  have hn : H1 (hp.objs.size + 1) = none := I1.hok.fresh hsz
  have kk : ∀ b o, hp.get? b = some o → ((hp.push (PySem.W.kdv_tup us)).push (PySem.HandSPX.excO C hp.objs.size)).get? b = some o := fun b o e => Heap.get?_push_of_some _ (Heap.get?_push_of_some _ e)
  have hget : ((hp.push (PySem.W.kdv_tup us)).push (PySem.HandSPX.excO C hp.objs.size)).get? (hp.objs.size + 1) = some (PySem.HandSPX.excO C hp.objs.size) := by heap_get
  have I2 : L2.Inv X pins σ (upd H1 (hp.objs.size + 1) (exo (hp.objs.size + 1) C none)) ⟨(hp.push (PySem.W.kdv_tup us)).push (PySem.HandSPX.excO C hp.objs.size), g, dr, tk, os⟩ :=
    I1.laid (t' := tk) (a := hp.objs.size + 1) (o := exo (hp.objs.size + 1) C none) (h' := (hp.push (PySem.W.kdv_tup us)).push (PySem.HandSPX.excO C hp.objs.size)) kk hsz (exo_ok hget)
  have sp : spX C f [.ref (hp.objs.size + 1), v] (upd H1 (hp.objs.size + 1) (exo (hp.objs.size + 1) C none)) (fun x H2 => x = .non ∧ Q (.ref (hp.objs.size + 1)) H2) (WE noX σ) :=
    ⟨hp.objs.size + 1, v, rfl, upd_same, fun dx h1 ne => ⟨rfl, by
      rw [upd_twice ne]
      rw [upd_ne ne] at h1
      exact q _ dx hn h1 ne⟩⟩
  have r2 : Vals [V.ref (hp.objs.size + 1), v] [Value.ref (hp.objs.size + 1), u] := .cons rfl (.cons rv .nil)
  have hus : us.length ≤ sizeLine := by
    rw [sizeLine_eq]
    omega
  have Tx : Takes X noX := Tk.imp fun _ _ _ _ z => z.elim
  have bB : ∀ T : String, bm.contains (.type T) = k.l.contains (.type T) := fun T => by rw [strip_contains, hbm]
  have run := codeAny_mono (S.F.run (X.A.under (.builtin "type.__call__" ⟨.ref C :: us, kw⟩)) X.stack _ _ ⟨Value.ref (hp.objs.size + 1) :: us, kw⟩ [Value.ref (hp.objs.size + 1), u] _ _ (WE noX σ) (hr.make C us kw) (make_guards hgd) (I2.env0.make C us kw) (b _ _) r2 sp)
    (R' := PySem.W.InitBack (hp.objs.size + 1) fun r s' => match r with
      | .ok (.ret v) => EP X pins σ Q v s'
      | .ok _ => False
      | .error e => X.xe e s') fun r s' hq' => by
    match r, hq' with
    | .error er, hq' => exact passAt Tx σ pins _ _ er s' I2 hq'
    | .ok (.ret x), hq' =>
      obtain ⟨v', H', I3, rv', ev, q3⟩ := I2.after hq'
      subst ev
      exact ⟨rv', ⟨V.ref (hp.objs.size + 1), H', I3, rfl, q3⟩⟩
    | .ok .next, hq' => exact False.elim hq'
    | .ok .brk, hq' => exact False.elim hq'
    | .ok .cont, hq' => exact False.elim hq'
  have goal : codeAny (model X.prog X.w) X.A (.call (.ref C) ⟨us, kw⟩) (fun r s' => match r with
      | .ok (.ret v) => EP X pins σ Q v s'
      | .ok _ => False
      | .error e => X.xe e s') ⟨hp, g, dr, tk, os⟩ := by
    have li := PySem.W.looks_findIn (M := model X.prog X.w) I1.kIn S.iC
    have lb := fun self => PySem.W.bind_fn (M := model X.prog X.w) I1.kIn self S.tI
    cases k with
    | ve => exact call_x F.excBase_ValueError (by rw [bB]; decide +kernel) (by rw [bB]; decide +kernel) (by rw [bB]; decide +kernel) (I1.kIn _ _ hC) li lb hus run
    | ke => exact call_x F.excBase_LookupError (by rw [bB]; decide +kernel) (by rw [bB]; decide +kernel) (by rw [bB]; decide +kernel) (I1.kIn _ _ hC) li lb hus run
    | oe => exact call_x F.excBase_OverflowError (by rw [bB]; decide +kernel) (by rw [bB]; decide +kernel) (by rw [bB]; decide +kernel) (I1.kIn _ _ hC) li lb hus run
    | re => exact call_x F.excBase_RuntimeError (by rw [bB]; decide +kernel) (by rw [bB]; decide +kernel) (by rw [bB]; decide +kernel) (I1.kIn _ _ hC) li lb hus run
  refine wpAny_call (codeAny_mono goal fun r s' hq => ?_)
  match r, hq with
  | .error er, hq => exact hq
  | .ok (.ret x), hq => exact hq
  | .ok .next, hq => exact hq
  | .ok .brk, hq => exact hq
  | .ok .cont, hq => exact hq
def tMkx (C : Addr) (f : Str) (te : TE) : TE := fun σ H Q => te σ H fun v H1 => ∀ a dx, H1 a = none → H1 dx = none → dx ≠ a → Q (.ref a) (upd (upd H1 dx (exd dx [(f, v)])) a (exo a C (some dx)))
variable {x : Str} {e : Expr} {te : TE} {p pos kp : Pos}
theorem pe_mkx (S : XcC X C k f fI fd p1 p2) (Tk : Takes X W) (hr : Room 2 X.A) (hgd : X.A.guards = some []) (hg : Gl X x) (hm : X.mg x = some (.ref C)) (hd : (x == ("__debug__" : Str)) = false) (he : PE X e te) (hs : isStar e = false) :
    PE X (.Call (.Name x p) [e] [] pos) (tMkx C f te) := by
  refine ⟨fun pins s σ H Q I h => wpAny_Call_Name_kw (ld_glob I hg hm ?_ hd)⟩
  refine PySem.W.callWith_K (h₀ := X.base) I.ok.mod.kin S.T.kC ?_ (star_cons hs) rfl
  rw [star_cons hs]
  refine Calls.spliced_cons (thn (he.run pins s σ H _ I h) fun u s1 ⟨v, H1, I1, r1, q⟩ => ?_)
  refine Calls.spliced_nil ⟨I1.kIn, ?_⟩
  exact run_mkx S Tk hr hgd I1 r1 (Nat.le_refl 1) (fun s x => S.b1 s x u) q
theorem pe_mkxK (S : XcC X C k f fI fd p1 p2) (Tk : Takes X W) (hr : Room 2 X.A) (hgd : X.A.guards = some []) (hg : Gl X x) (hm : X.mg x = some (.ref C)) (hd : (x == ("__debug__" : Str)) = false) (he : PE X e te) :
    PE X (.Call (.Name x p) [] [⟨some p2, e, kp⟩] pos) (tMkx C f te) := by
  refine ⟨fun pins s σ H Q I h => wpAny_Call_Name_kw (ld_glob I hg hm ?_ hd)⟩
  refine PySem.W.callWith_KW0 (h₀ := X.base) I.ok.mod.kin S.T.kC rfl ?_ rfl
  have hk := (pk_cons (nm := some p2) (kpos := kp) he pk_nil).run pos pins s σ H (fun vs H1 => match vs with
    | [v] => ∀ a dx, H1 a = none → H1 dx = none → dx ≠ a → Q (.ref a) (upd (upd H1 dx (exd dx [(f, v)])) a (exo a C (some dx)))
    | _ => False) I ?_
  · refine thn hk fun us s1 ⟨vs, H1, I1, r1, q⟩ => ?_
    match vs, q with
    | [], q => exact q.elim
    | _ :: _ :: _, q => exact q.elim
    | [v], q =>
    obtain ⟨u, rfl, rv⟩ := vals1 r1
    exact ⟨I1.kIn, run_mkx (us := []) (kw := [(p2, u)]) S Tk hr hgd I1 rv (Nat.zero_le 1) (fun s x => S.b2 s x u) q⟩
  · exact h
end
end Ev

set_option Elab.async false
set_option linter.all false
set_option maxRecDepth 100000
/-! Ev.Snd4: calls, by what a def promises; what a loop walks. -/
namespace Ev
open PySem PySem.Spec PyProof.Rows L2

/-- what a def promises -/
def spF (G : Gm) (cf : CF) (f : Nat) : Sp := fun vs H Q E => ∃ s xs, s.H = H ∧ Rep G s ∧ Rvs G s xs vs ∧
  Out G s (cf f xs s.st) (fun v t => ∀ u, Rv G t v u → Q u t.H) (fun c v t => ∀ cls d, XR G t c v cls d → E cls d t.H)

section
variable {X : Cx} {CX : CXT} {k : Nat} {f C : Addr} {fd : FuncData} {ps : List Str} {sp : Sp} {E : L2.St → XK} {x m : Str} {p pos apos : Pos} {e o : Expr} {es : List Expr} {ta : TE} {t : TA}
theorem run_fnG {pins : List (Addr × Obj)} {σ : L2.St} {H : Hp} {s : Shared} {Q : VK} {us : List Value} {vs : List V} (F : FnG X.prog X.w X.K X.mg X.base CX k f fd ps sp) (hr : Room k X.A) (hg : X.A.guards = some []) (hb : Binds X.K fd ps []) (hx : PassesAt CX X σ (E σ))
    (I : L2.Inv X pins σ H s) (r : Vals vs us) (h : sp vs H Q (E σ)) : wpAny (model X.prog X.w) X.A (call (.ref f) us) (EP X pins σ Q) X.xe s := by
  have hl : (us ++ []).length = ps.length := by rw [List.append_nil, ← r.length]; exact F.len _ _ _ _ h
  have b := hb s us I.kIn hl
  rw [List.append_nil] at b
  refine wpAny_call (codeAny_mono (F.run X.A X.stack s H ⟨us, []⟩ us vs Q (E σ) hr hg I.env0 b r h) fun r s' hq => ?_)
  match r, hq with
  | .error e, hq => exact hx pins H s e s' I hq
  | .ok (.ret u), hq => exact I.after hq
  | .ok .next, hq => exact False.elim hq
  | .ok .brk, hq => exact False.elim hq
  | .ok .cont, hq => exact False.elim hq
theorem pe_callG (F : FnG X.prog X.w X.K X.mg X.base CX k f fd ps sp) (hr : Room k X.A) (hgd : X.A.guards = some []) (hg : Gl X x) (hm : X.mg x = some (.ref f)) (hk : PySem.W.keepIn X.K (.ref f) = true) (hb : Binds X.K fd ps []) (hx : ∀ σ, PassesAt CX X σ (E σ))
    (ha : PA X (e :: es) t) (hdb : (x == ("__debug__" : Str)) = false) (he : starEach (e :: es) X.env = (false, eval e X.env) :: starEach es X.env) (hpl : (backTo pos (starEach es X.env)).any (·.1) = false) :
    PE X (.Call (.Name x p) (e :: es) [] pos) (tCallS sp E t) :=
  ⟨fun pins s σ H Q I h => wpAny_Call_Name_kw (ld_glob I hg hm (PySem.W.callWith_K (h₀ := X.base) I.ok.mod.kin hk (thn (ha.run pos pins s σ H _ I h) fun us s1 ⟨vs, H1, I1, r, q⟩ => ⟨I1.kIn, run_fnG F hr hgd hb (hx σ) I1 r q⟩) he hpl) hdb)⟩
theorem pe_callG0 (F : FnG X.prog X.w X.K X.mg X.base CX k f fd ps sp) (hr : Room k X.A) (hgd : X.A.guards = some []) (hg : Gl X x) (hm : X.mg x = some (.ref f)) (hk : PySem.W.keepIn X.K (.ref f) = true) (hb : Binds X.K fd ps []) (hx : ∀ σ, PassesAt CX X σ (E σ))
    (hdb : (x == ("__debug__" : Str)) = false) : PE X (.Call (.Name x p) [] [] pos) (tCallS sp E tNil) :=
  ⟨fun pins s σ H Q I h => wpAny_Call_Name_kw (ld_glob I hg hm (PySem.W.callWith_K0 I.kIn hk (run_fnG (us := []) F hr hgd hb (hx σ) I .nil h)) hdb)⟩
def tMethS (C : Addr) (m : Str) (sp : Sp) (E : L2.St → XK) (ta : TE) (t : TA) : TE := fun σ H Q => ta σ H fun x H1 => ∃ a dx fs, x = .ref a ∧ H1 a = some (.ins C dx fs) ∧ fs.lookup m = none ∧
  t σ H1 fun vs H2 => sp (x :: vs) H2 Q (E σ)
/-- what an instance's method is, by its class: chosen at the run -/
structure MethS (X : Cx) (CX : CXT) (k : Nat) (C : Addr) (m : Str) (sp : Sp) : Prop where
  c : Cls X.K C
  ex : ∃ f fd ps, Meth X.K C m f ∧ FnG X.prog X.w X.K X.mg X.base CX k f fd ps sp ∧ Binds X.K fd ps []
/-- o.m(e, ..), the class as the receiver has it -/
def tMethA (X : Cx) (CX : CXT) (k : Nat) (m : Str) (E : L2.St → XK) (ta : TE) (t : TA) : TE := fun σ H Q => ta σ H fun x H1 => ∃ a C dx fs sp, x = .ref a ∧ H1 a = some (.ins C dx fs) ∧ fs.lookup m = none ∧ MethS X CX k C m sp ∧
  t σ H1 fun vs H2 => sp (x :: vs) H2 Q (E σ)
theorem pe_methA {pl : Sem Bool} (he : PE X o ta) (hr : Room k X.A) (hgd : X.A.guards = some []) (hx : ∀ σ, PassesAt CX X σ (E σ)) (ha : PA X (e :: es) t)
    (hst : starEach (e :: es) X.env = (false, eval e X.env) :: starEach es X.env) (hpl : (backTo pos (starEach es X.env)).any (·.1) = false)
    (ht : eval (.Call (.Attribute o m apos) (e :: es) [] pos) X.env = (do
      let ov ← eval o X.env
      standAt apos.atName
      let (f, first) ← holding [ov] (getMethod ov m pl)
      callWith pos f first (backTo pos (starEach (e :: es) X.env)) (backToKw pos (keywordEach [] X.env)))) :
    PE X (.Call (.Attribute o m apos) (e :: es) [] pos) (tMethA X CX k m E ta t) := by
  refine ⟨fun pins s σ H Q I h => ?_⟩
  refine PySem.W.methodCall_KW (pl := pl) (thn (he.run pins s σ H _ I h) fun u s1 ⟨x, H1, I1, rx, a, C, dx, fs, sp, ex, ea, l, ms, q⟩ => ?_) ht
  subst ex
  obtain rfl : u = Value.ref a := rx
  obtain ⟨f, fd, ps, hm, F, hb⟩ := ms.ex
  refine getmeth_ok I1 ea ms.c hm l ?_
  refine PySem.W.callWith_K (first := [.ref a]) (h₀ := X.base) I.ok.mod.kin hm.kp (thn (ha.run pos pins s1 σ H1 _ I1 q) fun us s2 ⟨vs, H2, I2, r, q2⟩ => ⟨I2.kIn, ?_⟩) hst hpl
  exact run_fnG (us := .ref a :: us) (vs := .ref a :: vs) F hr hgd hb (hx σ) I2 (.cons rfl r) q2
theorem pe_methA0 {pl : Sem Bool} (he : PE X o ta) (hr : Room k X.A) (hgd : X.A.guards = some []) (hx : ∀ σ, PassesAt CX X σ (E σ))
    (ht : eval (.Call (.Attribute o m apos) [] [] pos) X.env = (do
      let ov ← eval o X.env
      standAt apos.atName
      let (f, first) ← holding [ov] (getMethod ov m pl)
      callWith pos f first (backTo pos (starEach [] X.env)) (backToKw pos (keywordEach [] X.env)))) :
    PE X (.Call (.Attribute o m apos) [] [] pos) (tMethA X CX k m E ta tNil) := by
  refine ⟨fun pins s σ H Q I h => ?_⟩
  refine PySem.W.methodCall_KW (pl := pl) (thn (he.run pins s σ H _ I h) fun u s1 ⟨x, H1, I1, rx, a, C, dx, fs, sp, ex, ea, l, ms, q⟩ => ?_) ht
  subst ex
  obtain rfl : u = Value.ref a := rx
  obtain ⟨f, fd, ps, hm, F, hb⟩ := ms.ex
  refine getmeth_ok I1 ea ms.c hm l ?_
  exact PySem.W.callWith_K0 (first := [.ref a]) I1.kIn hm.kp (run_fnG (us := [.ref a]) (vs := [.ref a]) F hr hgd hb (hx σ) I1 (.cons rfl .nil) q)
theorem run_makeS {pins : List (Addr × Obj)} {σ : L2.St} {H : Hp} {s : Shared} {Q : VK} {us : List Value} {vs : List V} (M : Mk X.K C f) (F : FnG X.prog X.w X.K X.mg X.base CX k f fd ps sp) (hr : Room (k + 1) X.A) (hgd : X.A.guards = some []) (hb : Binds X.K fd ps [])
    (hx : PassesAt CX X σ (E σ)) (I : L2.Inv X pins σ H s) (r : Vals vs us)
    (h : ∀ x dx, H x = none → H dx = none → dx ≠ x → sp (.ref x :: vs) (upd (upd H dx (.own x)) x (.ins C dx [])) (fun v H2 => v = .non ∧ Q (.ref x) H2) (E σ)) :
    wpAny (model X.prog X.w) X.A (call (.ref C) us) (EP X pins σ Q) X.xe s := by
  have hq := h (s.heap.objs.size + 1) s.heap.objs.size (I.hok.fresh (Nat.le_succ _)) (I.hok.fresh (Nat.le_refl _)) (Nat.ne_of_lt (Nat.lt_succ_self _))
  have I2 := L2.Inv.made (C := C) I
  have r2 : Vals (V.ref (s.heap.objs.size + 1) :: vs) (Value.ref (s.heap.objs.size + 1) :: us) := .cons rfl r
  have hl : (Value.ref (s.heap.objs.size + 1) :: us).length = ps.length := by
    have e := r2.length
    rw [F.len _ _ _ _ hq] at e
    exact e.symm
  have b := hb _ (Value.ref (s.heap.objs.size + 1) :: us) I2.kIn (by rw [List.append_nil]; exact hl)
  rw [List.append_nil] at b
  refine wpAny_call (make_map (f := f) I.kIn M.makes M.init (beq_iff_eq.mp M.fn) (codeAny_mono (F.run _ X.stack _ _ ⟨Value.ref (s.heap.objs.size + 1) :: us, []⟩ (Value.ref (s.heap.objs.size + 1) :: us) _ _ (E σ) (hr.make C us []) (make_guards hgd)
    (I2.env0.make C us []) b r2 hq) fun r s' hq' => ?_))
  cases r with
  | error e => exact hx pins _ _ e s' I2 hq'
  | ok fl =>
    cases fl with
    | ret u =>
      obtain ⟨v, H', I3, rv, ev, q3⟩ := I2.after hq'
      subst ev
      exact ⟨rv, ⟨V.ref (s.heap.objs.size + 1), H', I3, rfl, q3⟩⟩
    | next => exact False.elim hq'
    | brk => exact False.elim hq'
    | cont => exact False.elim hq'
def tMakeS (C : Addr) (sp : Sp) (E : L2.St → XK) (t : TA) : TE := fun σ H Q => t σ H fun vs H1 => ∀ x dx, H1 x = none → H1 dx = none → dx ≠ x →
  sp (.ref x :: vs) (upd (upd H1 dx (.own x)) x (.ins C dx [])) (fun v H2 => v = .non ∧ Q (.ref x) H2) (E σ)
theorem pe_makeS (M : Mk X.K C f) (F : FnG X.prog X.w X.K X.mg X.base CX k f fd ps sp) (hr : Room (k + 1) X.A) (hgd : X.A.guards = some []) (hg : Gl X x) (hm : X.mg x = some (.ref C)) (hb : Binds X.K fd ps []) (hx : ∀ σ, PassesAt CX X σ (E σ))
    (ha : PA X (e :: es) t) (hdb : (x == ("__debug__" : Str)) = false) (he : starEach (e :: es) X.env = (false, eval e X.env) :: starEach es X.env) (hpl : (backTo pos (starEach es X.env)).any (·.1) = false) :
    PE X (.Call (.Name x p) (e :: es) [] pos) (tMakeS C sp E t) := by
  refine ⟨fun pins s σ H Q I h => ?_⟩
  refine wpAny_Call_Name_kw (ld_glob I hg hm ?_ hdb)
  refine PySem.W.callWith_K (h₀ := X.base) I.ok.mod.kin M.kp (thn (ha.run pos pins s σ H _ I h) fun us s1 ⟨vs, H1, I1, r, q⟩ => ⟨I1.kIn, ?_⟩) he hpl
  exact run_makeS M F hr hgd hb (hx σ) I1 r q
end

def nameIs (L : NmL) (e : Expr) (x : Str) : Bool := match aName e with
  | some y => strEq y x && glB L y
  | none => false
theorem nameIs_ok {L : NmL} {e : Expr} {x : Str} (h : nameIs L e x = true) : ∃ p, e = .Name x p ∧ glB L x = true := by
  unfold nameIs at h
  cases q : aName e with
  | none => rw [q] at h; cases h
  | some y =>
    rw [q] at h
    obtain ⟨h1, h2⟩ := dec2 h
    obtain ⟨p, rfl⟩ := aName_eq q
    rw [strEq_iff.mp h1] at h2 ⊢
    exact ⟨p, rfl, h2⟩
/-! ### the context -/
structure Data where
  P : Prog
  /-- the functions of the module, by name -/
  gf : Nat → Bool
  /-- its constants -/
  isC : Nat → Bool
  /-- its classes -/
  isK : Nat → Bool
/-- built-in names that are not hidden -/
def blN : List Str := ["len", "int", "abs", "sum", "max", "min", "all", "any", "tuple", "list", "str", "repr", "sorted", "range", "enumerate", "zip", "isinstance", "dict", "bool", "ValueError", "KeyError", "OverflowError", "RuntimeError"]

def btN : Bt → String
  | .non => "NoneType"
  | .bl => "bool"
  | .int => "int"
  | .str => "str"
  | .tup => "tuple"
  | .lst => "list"
  | .dct => "dict"
  | .ve => "ValueError"
  | .ke => "KeyError"
  | .oe => "OverflowError"
  | .re => "RuntimeError"
def tyV (G : Gm) : Ty → Value
  | .b t => .type (btN t)
  | .c k => .ref (G.ca k)
structure Ok (D : Data) (G : Gm) (n : Nat) (cf : CF) (X : Cx) (N : List Str) (L : NmL) : Prop where
  K : X.K = G.K
  calm : X.calm = true
  room : Room (n + 1) X.A
  gd : X.A.guards = some []
  n1 : 1 ≤ n
  kind : X.env.scope.kind = .function
  nd : X.N.Nodup
  N_ : X.N = N
  vis : ∀ x, visB L x = true → Vis X.env.scope x
  cap : ∀ x, capB L x = true → X.env.scope.names.lookup x = some .cell ∨ X.env.scope.names.lookup x = some .free
  loc : ∀ x, locB L x = true → Loc X.env.scope x ∧ (X.fn x = true ∨ X.env.scope.names.lookup x = some .local)
  gl : ∀ x, glB L x = true → Gl X x
  okN : ∀ x, x ∈ N → (x == ("__debug__" : Str)) = false ∧ (x == ("__classdict__" : Str)) = false
  bl : ∀ x, x ∈ blN → X.mg x = none
  fn : ∀ f F, D.P.fn f = some F → ∃ fd ps, FnG X.prog X.w X.K X.mg X.base (L2.CX X.prog X.w) n (G.ga f) fd ps (spF G cf f) ∧ Binds X.K fd ps [] ∧ PySem.W.keepIn X.K (.ref (G.ga f)) = true
  gf : ∀ f, D.gf f = true → X.mg (nt f) = some (.ref (G.ga f)) ∧ (nt f == ("__debug__" : Str)) = false
  me : ∀ c m f, D.P.T.me c m = some f → Cls X.K (G.ca c) ∧ Meth X.K (G.ca c) (nt m) (G.ga f) ∧ ∃ F, D.P.fn f = some F
  ini : ∀ c f, D.P.T.ini c = some f → Mk X.K (G.ca c) (G.ga f) ∧ X.mg (nt c) = some (.ref (G.ca c)) ∧ (nt c == ("__debug__" : Str)) = false ∧ ∃ F, D.P.fn f = some F
  fd : ∀ c m, memN m (D.P.T.fd c) = true → Cls X.K (G.ca c) ∧ NoAttr X.K (G.ca c) (nt m)
  gc : ∀ k, D.isC k = true → ∃ v u, X.mg (nt k) = some u ∧ RelV v u ∧ (nt k == ("__debug__" : Str)) = false ∧ ∀ s, Rv G s (D.P.T.gc k) v
  xc : ∀ c f, D.P.T.xi c = some f → (∃ k fI fd p1 p2, XcC X (G.ca c) k (nt f) fI fd p1 p2 ∧ ∀ y, D.P.T.xp c = some y → p2 = nt y) ∧ X.mg (nt c) = some (.ref (G.ca c)) ∧ (nt c == ("__debug__" : Str)) = false ∧ PySem.W.findIn X.K (.ref (G.ca c)) (nt f) = some none
  isT : ∀ u t b, D.P.T.isT u t = some b → PySem.W.kitOne X.K (tyV G u) (tyV G t) = some b ∧ ∀ c, u = .c c → ExcC X.K (G.ca c)
  kls : ∀ k, D.isK k = true → X.mg (nt k) = some (.ref (G.ca k)) ∧ (nt k == ("__debug__" : Str)) = false

/-! ### what a loop walks -/
/-- from s on, J yields these -/
structure Wk (G : Gm) (s : Sit) (J : It) (items : List Val) : Prop where
  go : ∀ t, Le G s t → Rep G t → ∀ i x, items[i]? = some x → J.go i t.H ∧ ∀ v H', J.yld i t.H v H' → ∃ t', t'.H = H' ∧ t'.st = t.st ∧ Le G t t' ∧ Rep G t' ∧ Rv G t' x v
  stop : ∀ t, Le G s t → Rep G t → J.stop items.length t.H
section
variable {G : Gm} {s : Sit}
theorem wk_list {a : Addr} {vs : List V} {items : List Val} (h : ∀ t, Le G s t → Rep G t → SqL G.K t.H a vs) (r : Rvs G s items vs) (R : Rep G s) : Wk G s (Itl G.K a) items where
  go := fun t l p i x e => by
    have q := h t l p
    obtain ⟨v, h1, h2⟩ := (Rvs.le R l _ _ r).get e
    refine ⟨⟨vs, v, q, h1⟩, fun v' H' y => ?_⟩
    obtain ⟨e1, y⟩ := y
    have e2 := y vs q
    rw [h1] at e2
    cases e2
    exact ⟨t, e1.symm, rfl, Le.refl t, p, h2⟩
  stop := fun t l p => ⟨vs, h t l p, by rw [r.length]; exact Nat.le_refl _⟩
theorem wk_tup {a : Addr} {vs : List V} {items : List Val} (q0 : SqT G.K s.H a vs) (r : Rvs G s items vs) (R : Rep G s) : Wk G s (Itt G.K a) items where
  go := fun t l p i x e => by
    have q := SqT.le R l q0
    obtain ⟨v, h1, h2⟩ := (Rvs.le R l _ _ r).get e
    refine ⟨⟨vs, v, q, h1⟩, fun v' H' y => ?_⟩
    obtain ⟨e1, y⟩ := y
    have e2 := y vs q
    rw [h1] at e2
    cases e2
    exact ⟨t, e1.symm, rfl, Le.refl t, p, h2⟩
  stop := fun t l p => ⟨vs, SqT.le R l q0, by rw [r.length]; exact Nat.le_refl _⟩
theorem rangeV_get : ∀ {n i : Nat} {lo : Int} {x : Val}, (rangeV lo n)[i]? = some x → i < n ∧ x = .int (lo + i)
  | 0, i, lo, x, h => by
    have h : ([] : List Val)[i]? = some x := h
    simp at h
  | n + 1, 0, lo, x, h => by
    have h : some (Val.int lo) = some x := h
    cases h
    exact ⟨Nat.succ_pos _, by simp⟩
  | n + 1, i + 1, lo, x, h => by
    have h : (rangeV (lo + 1) n)[i]? = some x := h
    obtain ⟨h1, h2⟩ := rangeV_get h
    exact ⟨Nat.succ_lt_succ h1, by rw [h2]; congr 1; omega⟩
theorem rangeV_len : ∀ {n : Nat} {lo : Int}, (rangeV lo n).length = n
  | 0, _ => rfl
  | n + 1, lo => by
    show (rangeV (lo + 1) n).length + 1 = n + 1
    rw [rangeV_len]
theorem wk_range {lo : Int} {n : Nat} : Wk G s (Itr lo n) (rangeV lo n) where
  go := fun t l p i x e => by
    obtain ⟨h1, h2⟩ := rangeV_get e
    refine ⟨h1, fun v' H' y => ?_⟩
    obtain ⟨e1, y⟩ := y
    exact ⟨t, e1.symm, rfl, Le.refl t, p, by rw [h2, y]; rfl⟩
  stop := fun t l p => by
    show n ≤ (rangeV lo n).length
    rw [rangeV_len]
    exact Nat.le_refl _
theorem enumV_get : ∀ {xs : List Val} {i : Nat} {lo : Int} {x : Val}, (enumV lo xs)[i]? = some x → ∃ y, xs[i]? = some y ∧ x = .tup [.int (lo + i), y]
  | [], i, lo, x, h => by
    have h : ([] : List Val)[i]? = some x := h
    simp at h
  | y :: ys, 0, lo, x, h => by
    have h : some (Val.tup [.int lo, y]) = some x := h
    cases h
    exact ⟨y, rfl, by simp⟩
  | y :: ys, i + 1, lo, x, h => by
    have h : (enumV (lo + 1) ys)[i]? = some x := h
    obtain ⟨z, h1, h2⟩ := enumV_get h
    refine ⟨z, h1, ?_⟩
    rw [h2]
    congr 3
    omega
theorem enumV_len : ∀ {xs : List Val} {lo : Int}, (enumV lo xs).length = xs.length
  | [], _ => rfl
  | y :: ys, lo => by
    show (enumV (lo + 1) ys).length + 1 = ys.length + 1
    rw [enumV_len]
theorem rvs_pair {t : Sit} {x y : Val} {v w : V} (r1 : Rv G t x v) (r2 : Rv G t y w) : Rvs G t [x, y] [v, w] := ⟨v, [w], rfl, r1, w, [], rfl, r2, rfl⟩
theorem wk_enum {a : Addr} {vs : List V} {items : List Val} (h : ∀ t, Le G s t → Rep G t → SqL G.K t.H a vs) (r : Rvs G s items vs) (R : Rep G s) : Wk G s (Ite G.K a) (enumV 0 items) where
  go := fun t l p i x e => by
    have q := h t l p
    obtain ⟨z, e1, e2⟩ := enumV_get e
    obtain ⟨v, h1, h2⟩ := (Rvs.le R l _ _ r).get e1
    refine ⟨⟨vs, v, q, h1⟩, fun v' H' y => ?_⟩
    obtain ⟨T, x', e3, hT, e4, y⟩ := y
    have e5 := y vs q
    rw [h1] at e5
    cases e5
    subst e3
    refine ⟨t.lay T (.tup [.int i, v]), e4.symm, rfl, Le.lay hT, Rep.lay p hT, ?_⟩
    rw [e2]
    refine lay_tup p hT (rvs_pair ?_ h2)
    show V.int i = V.int (0 + i)
    rw [Int.zero_add]
  stop := fun t l p => ⟨vs, h t l p, by rw [enumV_len, r.length]; exact Nat.le_refl _⟩
theorem zipV_get : ∀ {xs ys : List Val} {i : Nat} {x : Val}, (zipV xs ys)[i]? = some x → ∃ y z, xs[i]? = some y ∧ ys[i]? = some z ∧ x = .tup [y, z]
  | [], ys, i, x, h => by
    have h : ([] : List Val)[i]? = some x := by cases ys <;> exact h
    simp at h
  | y :: xs, [], i, x, h => by
    have h : ([] : List Val)[i]? = some x := h
    simp at h
  | y :: xs, z :: ys, 0, x, h => by
    have h : some (Val.tup [y, z]) = some x := h
    cases h
    exact ⟨y, z, rfl, rfl, rfl⟩
  | y :: xs, z :: ys, i + 1, x, h => zipV_get (xs := xs) (ys := ys) (i := i) h
theorem zipV_len : ∀ {xs ys : List Val}, (zipV xs ys).length = xs.length ∨ (zipV xs ys).length = ys.length
  | [], ys => .inl (by cases ys <;> rfl)
  | _ :: _, [] => .inr rfl
  | x :: xs, y :: ys => by
    show (zipV xs ys).length + 1 = xs.length + 1 ∨ (zipV xs ys).length + 1 = ys.length + 1
    rcases zipV_len (xs := xs) (ys := ys) with h | h
    · left; rw [h]
    · right; rw [h]
theorem wk_zip {a b : Addr} {vs ws : List V} {xs ys : List Val} (h : ∀ t, Le G s t → Rep G t → SqL G.K t.H a vs ∧ SqL G.K t.H b ws) (r : Rvs G s xs vs) (r' : Rvs G s ys ws) (R : Rep G s) : Wk G s (Itz G.K a b) (zipV xs ys) where
  go := fun t l p i x e => by
    obtain ⟨q, q'⟩ := h t l p
    obtain ⟨y, z, e1, e2, e3⟩ := zipV_get e
    obtain ⟨v, h1, h2⟩ := (Rvs.le R l _ _ r).get e1
    obtain ⟨w, h3, h4⟩ := (Rvs.le R l _ _ r').get e2
    refine ⟨⟨vs, ws, v, w, q, q', h1, h3⟩, fun v' H' y => ?_⟩
    obtain ⟨T, x', y', e4, hT, e5, y1, y2⟩ := y
    have e6 := y1 vs q
    rw [h1] at e6
    cases e6
    have e7 := y2 ws q'
    rw [h3] at e7
    cases e7
    subst e4
    refine ⟨t.lay T (.tup [v, w]), e5.symm, rfl, Le.lay hT, Rep.lay p hT, ?_⟩
    rw [e3]
    exact lay_tup p hT (rvs_pair h2 h4)
  stop := fun t l p => by
    obtain ⟨q, q'⟩ := h t l p
    refine ⟨vs, ws, q, q', ?_⟩
    rcases zipV_len (xs := xs) (ys := ys) with e | e
    · left; rw [e, r.length]; exact Nat.le_refl _
    · right; rw [e, r'.length]; exact Nat.le_refl _
end
end Ev

set_option Elab.async false
set_option linter.all false
set_option maxRecDepth 100000
/-! Ev.Snd5: the parts of the structural theorem: readings, one construct each. -/
namespace Ev
open PySem PySem.Spec PyProof.Rows L2

section
variable {D : Data} {G : Gm} {n : Nat} {cf : CF} {X : Cx} {N : List Str} {L : NmL} {W : WX} {fa fb fc : Env → St → R Val} {f : St → Val → Val → R Val} {fs : Env → St → R (List Val)}

theorem tR_then {σ : L2.St} {H : Hp} {Q Q' : VK} {k : Val → Env → St → R Val} (h : tR G W (fun env s => (fa env s).andThen fun x s1 => k x env s1) σ H Q)
    (next : ∀ x v t env, Rep G t → EnvR G t env σ → Rv G t x v → Out G t (k x env t.st) (fun v t => ∀ u, Rv G t v u → Q u t.H) (fun c v t => ∀ cls d, XR G t c v cls d → W cls d σ t.H) → Q' v t.H) : tR G W fa σ H Q' := by
  obtain ⟨s, env, e, R, E, o⟩ := h
  exact ⟨s, env, e, R, E, o.bind.mono (fun x t l p o2 v rv => next x v t env p (E.le R l) rv o2) fun _ _ _ _ _ x => x⟩
theorem tA_then {σ : L2.St} {H : Hp} {Q : VK} {Q' : List V → Hp → Prop} {k : List Val → Env → St → R Val} (h : tR G W (fun env s => (fs env s).andThen fun x s1 => k x env s1) σ H Q)
    (next : ∀ xs vs t env, Rep G t → EnvR G t env σ → Rvs G t xs vs → Out G t (k xs env t.st) (fun v t => ∀ u, Rv G t v u → Q u t.H) (fun c v t => ∀ cls d, XR G t c v cls d → W cls d σ t.H) → Q' vs t.H) : tA G W fs σ H Q' := by
  obtain ⟨s, env, e, R, E, o⟩ := h
  exact ⟨s, env, e, R, E, o.bind.mono (fun x t l p o2 v rv => next x v t env p (E.le R l) rv o2) fun _ _ _ _ _ x => x⟩
theorem tT_of {σ : L2.St} {H : Hp} {Q : Bool → Hp → Prop} (h : tT G W fa σ H Q) : tR G W fa σ H fun x H' => ∃ k, TruV G.K x H' k ∧ Q k H' := by
  obtain ⟨s, env, e, R, E, o⟩ := h
  exact ⟨s, env, e, R, E, o.mono (fun x t l p ⟨b, h1, h2⟩ v rv => ⟨b, tru_rel p h1 rv, h2⟩) fun _ _ _ _ _ x => x⟩
theorem tT_then {σ : L2.St} {H : Hp} {Q : VK} {Q' : Bool → Hp → Prop} {k : Val → Env → St → R Val} (h : tR G W (fun env s => (fa env s).andThen fun x s1 => k x env s1) σ H Q)
    (next : ∀ x t env, Rep G t → EnvR G t env σ → Out G t (k x env t.st) (fun v t => ∀ u, Rv G t v u → Q u t.H) (fun c v t => ∀ cls d, XR G t c v cls d → W cls d σ t.H) → ∃ b, truV t.st x = some b ∧ Q' b t.H) : tT G W fa σ H Q' := by
  obtain ⟨s, env, e, R, E, o⟩ := h
  exact ⟨s, env, e, R, E, o.bind.mono (fun x t l p o2 => next x t env p (E.le R l) o2) fun _ _ _ _ _ x => x⟩
/-- the rest, from where one stands -/
theorem tR_at {σ : L2.St} {t : Sit} {env : Env} {Q : VK} (R : Rep G t) (E : EnvR G t env σ) (o : Out G t (fa env t.st) (fun v t => ∀ u, Rv G t v u → Q u t.H) (fun c v t => ∀ cls d, XR G t c v cls d → W cls d σ t.H)) : tR G W fa σ t.H Q := ⟨t, env, rfl, R, E, o⟩
theorem tA_at {σ : L2.St} {t : Sit} {env : Env} {Q : List V → Hp → Prop} (R : Rep G t) (E : EnvR G t env σ) (o : Out G t (fs env t.st) (fun v t => ∀ u, Rvs G t v u → Q u t.H) (fun c v t => ∀ cls d, XR G t c v cls d → W cls d σ t.H)) : tA G W fs σ t.H Q := ⟨t, env, rfl, R, E, o⟩
theorem tT_at {σ : L2.St} {t : Sit} {env : Env} {Q : Bool → Hp → Prop} (R : Rep G t) (E : EnvR G t env σ) (o : Out G t (fa env t.st) (fun v t => ∃ b, truV t.st v = some b ∧ Q b t.H) (fun c v t => ∀ cls d, XR G t c v cls d → W cls d σ t.H)) : tT G W fa σ t.H Q := ⟨t, env, rfl, R, E, o⟩

/-! ### tests by values -/
theorem pt_of {a : Expr} (O : Ok D G n cf X N L) (h : PE X a (tR G W fa)) (he : ∀ whole, isTrue a X.env whole = (do let v ← whole; standAt a.pos; holding [v] (truthy v))) : PT X a (tT G W fa) :=
  PT_imp (pt_truth h he) fun σ H Q q => by
    rw [O.K]
    exact tT_of q

/-! ### names and constants -/
theorem pe_v {i : Nat} {x : Str} {p : Pos} (O : Ok D G n cf X N L) (hN : N[i]? = some x) (hv : visB L x = true) (T : Tab) : PE X (.Name x p) (tR G W (evE T cf (.v i))) := by
  obtain ⟨d1, d2⟩ := O.okN x (List.mem_of_getElem? hN)
  refine PE_imp (pe_var (i := i) (by rw [O.N_]; exact hN) (O.vis x hv) d1 d2) fun σ H Q h => ?_
  obtain ⟨s, env, e, R, E, o⟩ := h
  subst e
  have o : Out G s (match env[i]? with | some (some x) => .ok x s.st | _ => .bad) _ _ := o
  split at o
  · rename_i x q
    obtain ⟨v, h1, h2⟩ := E.at_ i x q
    exact ⟨v, h1, Out.now R o v h2⟩
  · exact o.elim
theorem pe_c {x : Val} {v : V} {e : Expr} (h : PE X e (tC v)) (r : ∀ s, Rv G s x v) (T : Tab) : PE X e (tR G W (evE T cf (.c x))) :=
  PE_imp h fun σ H Q q => by
    obtain ⟨s, env, e, R, E, o⟩ := q
    subst e
    exact Out.now R o v (r s)
theorem pe_gc {k : Nat} {x : Str} {p : Pos} (O : Ok D G n cf X N L) (hx : x = nt k) (hg : glB L x = true) (hc : D.isC k = true) : PE X (.Name x p) (tR G W (evE D.P.T cf (.gc k))) := by
  subst hx
  obtain ⟨v, u, h1, h2, h3, h4⟩ := O.gc k hc
  refine PE_imp (pe_glob (O.gl _ hg) h1 h2 h3) fun σ H Q q => ?_
  obtain ⟨s, env, e, R, E, o⟩ := q
  subst e
  exact Out.now R o v (h4 s)

/-! ### arguments -/
theorem pa_nil_r (T : Tab) : PA X [] (tA G W (evEs T cf [])) := PA_imp pa_nil fun σ H Q q => by
  obtain ⟨s, env, e, R, E, o⟩ := q
  subst e
  exact o s (Le.refl s) R rfl [] rfl
theorem pa_cons_r {T : Tab} {e : E} {es : List E} {a : Expr} {as : List Expr} (h : PE X a (tR G W (evE T cf e))) (hr : PA X as (tA G W (evEs T cf es))) (hs : isStar a = false) : PA X (a :: as) (tA G W (evEs T cf (e :: es))) :=
  PA_imp (pa_cons h hr (star_cons hs)) fun σ H Q q => by
    obtain ⟨s, env, e, R, E, o⟩ := q
    have o : Out G s ((evE T cf _ env s.st).andThen fun x s1 => (evEs T cf es env s1).andThen fun xs s2 => .ok (x :: xs) s2) _ _ := o
    refine ⟨s, env, e, R, E, o.bind.mono (fun x t l p o2 v rv => ?_) fun _ _ _ _ _ x => x⟩
    refine ⟨t, env, rfl, p, E.le R l, o2.bind.mono (fun xs t2 l2 p2 o3 vs rvs => ?_) fun _ _ _ _ _ x => x⟩
    exact o3 t2 (Le.refl t2) p2 rfl (v :: vs) ⟨v, vs, rfl, Rv.le p l2 _ _ rv, rvs⟩
theorem pe_tup_r {T : Tab} {es : List E} {as : List Expr} {k : Nat} {p : Pos} (h : PA X as (tA G W (evEs T cf es))) (hl : leN as.length SL = true) (hl2 : ∀ xs env s s', evEs T cf es env s = .ok xs s' → xs.length = es.length) (hl3 : es.length = as.length) : PE X (.Tuple as k p) (tR G W (evE T cf (.tup es))) :=
  PE_imp (pe_tup h) fun σ H Q q => by
    obtain ⟨s, env, e, R, E, o⟩ := q
    have o : Out G s ((evEs T cf es env s.st).andThen fun xs s1 => .ok (Val.tup xs) s1) _ _ := o
    have key : ∀ xs s', evEs T cf es env s.st = .ok xs s' → xs.length ≤ sizeLine := fun xs s' q => by rw [hl2 _ _ _ _ q, hl3, ← SL_eq]; exact leN_iff.mp hl
    refine ⟨s, env, e, R, E, ?_⟩
    have o2 := o.bind
    cases q : evEs T cf es env s.st with
    | bad => rw [q] at o2; exact o2
    | exc c v st => rw [q] at o2; exact o2
    | ok xs st =>
      rw [q] at o2
      intro t l pr es vs rvs
      have o3 := o2 t l pr es
      refine ⟨by rw [← rvs.length]; exact key xs st q, fun z hz => ?_⟩
      exact Out.laid (o := .tup vs) pr hz o3 _ (lay_tup pr hz rvs)
theorem pe_lst_r {T : Tab} {es : List E} {as : List Expr} {fz : Bool} {p : Pos} (h : PA X as (tA G W (evEs T cf es))) (hl : leN as.length SL = true) (hl2 : ∀ xs env s s', evEs T cf es env s = .ok xs s' → xs.length = es.length) (hl3 : es.length = as.length) : PE X (.List as p) (tR G W (evE T cf (.lst fz es))) :=
  PE_imp (pe_lst h) fun σ H Q q => by
    obtain ⟨s, env, e, R, E, o⟩ := q
    have o : Out G s ((evEs T cf es env s.st).andThen fun xs s1 => match fz with | true => .ok (Val.lst xs) s1 | false => .ok (Val.ref s1.n) (s1.new (.lst xs))) _ _ := o
    have key : ∀ xs s', evEs T cf es env s.st = .ok xs s' → xs.length ≤ sizeLine := fun xs s' q => by rw [hl2 _ _ _ _ q, hl3, ← SL_eq]; exact leN_iff.mp hl
    refine ⟨s, env, e, R, E, ?_⟩
    have o2 := o.bind
    cases q : evEs T cf es env s.st with
    | bad => rw [q] at o2; exact o2
    | exc c v st => rw [q] at o2; exact o2
    | ok xs st =>
      rw [q] at o2
      intro t l pr es vs rvs
      have o3 := o2 t l pr es
      refine ⟨by rw [← rvs.length]; exact key xs st q, fun z hz => ?_⟩
      cases fz with
      | true => exact Out.laid (o := .lst vs) pr hz o3 _ (lay_lst pr hz rvs)
      | false =>
        have ro : Ro G (t.alloc z (.lst xs) (.lst vs)) (.lst xs) (.lst vs) := ⟨vs, rfl, Rvs.le pr (Le.alloc pr hz) _ _ rvs⟩
        exact o3 (t.alloc z (.lst xs) (.lst vs)) (Le.alloc pr hz) (Rep.alloc pr hz ro) rfl _ alloc_ref
theorem evEs_len {T : Tab} : ∀ {es : List E} {xs : List Val} {env : Env} {s s' : St}, evEs T cf es env s = .ok xs s' → xs.length = es.length
  | [], xs, env, s, s', h => by
    have h : Ev.R.ok ([] : List Val) s = .ok xs s' := h
    cases h; rfl
  | e :: es, xs, env, s, s', h => by
    have h : ((evE T cf e env s).andThen fun x s1 => (evEs T cf es env s1).andThen fun xs s2 => .ok (x :: xs) s2) = .ok xs s' := h
    cases q : evE T cf e env s with
    | bad => rw [q] at h; cases h
    | exc c v st => rw [q] at h; cases h
    | ok x s1 =>
      rw [q] at h
      have h : ((evEs T cf es env s1).andThen fun xs s2 => .ok (x :: xs) s2) = .ok xs s' := h
      cases q2 : evEs T cf es env s1 with
      | bad => rw [q2] at h; cases h
      | exc c v st => rw [q2] at h; cases h
      | ok ys s2 =>
        rw [q2] at h
        cases h
        rw [List.length_cons, List.length_cons, evEs_len q2]

/-! ### slices' parts -/
def tO (G : Gm) (W : WX) (fs : Env → St → R (List Val)) : TO := fun σ H Q => ∃ s env, s.H = H ∧ Rep G s ∧ EnvR G s env σ ∧
  Out G s (fs env s.st) (fun v t => ∃ i, partV v = some i ∧ Q i t.H) (fun c v t => ∀ cls d, XR G t c v cls d → W cls d σ t.H)
theorem PO_imp {e : Option Expr} {t t' : TO} (h : PO X e t) (i : ∀ σ H Q, t' σ H Q → t σ H Q) : PO X e t' := ⟨fun pins s σ H Q I q => h.run pins s σ H Q I (i σ H Q q)⟩
theorem po_nil_r (T : Tab) : PO X none (tO G W (evEs T cf [])) := PO_imp po_none fun σ H Q q => by
  obtain ⟨s, env, e, R, E, o⟩ := q
  subst e
  obtain ⟨i, h1, h2⟩ := o s (Le.refl s) R rfl
  cases h1
  exact h2
theorem po_one_r {T : Tab} {e : E} {a : Expr} (h : PE X a (tR G W (evE T cf e))) : PO X (some a) (tO G W (evEs T cf [e])) := PO_imp (po_some h) fun σ H Q q => by
  obtain ⟨s, env, e, R, E, o⟩ := q
  have o : Out G s ((evE T cf _ env s.st).andThen fun x s1 => .ok [x] s1) _ _ := o
  refine ⟨s, env, e, R, E, o.bind.mono (fun x t l p o2 v rv => ?_) fun _ _ _ _ _ x => x⟩
  obtain ⟨i, h1, h2⟩ := o2 t (Le.refl t) p rfl
  cases x with
  | int j =>
    cases h1
    exact ⟨j, rv, h2⟩
  | _ => cases h1
theorem pe_sl_r {T : Tab} {a : E} {lo hi : List E} {e : Expr} {l h : Option Expr} {p p2 : Pos} (O : Ok D G n cf X N L) (he : PE X e (tR G W (evE T cf a))) (hl : PO X l (tO G W (evEs T cf lo))) (hh : PO X h (tO G W (evEs T cf hi))) :
    PE X (.Subscript e (.Slice l h none p2) p) (tR G W (evE T cf (.sl a lo hi))) :=
  PE_imp (pe_slice (sl_r O.K) he hl hh) fun σ H Q q => by
    obtain ⟨s, env, e, R, E, o⟩ := q
    refine ⟨s, env, e, R, E, o.bind.mono (fun x t l p o2 v rv => ?_) fun _ _ _ _ _ x => x⟩
    have o2 : Out G t ((evEs T cf lo env t.st).andThen fun l s2 => onO (partV l) fun l => (evEs T cf hi env s2).andThen fun h s3 => onO (partV h) fun h => slV s3 x l h) _ _ := o2
    refine ⟨t, env, rfl, p, E.le R l, o2.bind.mono (fun xl t2 l2 p2 o3 => ?_) fun _ _ _ _ _ x => x⟩
    obtain ⟨i, ql, o3⟩ := o_out o3
    refine ⟨i, ql, t2, env, rfl, p2, (E.le R l).le p l2, o3.bind.mono (fun xh t3 l3 p3 o4 => ?_) fun _ _ _ _ _ x => x⟩
    obtain ⟨j, qh, o4⟩ := o_out o4
    exact ⟨j, qh, t3, x, rfl, p3, Rv.le p2 l3 _ _ (Rv.le p l2 _ _ rv), o4.mono (fun _ _ _ _ x => x) fun _ _ _ _ _ _ => True.intro⟩
end
end Ev

set_option Elab.async false
set_option linter.all false
set_option maxRecDepth 100000
/-! Ev.Snd6: operators, calls, fields, as parts of the structural theorem. -/
namespace Ev
open PySem PySem.Spec PyProof.Rows L2

section
variable {D : Data} {G : Gm} {n : Nat} {cf : CF} {X : Cx} {N : List Str} {L : NmL} {W : WX} {T : Tab}

theorem pe_bin_r {op : Op} {a b : E} {x y : Expr} {p : Pos} (O : Ok D G n cf X N L) (ha : PE X x (tR G W (evE T cf a))) (hb : PE X y (tR G W (evE T cf b))) : PE X (.BinOp x (opA op) y p) (tR G W (evE T cf (.bin op a b))) :=
  PE_imp (pe_op (op_bin O.K op) ha hb) fun σ H Q q => tOp_of (f := fun s => binV op s) q
theorem pe_neg_r {a : E} {x : Expr} {p : Pos} (ha : PE X x (tR G W (evE T cf a))) : PE X (.UnaryOp .USub x p) (tR G W (evE T cf (.neg a))) :=
  PE_imp (pe_un un_neg ha) fun σ H Q q => tR_then q fun v u t env R E r o => by
    cases v with
    | int i =>
      cases (show u = V.int i from r)
      exact ⟨i, rfl, Out.now R o _ rfl⟩
    | _ => exact o.elim
theorem Ok.units (O : Ok D G n cf X N L) : X.A.units + 65 < cLine := by
  have := O.room.un
  omega
theorem cm_r (O : Ok D G n cf X N L) (op : Cm) : OpR X (compareOp (cmA op)) (r2 G fun s => cmpV op s) := by
  have h := op_cmp (X := X) (G := G) O.K O.units op
  cases op <;> exact h
theorem pe_cmp_r {op : Cm} {a b : E} {x y : Expr} {p : Pos} (O : Ok D G n cf X N L) (ha : PE X x (tR G W (evE T cf a))) (hb : PE X y (tR G W (evE T cf b))) (hs : isSet y = false) : PE X (.Compare x [cmA op] [y] p) (tR G W (evE T cf (.cmp op a b))) :=
  PE_imp (pe_cmpR (cm_r O op) ha hb (marks_of hs)) fun σ H Q q => tOp_of (f := fun s => cmpV op s) q
/-- what a comparison gives is a bool -/
theorem cmpV_bl {op : Cm} {s s' : St} {x y v : Val} (h : cmpV op s x y = .ok v s') : ∃ b, v = .bl b := by
  have key : ∀ {o : Option Bool} {g : Bool → Bool}, ofO (o.map fun b => Val.bl (g b)) s = .ok v s' → ∃ b, v = .bl b := fun {o g} h => by
    cases o with
    | none => cases h
    | some b => cases h; exact ⟨_, rfl⟩
  cases op with
  | eq => exact key (g := id) h
  | ne => exact key h
  | «in» => exact key (g := id) h
  | notin => exact key h
  | is => cases y <;> first | (cases h; exact ⟨_, rfl⟩) | cases h
  | isnot => cases y <;> first | (cases h; exact ⟨_, rfl⟩) | cases h
  | lt => cases x <;> first | cases h | (cases y <;> first | (cases h; exact ⟨_, rfl⟩) | cases h)
  | le => cases x <;> first | cases h | (cases y <;> first | (cases h; exact ⟨_, rfl⟩) | cases h)
  | gt => cases x <;> first | cases h | (cases y <;> first | (cases h; exact ⟨_, rfl⟩) | cases h)
  | ge => cases x <;> first | cases h | (cases y <;> first | (cases h; exact ⟨_, rfl⟩) | cases h)
theorem pt_cmp_r {op : Cm} {a b : E} {x y : Expr} {p : Pos} (O : Ok D G n cf X N L) (ha : PE X x (tR G W (evE T cf a))) (hb : PE X y (tR G W (evE T cf b))) (hs : isSet y = false) : PT X (.Compare x [cmA op] [y] p) (tT G W (evE T cf (.cmp op a b))) :=
  PT_imp (pt_cmpR (cm_r O op) ha hb (marks_of hs)) fun σ H Q q => by
    obtain ⟨s, env, e, R, E, o⟩ := q
    refine tOp_of (f := fun s => cmpV op s) (Q := fun x H' => ∃ k, x = .bl k ∧ Q k H') ⟨s, env, e, R, E, ?_⟩
    have o1 : Out G s ((evE T cf a env s.st).andThen fun x s1 => (evE T cf b env s1).andThen fun y s2 => cmpV op s2 x y) _ _ := o
    show Out G s ((evE T cf a env s.st).andThen fun x s1 => (evE T cf b env s1).andThen fun y s2 => cmpV op s2 x y) _ _
    have bl : ∀ v s', ((evE T cf a env s.st).andThen fun x s1 => (evE T cf b env s1).andThen fun y s2 => cmpV op s2 x y) = .ok v s' → ∃ b, v = .bl b := fun v s' h => by
      cases q1 : evE T cf a env s.st with
      | bad => rw [q1] at h; cases h
      | exc c v st => rw [q1] at h; cases h
      | ok x s1 =>
        rw [q1] at h
        have h : ((evE T cf b env s1).andThen fun y s2 => cmpV op s2 x y) = .ok v s' := h
        cases q2 : evE T cf b env s1 with
        | bad => rw [q2] at h; cases h
        | exc c v st => rw [q2] at h; cases h
        | ok y s2 =>
          rw [q2] at h
          exact cmpV_bl h
    revert o1 bl
    generalize ((evE T cf a env s.st).andThen fun x s1 => (evE T cf b env s1).andThen fun y s2 => cmpV op s2 x y) = r
    intro o1 bl
    cases r with
    | bad => exact o1
    | exc c v st => exact o1
    | ok v st =>
      obtain ⟨b, eb⟩ := bl v st rfl
      subst eb
      intro t l p e u ru
      obtain ⟨b', h1, h2⟩ := o1 t l p e
      cases h1
      exact ⟨b, ru, h2⟩
theorem pe_chain_r {op op' : Cm} {a b d : E} {x y z : Expr} {p : Pos} (O : Ok D G n cf X N L) (ha : PE X x (tR G W (evE T cf a))) (hb : PE X y (tR G W (evE T cf b))) (hd : PE X z (tR G W (evE T cf d))) (hs : isSet z = false) :
    PE X (.Compare x [cmA op, cmA op'] [y, z] p) (tR G W (evE T cf (.chain a op b op' d))) :=
  PE_imp (pe_chain (cm_r O op) (cm_r O op') ha hb hd (last_of hs)) fun σ H Q q => by
    obtain ⟨s, env, e, R, E, o⟩ := q
    refine ⟨s, env, e, R, E, o.bind.mono (fun vx t l pr o2 ux rx => ?_) fun _ _ _ _ _ x => x⟩
    refine ⟨t, env, rfl, pr, E.le R l, o2.bind.mono (fun vy t2 l2 p2 o3 uy ry => ?_) fun _ _ _ _ _ x => x⟩
    have rx2 := Rv.le pr l2 _ _ rx
    refine ⟨t2, vx, vy, rfl, p2, rx2, ry, ?_⟩
    have o4 := o3.bind
    refine (show Out G t2 (cmpV op t2.st vx vy) _ _ from ?_)
    have bl := fun v s' (h : cmpV op t2.st vx vy = .ok v s') => cmpV_bl h
    have ne : ∀ c v s', cmpV op t2.st vx vy ≠ .exc c v s' := fun c v s' h => by
      have key : ∀ {o : Option Val} {s : St}, ofO o s ≠ .exc c v s' := fun {o s} h => by cases o <;> cases h
      cases op with
      | eq => exact key h
      | ne => exact key h
      | «in» => exact key h
      | notin => exact key h
      | is => cases vy <;> cases h
      | isnot => cases vy <;> cases h
      | lt => cases vx <;> first | cases h | (cases vy <;> cases h)
      | le => cases vx <;> first | cases h | (cases vy <;> cases h)
      | gt => cases vx <;> first | cases h | (cases vy <;> cases h)
      | ge => cases vx <;> first | cases h | (cases vy <;> cases h)
    revert o4 bl ne
    generalize cmpV op t2.st vx vy = r
    intro o4 bl ne
    cases r with
    | bad => exact o4
    | exc c v st => exact absurd rfl (ne c v st)
    | ok v st =>
      obtain ⟨k, eb⟩ := bl v st rfl
      subst eb
      intro t3 l3 p3 e3 u ru
      have o5 := o4 t3 l3 p3 e3
      refine ⟨k, ru, ?_⟩
      cases k with
      | false =>
        rw [if_neg (by decide)]
        exact Out.now p3 o5 _ rfl
      | true =>
        rw [if_pos rfl]
        have o5 : Out G t3 ((evE T cf d env t3.st).andThen fun w s4 => cmpV op' s4 vy w) _ _ := o5
        refine ⟨t3, env, rfl, p3, ((E.le R l).le pr l2).le p2 l3, o5.bind.mono (fun vz t4 l4 p4 o6 uz rz => ?_) fun _ _ _ _ _ x => x⟩
        exact ⟨t4, vy, vz, rfl, p4, Rv.le p3 l4 _ _ (Rv.le p2 l3 _ _ ry), rz, o6.mono (fun _ _ _ _ x => x) fun _ _ _ _ _ _ => True.intro⟩
/-- a test by values, for what gives bools only -/
theorem pt_chain_r {op op' : Cm} {a b d : E} {x y z : Expr} {p : Pos} (O : Ok D G n cf X N L) (ha : PE X x (tR G W (evE T cf a))) (hb : PE X y (tR G W (evE T cf b))) (hd : PE X z (tR G W (evE T cf d))) (hs : isSet z = false) :
    PT X (.Compare x [cmA op, cmA op'] [y, z] p) (tT G W (evE T cf (.chain a op b op' d))) :=
  PT_imp (pt_chain (cm_r O op) (cm_r O op') ha hb hd (last_of hs)) fun σ H Q q => by
    obtain ⟨s, env, e, R, E, o⟩ := q
    have ne : ∀ {op : Cm} {s : St} {x y : Val} {c : Nat} {v : Val} {s' : St}, cmpV op s x y ≠ .exc c v s' := fun {op s x y c v s'} h => by
      have key : ∀ {o : Option Val} {s : St}, ofO o s ≠ .exc c v s' := fun {o s} h => by cases o <;> cases h
      cases op with
      | eq => exact key h
      | ne => exact key h
      | «in» => exact key h
      | notin => exact key h
      | is => cases y <;> cases h
      | isnot => cases y <;> cases h
      | lt => cases x <;> first | cases h | (cases y <;> cases h)
      | le => cases x <;> first | cases h | (cases y <;> cases h)
      | gt => cases x <;> first | cases h | (cases y <;> cases h)
      | ge => cases x <;> first | cases h | (cases y <;> cases h)
    refine ⟨s, env, e, R, E, o.bind.mono (fun vx t l pr o2 ux rx => ?_) fun _ _ _ _ _ x => x⟩
    refine ⟨t, env, rfl, pr, E.le R l, o2.bind.mono (fun vy t2 l2 p2 o3 uy ry => ?_) fun _ _ _ _ _ x => x⟩
    have rx2 := Rv.le pr l2 _ _ rx
    refine ⟨t2, vx, vy, rfl, p2, rx2, ry, ?_⟩
    have o4 := o3.bind
    refine (show Out G t2 (cmpV op t2.st vx vy) _ _ from ?_)
    have bl := fun v s' (h : cmpV op t2.st vx vy = .ok v s') => cmpV_bl h
    have ne1 := fun c v s' => ne (op := op) (s := t2.st) (x := vx) (y := vy) (c := c) (v := v) (s' := s')
    revert o4 bl ne1
    generalize cmpV op t2.st vx vy = r
    intro o4 bl ne1
    cases r with
    | bad => exact o4
    | exc c v st => exact absurd rfl (ne1 c v st)
    | ok v st =>
      obtain ⟨k, eb⟩ := bl v st rfl
      subst eb
      intro t3 l3 p3 e3 u ru
      have o5 := o4 t3 l3 p3 e3
      refine ⟨k, ru, ?_⟩
      cases k with
      | false =>
        rw [if_neg (by decide)]
        obtain ⟨b', h1, h2⟩ := Out.now p3 o5
        cases h1
        exact ⟨false, rfl, h2⟩
      | true =>
        rw [if_pos rfl]
        have o5 : Out G t3 ((evE T cf d env t3.st).andThen fun w s4 => cmpV op' s4 vy w) _ _ := o5
        refine ⟨t3, env, rfl, p3, ((E.le R l).le pr l2).le p2 l3, o5.bind.mono (fun vz t4 l4 p4 o6 uz rz => ?_) fun _ _ _ _ _ x => x⟩
        refine ⟨t4, vy, vz, rfl, p4, Rv.le p3 l4 _ _ (Rv.le p2 l3 _ _ ry), rz, ?_⟩
        have bl2 := fun v s' (h : cmpV op' t4.st vy vz = .ok v s') => cmpV_bl h
        have ne2 := fun c v s' => ne (op := op') (s := t4.st) (x := vy) (y := vz) (c := c) (v := v) (s' := s')
        refine (show Out G t4 (cmpV op' t4.st vy vz) _ _ from ?_)
        revert o6 bl2 ne2
        generalize cmpV op' t4.st vy vz = r
        intro o6 bl2 ne2
        cases r with
        | bad => exact o6
        | exc c v st => exact absurd rfl (ne2 c v st)
        | ok v st =>
          obtain ⟨k, eb⟩ := bl2 v st rfl
          subst eb
          intro t5 l5 p5 e5 u ru
          obtain ⟨b', h1, h2⟩ := o6 t5 l5 p5 e5
          cases h1
          exact ⟨k, ru, h2⟩

/-! ### and, or, not, if -/
theorem pe_not_r {a : E} {x : Expr} {p : Pos} (O : Ok D G n cf X N L) (ha : PE X x (tR G W (evE T cf a))) : PE X (.UnaryOp .Not x p) (tR G W (evE T cf (.not a))) :=
  PE_imp (pe_notT ha) fun σ H Q q => tR_then q fun v u t env R E r o => by
    have o : Out G t (match truV t.st v with | some b => .ok (Val.bl (!b)) t.st | none => .bad) _ _ := o
    cases h : truV t.st v with
    | none => rw [h] at o; exact o.elim
    | some b =>
      rw [h] at o
      rw [O.K]
      exact ⟨b, tru_rel R h r, Out.now R o _ rfl⟩
theorem pt_not_r {a : E} {x : Expr} {p : Pos} (ha : PT X x (tT G W (evE T cf a))) : PT X (.UnaryOp .Not x p) (tT G W (evE T cf (.not a))) :=
  PT_imp (pt_not ha) fun σ H Q q => by
    obtain ⟨s, env, e, R, E, o⟩ := q
    refine ⟨s, env, e, R, E, o.bind.mono (fun v t l pr o => ?_) fun _ _ _ _ _ x => x⟩
    have o : Out G t (match truV t.st v with | some b => .ok (Val.bl (!b)) t.st | none => .bad) _ _ := o
    cases h : truV t.st v with
    | none => rw [h] at o; exact o.elim
    | some b =>
      rw [h] at o
      obtain ⟨b', h1, h2⟩ := Out.now pr o
      cases h1
      exact ⟨b, rfl, h2⟩
theorem pe_ite_r {c a b : E} {x y z : Expr} {p : Pos} (hc : PT X x (tT G W (evE T cf c))) (ha : PE X y (tR G W (evE T cf a))) (hb : PE X z (tR G W (evE T cf b))) : PE X (.IfExp x y z p) (tR G W (evE T cf (.ite c a b))) :=
  PE_imp (pe_ifExp hc ha hb) fun σ H Q q => by
    obtain ⟨s, env, e, R, E, o⟩ := q
    refine ⟨s, env, e, R, E, o.bind.mono (fun v t l pr o => ?_) fun _ _ _ _ _ x => x⟩
    have o : Out G t (match truV t.st v with | some true => evE T cf a env t.st | some false => evE T cf b env t.st | none => .bad) _ _ := o
    cases h : truV t.st v with
    | none => rw [h] at o; exact o.elim
    | some k =>
      rw [h] at o
      refine ⟨k, rfl, ?_⟩
      cases k with
      | true => exact tR_at pr (E.le R l) o
      | false => exact tR_at pr (E.le R l) o
theorem isTrue_if_ {M : Model} {A : Around} {E : Value → Shared → Prop} {s : Shared} {env : PySem.Env} {x y z : Expr} {p : Pos} {whole : Sem Value} {Q : Bool → Shared → Prop}
    (h : wpAny M A (isTrue x env (eval x env)) (fun c s' => if c = true then wpAny M A (isTrue y env (eval y env)) Q E s' else wpAny M A (isTrue z env (eval z env)) Q E s') E s) : wpAny M A (isTrue (.IfExp x y z p) env whole) Q E s := by
  show wpAny M A (do if ← isTrue x env (eval x env) then isTrue y env (eval y env) else isTrue z env (eval z env)) Q E s
  refine wpAny_bind (wpAny_mono h (fun c s' h' => ?_) fun _ _ x => x)
  cases c with
  | true => exact h'
  | false => exact h'
theorem pt_ite_r {c a b : E} {x y z : Expr} {p : Pos} (hc : PT X x (tT G W (evE T cf c))) (ha : PT X y (tT G W (evE T cf a))) (hb : PT X z (tT G W (evE T cf b))) : PT X (.IfExp x y z p) (tT G W (evE T cf (.ite c a b))) := by
  refine ⟨fun pins s σ H Q I h => ?_⟩
  obtain ⟨s0, env, e, R, E, o⟩ := h
  refine isTrue_if_ (thn (hc.run pins s σ H (fun k H1 => if k = true then tT G W (evE T cf a) σ H1 Q else tT G W (evE T cf b) σ H1 Q) I ?_) fun d s1 ⟨H1, I1, q1⟩ => ?_)
  · refine ⟨s0, env, e, R, E, o.bind.mono (fun v t l pr o => ?_) fun _ _ _ _ _ x => x⟩
    have o : Out G t (match truV t.st v with | some true => evE T cf a env t.st | some false => evE T cf b env t.st | none => .bad) _ _ := o
    cases h : truV t.st v with
    | none => rw [h] at o; exact o.elim
    | some k =>
      rw [h] at o
      refine ⟨k, rfl, ?_⟩
      cases k with
      | true => exact tT_at pr (E.le R l) o
      | false => exact tT_at pr (E.le R l) o
  · cases d with
    | true => exact ha.run pins s1 σ H1 Q I1 q1
    | false => exact hb.run pins s1 σ H1 Q I1 q1
theorem pe_and1_r {a : E} {x : Expr} {p : Pos} (ha : PE X x (tR G W (evE T cf a))) : PE X (.BoolOp .And [x] p) (tR G W (evAnd T cf [a])) := PE_imp (pe_one ha) fun _ _ _ q => q
theorem pe_or1_r {a : E} {x : Expr} {p : Pos} (ha : PE X x (tR G W (evE T cf a))) : PE X (.BoolOp .Or [x] p) (tR G W (evOr T cf [a])) := PE_imp (pe_one ha) fun _ _ _ q => q
theorem pe_and_r {a b : E} {es : List E} {x y : Expr} {xs : List Expr} {p : Pos} (O : Ok D G n cf X N L) (ha : PE X x (tR G W (evE T cf a))) (hb : PE X (.BoolOp .And (y :: xs) p) (tR G W (evAnd T cf (b :: es)))) : PE X (.BoolOp .And (x :: y :: xs) p) (tR G W (evAnd T cf (a :: b :: es))) :=
  PE_imp (pe_andT ha hb) fun σ H Q q => by
    obtain ⟨s, env, e, R, E, o⟩ := q
    have o : Out G s ((evE T cf a env s.st).andThen fun x s1 => match truV s1 x with | some true => evAnd T cf (b :: es) env s1 | some false => .ok x s1 | none => .bad) _ _ := o
    refine ⟨s, env, e, R, E, o.bind.mono (fun v t l pr o u ru => ?_) fun _ _ _ _ _ x => x⟩
    cases h : truV t.st v with
    | none => rw [h] at o; exact o.elim
    | some k =>
      rw [h] at o
      rw [O.K]
      refine ⟨k, tru_rel pr h ru, ?_⟩
      cases k with
      | true => exact tR_at pr (E.le R l) o
      | false => exact Out.now pr o _ ru
theorem pe_or_r {a b : E} {es : List E} {x y : Expr} {xs : List Expr} {p : Pos} (O : Ok D G n cf X N L) (ha : PE X x (tR G W (evE T cf a))) (hb : PE X (.BoolOp .Or (y :: xs) p) (tR G W (evOr T cf (b :: es)))) : PE X (.BoolOp .Or (x :: y :: xs) p) (tR G W (evOr T cf (a :: b :: es))) :=
  PE_imp (pe_orT ha hb) fun σ H Q q => by
    obtain ⟨s, env, e, R, E, o⟩ := q
    have o : Out G s ((evE T cf a env s.st).andThen fun x s1 => match truV s1 x with | some false => evOr T cf (b :: es) env s1 | some true => .ok x s1 | none => .bad) _ _ := o
    refine ⟨s, env, e, R, E, o.bind.mono (fun v t l pr o u ru => ?_) fun _ _ _ _ _ x => x⟩
    cases h : truV t.st v with
    | none => rw [h] at o; exact o.elim
    | some k =>
      rw [h] at o
      rw [O.K]
      refine ⟨k, tru_rel pr h ru, ?_⟩
      cases k with
      | false => exact tR_at pr (E.le R l) o
      | true => exact Out.now pr o _ ru
theorem pw_and1_r {a : E} {x : Expr} {p : Pos} (ha : PT X x (tT G W (evE T cf a))) : PW X (.BoolOp .And [x] p) (tT G W (evAnd T cf [a])) := pw_and1 ha
theorem pw_or1_r {a : E} {x : Expr} {p : Pos} (ha : PT X x (tT G W (evE T cf a))) : PW X (.BoolOp .Or [x] p) (tT G W (evOr T cf [a])) := pw_or1 ha
theorem PW_imp {X : Cx} {e : Expr} {t t' : TT} (h : PW X e t) (i : ∀ σ H Q, t' σ H Q → t σ H Q) : PW X e t' := ⟨fun wh pins s σ H Q I q => h.run wh pins s σ H Q I (i σ H Q q)⟩
theorem pw_and_r {a b : E} {es : List E} {x y : Expr} {xs : List Expr} {p : Pos} (ha : PT X x (tT G W (evE T cf a))) (hb : PW X (.BoolOp .And (y :: xs) p) (tT G W (evAnd T cf (b :: es)))) : PW X (.BoolOp .And (x :: y :: xs) p) (tT G W (evAnd T cf (a :: b :: es))) :=
  PW_imp (pw_and ha hb) fun σ H Q q => by
    obtain ⟨s, env, e, R, E, o⟩ := q
    have o : Out G s ((evE T cf a env s.st).andThen fun x s1 => match truV s1 x with | some true => evAnd T cf (b :: es) env s1 | some false => .ok x s1 | none => .bad) _ _ := o
    refine ⟨s, env, e, R, E, o.bind.mono (fun v t l pr o => ?_) fun _ _ _ _ _ x => x⟩
    cases h : truV t.st v with
    | none => rw [h] at o; exact o.elim
    | some k =>
      rw [h] at o
      refine ⟨k, rfl, ?_⟩
      cases k with
      | true => exact tT_at pr (E.le R l) o
      | false =>
        obtain ⟨b', h1, h2⟩ := Out.now pr o
        rw [h] at h1
        cases h1
        exact h2
theorem pw_or_r {a b : E} {es : List E} {x y : Expr} {xs : List Expr} {p : Pos} (ha : PT X x (tT G W (evE T cf a))) (hb : PW X (.BoolOp .Or (y :: xs) p) (tT G W (evOr T cf (b :: es)))) : PW X (.BoolOp .Or (x :: y :: xs) p) (tT G W (evOr T cf (a :: b :: es))) :=
  PW_imp (pw_or ha hb) fun σ H Q q => by
    obtain ⟨s, env, e, R, E, o⟩ := q
    have o : Out G s ((evE T cf a env s.st).andThen fun x s1 => match truV s1 x with | some false => evOr T cf (b :: es) env s1 | some true => .ok x s1 | none => .bad) _ _ := o
    refine ⟨s, env, e, R, E, o.bind.mono (fun v t l pr o => ?_) fun _ _ _ _ _ x => x⟩
    cases h : truV t.st v with
    | none => rw [h] at o; exact o.elim
    | some k =>
      rw [h] at o
      refine ⟨k, rfl, ?_⟩
      cases k with
      | false => exact tT_at pr (E.le R l) o
      | true =>
        obtain ⟨b', h1, h2⟩ := Out.now pr o
        rw [h] at h1
        cases h1
        exact h2

/-! ### places, fields -/
theorem pe_ix_r {a b : E} {x y : Expr} {p : Pos} (O : Ok D G n cf X N L) (ha : PE X x (tR G W (evE T cf a))) (hb : PE X y (tR G W (evE T cf b))) (hs : plainB y = true) : PE X (.Subscript x y p) (tR G W (evE T cf (.ix a b))) :=
  PE_imp (pe_ix (ix_r O.K) ha hb (plain_of hs)) fun σ H Q q => tOp_of (f := fun s => ixV s) q
def tAt (K : PySem.W.Frag) (ta : TE) (f : Str) : TE := fun σ H Q => ta σ H fun x H1 => ∃ a, x = .ref a ∧ ((∃ C dx fs v, H1 a = some (.ins C dx fs) ∧ Cls K C ∧ NoAttr K C f ∧ fs.lookup f = some v ∧ Q v H1) ∨
  ∃ C dx v, H1 a = some (exo a C (some dx)) ∧ H1 dx = some (exd dx [(f, v)]) ∧ XfC K C ∧ PySem.W.findIn K (.ref C) f = some none ∧ Q v H1)
theorem pe_at {e : Expr} {f : Str} {pos : Pos} {ta : TE} (he : PE X e ta) (hb : attributeBase e f X.env (eval e X.env) = eval e X.env) : PE X (.Attribute e f pos) (tAt X.K ta f) := by
  refine ⟨fun pins s σ H Q I h => attr_of hb (thn (he.run pins s σ H _ I h) fun u s1 ⟨x, H1, I1, rx, a, ex, q⟩ => ?_)⟩
  subst ex
  obtain rfl : u = Value.ref a := rx
  rcases q with ⟨C, dx, fs, v, ea, c, n, l, q⟩ | ⟨C, dx, v, ea, ed, T, hno, q⟩
  · exact getattr_ok I1 ea c n l fun u' s2 I2 ru => ⟨v, H1, I2, ru, q⟩
  · obtain ⟨t1, ho⟩ := exo_at I1.hok ea
    obtain ⟨mA, hns, rel⟩ := exd_at I1.hok ed
    obtain ⟨od, hod, hl⟩ := lookIn_ns hns
    obtain ⟨u, hu, ru⟩ := RelO.some_of (v := v) (o := mA f) (by have := rel f; simpa [List.lookup] using this)
    have J : PySem.W.InstAt s1.heap a _ C (some od) := ⟨ho, rfl, rfl, hod⟩
    exact HandSPX.exc_get I1.kIn J T.ga T.gg T.exC (PySem.W.findObj_own T.hdC hno rfl (by rw [hl, hu])) (handed_of ru) ⟨v, H1, I1.tok _, ru, q⟩
theorem pe_attr_r {a : E} {m : Nat} {x : Expr} {p : Pos} (O : Ok D G n cf X N L) (ha : PE X x (tR G W (evE D.P.T cf a))) (hs : calls0 x = false) : PE X (.Attribute x (nt m) p) (tR G W (evE D.P.T cf (.attr a m))) :=
  PE_imp (pe_at ha (base_of hs)) fun σ H Q q => tR_then q fun v u t env R E r o => by
    have o : Out G t (attrV D.P.T t.st v m) _ _ := o
    have ins : Out G t (attrI D.P.T t.st v m) (fun v t => ∀ u, Rv G t v u → Q u t.H) (fun c v t => ∀ cls d, XR G t c v cls d → W cls d σ t.H) → ∃ a, u = .ref a ∧ ((∃ C dx fs v, t.H a = some (.ins C dx fs) ∧ Cls X.K C ∧ NoAttr X.K C (nt m) ∧ fs.lookup (nt m) = some v ∧ Q v t.H) ∨
        ∃ C dx v, t.H a = some (exo a C (some dx)) ∧ t.H dx = some (exd dx [(nt m, v)]) ∧ XfC X.K C ∧ PySem.W.findIn X.K (.ref C) (nt m) = some none ∧ Q v t.H) := fun o => by
      unfold attrI at o
      cases h : asI t.st v with
      | none => rw [h] at o; exact o.elim
      | some cfs =>
        obtain ⟨c, fs⟩ := cfs
        rw [h] at o
        obtain ⟨a, dx, ws, eu, ea, rf⟩ := asI_rel R h r
        obtain ⟨hm, o⟩ := ite_out o
        obtain ⟨w, hw, k⟩ := Out.ofO o
        obtain ⟨v', h1, h2⟩ := rf.some hw
        obtain ⟨c1, c2⟩ := O.fd c m hm
        exact ⟨a, eu, .inl ⟨G.ca c, dx, ws, v', ea, c1, c2, h1, k t (Le.refl t) R rfl _ h2⟩⟩
    cases v with
    | exo c f x =>
      obtain ⟨hm, o7⟩ := b_out o
      obtain ⟨g, hg, o8⟩ := o_out o7
      obtain ⟨hgf, o9⟩ := b_out o8
      clear o o7 o8
      obtain ⟨a, dx, w, eu, ea, ed, _, _, rw'⟩ := r
      have e1 := natEq_iff.mp hm
      have e2 := natEq_iff.mp hgf
      subst e1 e2
      obtain ⟨⟨k, fI, fd, p1, p2, S, _⟩, _, _, hno⟩ := O.xc c _ hg
      exact ⟨a, eu, .inr ⟨G.ca c, dx, w, ea, ed, S.T.fld, hno, Out.now R o9 _ rw'⟩⟩
    | _ => exact ins o

/-! ### calls -/
theorem tA_call {σ : L2.St} {H : Hp} {Q : VK} {es : List E} {g : List Val → St → R Val} (h : tR G W (fun env s => (evEs T cf es env s).andThen fun xs s1 => g xs s1) σ H Q) :
    tA G W (evEs T cf es) σ H fun vs H1 => ∃ t xs, t.H = H1 ∧ Rep G t ∧ Rvs G t xs vs ∧ Out G t (g xs t.st) (fun v t' => ∀ u, Rv G t' v u → Q u t'.H) (fun c v t' => ∀ cls d, XR G t' c v cls d → W cls d σ t'.H) := by
  obtain ⟨s, env, e, R, E, o⟩ := h
  exact ⟨s, env, e, R, E, o.bind.mono (fun xs t l p o2 vs rvs => ⟨t, xs, rfl, p, rvs, o2⟩) fun _ _ _ _ _ x => x⟩
theorem tA_nil {σ : L2.St} {H : Hp} {Q : List V → Hp → Prop} {es : List E} (hl : es.length = 0) (h : tA G W (evEs T cf es) σ H Q) : Q [] H := by
  cases es with
  | cons _ _ => cases hl
  | nil =>
    obtain ⟨s, env, e, R, E, o⟩ := h
    subst e
    exact o s (Le.refl s) R rfl [] rfl
theorem pe_call_r {f : Nat} {F : Fn} {es : List E} {as : List Expr} {x : Str} {p p2 : Pos} (O : Ok D G n cf X N L) (Tk : Takes X W) (hx : x = nt f) (hg : glB L x = true) (hf : D.gf f = true) (hF : D.P.fn f = some F) (ha : PA X as (tA G W (evEs T cf es))) (hs : noStar as = true) (hl : es.length = as.length) :
    PE X (.Call (.Name x p) as [] p2) (tR G W (evE T cf (.call f es))) := by
  subst hx
  obtain ⟨fd, ps, FO, hb, hk⟩ := O.fn f F hF
  obtain ⟨hm, hd⟩ := O.gf f hf
  have hr : Room n X.A := O.room.mono (Nat.le_succ n)
  have hx : ∀ σ, PassesAt (L2.CX X.prog X.w) X σ (WE W σ) := fun σ => passAt Tk σ
  cases as with
  | nil =>
    refine PE_imp (pe_callG0 FO hr O.gd (O.gl _ hg) hm hk hb hx hd) fun σ H Q q => ?_
    exact tA_nil hl (tA_call q)
  | cons a as =>
    obtain ⟨h1, h2⟩ := dec2 (show ((!isStar a) && as.all fun e => !isStar e) = true from hs)
    exact PE_imp (pe_callG FO hr O.gd (O.gl _ hg) hm hk hb hx ha hd (star_cons (by simpa using h1)) (star_any h2)) fun σ H Q q => tA_call q
theorem pe_meth_r {m : Nat} {a : E} {es : List E} {as : List Expr} {x : Expr} {p p2 : Pos} (O : Ok D G n cf X N L) (Tk : Takes X W) (ho : PE X x (tR G W (evE D.P.T cf a))) (ha : PA X as (tA G W (evEs D.P.T cf es))) (hs : noStar as = true) (hl : es.length = as.length) (hx : oneLine (.Call (.Attribute x (nt m) p) as [] p2) = true) :
    PE X (.Call (.Attribute x (nt m) p) as [] p2) (tR G W (evE D.P.T cf (.meth a m es))) := by
  have hr : Room n X.A := O.room.mono (Nat.le_succ n)
  have hp : ∀ σ, PassesAt (L2.CX X.prog X.w) X σ (WE W σ) := fun σ => passAt Tk σ
  have key : ∀ σ H Q, tR G W (evE D.P.T cf (.meth a m es)) σ H Q → tMethA X (L2.CX X.prog X.w) n (nt m) (WE W) (tR G W (evE D.P.T cf a)) (tA G W (evEs D.P.T cf es)) σ H Q := fun σ H Q q => tR_then q fun v u t env R E r o => by
    have o : Out G t (match asI t.st v with
      | some (c, fs) => match D.P.T.me c m, lookN m fs with
        | some f, none => (evEs D.P.T cf es env t.st).andThen fun xs s2 => cf f (v :: xs) s2
        | _, _ => .bad
      | none => .bad) _ _ := o
    cases h : asI t.st v with
    | none => rw [h] at o; exact o.elim
    | some cfs =>
      obtain ⟨c, fs⟩ := cfs
      rw [h] at o
      obtain ⟨a, dx, ws, eu, ea, rf⟩ := asI_rel R h r
      have o : Out G t (match D.P.T.me c m, lookN m fs with
        | some f, none => (evEs D.P.T cf es env t.st).andThen fun xs s2 => cf f (v :: xs) s2
        | _, _ => .bad) _ _ := o
      cases hm : D.P.T.me c m with
      | none => rw [hm] at o; exact o.elim
      | some f =>
        cases hf : lookN m fs with
        | some _ => rw [hm, hf] at o; exact o.elim
        | none =>
          rw [hm, hf] at o
          obtain ⟨c1, c2, F, hF⟩ := O.me c m f hm
          obtain ⟨fd, ps, FO, hb, hk⟩ := O.fn f F hF
          refine ⟨a, G.ca c, dx, ws, spF G cf f, eu, ea, rf.none hf, ⟨c1, G.ga f, fd, ps, c2, FO, hb⟩, t, env, rfl, R, E, ?_⟩
          have o : Out G t ((evEs D.P.T cf es env t.st).andThen fun xs s2 => cf f (v :: xs) s2) _ _ := o
          exact o.bind.mono (fun xs t2 l2 p2 o2 vs rvs => ⟨t2, v :: xs, rfl, p2, ⟨u, vs, rfl, Rv.le R l2 _ _ r, rvs⟩, o2⟩) fun _ _ _ _ _ x => x
  cases as with
  | nil =>
    refine PE_imp (pe_methA0 (CX := L2.CX X.prog X.w) (k := n) (E := WE W) ho hr O.gd hp (meth_tree hx hs)) fun σ H Q q => ?_
    obtain ⟨s, env, e, R, E, o⟩ := key σ H Q q
    refine ⟨s, env, e, R, E, o.mono (fun v t l p z u ru => ?_) fun _ _ _ _ _ x => x⟩
    obtain ⟨a, C, dx, fs, sp, h1, h2, h3, h4, h5⟩ := z u ru
    exact ⟨a, C, dx, fs, sp, h1, h2, h3, h4, tA_nil hl h5⟩
  | cons b bs =>
    obtain ⟨h1, h2⟩ := dec2 (show ((!isStar b) && bs.all fun e => !isStar e) = true from hs)
    exact PE_imp (pe_methA (CX := L2.CX X.prog X.w) (k := n) (E := WE W) ho hr O.gd hp ha (star_cons (by simpa using h1)) (star_any h2) (meth_tree hx hs)) key
theorem pe_mk_r {c f : Nat} {F : Fn} {es : List E} {as : List Expr} {x : Str} {p p2 : Pos} (O : Ok D G n cf X N L) (Tk : Takes X W) (hx : x = nt c) (hg : glB L x = true) (hi : D.P.T.ini c = some f) (ha : PA X as (tA G W (evEs D.P.T cf es))) (hs : noStar as = true) (hl : es.length = as.length) (h0 : as ≠ []) :
    PE X (.Call (.Name x p) as [] p2) (tR G W (evE D.P.T cf (.mk c es))) := by
  subst hx
  obtain ⟨M, hm, hd, F, hF⟩ := O.ini c f hi
  obtain ⟨fd, ps, FO, hb, hk⟩ := O.fn f F hF
  have hx : ∀ σ, PassesAt (L2.CX X.prog X.w) X σ (WE W σ) := fun σ => passAt Tk σ
  cases as with
  | nil => exact absurd rfl h0
  | cons a as =>
    obtain ⟨h1, h2⟩ := dec2 (show ((!isStar a) && as.all fun e => !isStar e) = true from hs)
    refine PE_imp (pe_makeS M FO O.room O.gd (O.gl _ hg) hm hb hx ha hd (star_cons (by simpa using h1)) (star_any h2)) fun σ H Q q => ?_
    obtain ⟨s, env, e, R, E, o⟩ := q
    have o : Out G s ((evEs D.P.T cf es env s.st).andThen fun xs s1 => match D.P.T.ini c with
      | some f => (cf f (.ref s1.n :: xs) (s1.new (.ins c []))).andThen fun v s2 => match v with
        | .non => .ok (Val.ref s1.n) s2
        | _ => .bad
      | none => .bad) _ _ := o
    refine ⟨s, env, e, R, E, o.bind.mono (fun xs t l pr o2 vs rvs z dz hz hdz ne => ?_) fun _ _ _ _ _ x => x⟩
    rw [hi] at o2
    have o2 : Out G t ((cf f (.ref t.st.n :: xs) (t.st.new (.ins c []))).andThen fun v s2 => match v with
        | .non => .ok (Val.ref t.st.n) s2
        | _ => .bad) _ _ := o2
    -- the instance's dict first, then the instance
    have l1 : Le G t (t.lay dz (.own z)) := Le.lay hdz
    have p1 : Rep G (t.lay dz (.own z)) := Rep.lay pr hdz
    have hz1 : (t.lay dz (.own z)).H z = none := by
      show upd t.H dz (.own z) z = none
      rw [upd_ne (Ne.symm ne)]
      exact hz
    have ro : Ro G ((t.lay dz (.own z)).alloc z (.ins c []) (.ins (G.ca c) dz [])) (.ins c []) (.ins (G.ca c) dz []) := ⟨dz, [], rfl, rfl⟩
    have p2 := Rep.alloc p1 hz1 ro
    have l2 := l1.trans (Le.alloc (o := .ins c []) (u := .ins (G.ca c) dz []) p1 hz1)
    refine ⟨(t.lay dz (.own z)).alloc z (.ins c []) (.ins (G.ca c) dz []), .ref t.st.n :: xs, rfl, p2, ⟨.ref z, vs, rfl, alloc_ref, Rvs.le pr l2 _ _ rvs⟩, ?_⟩
    have o3 := (o2.on l2).bind
    refine o3.mono (fun v t3 l3 p3 o4 u ru => ?_) fun _ _ _ _ _ x => x
    cases v with
    | non =>
      refine ⟨ru, Out.now (v := .ref t.st.n) p3 o4 _ ?_⟩
      exact Rv.le p2 l3 _ _ (alloc_ref (G := G) (s := t.lay dz (.own z)))
    | _ => exact o4.elim
/-! ### exceptions made; isinstance -/
theorem mkx_end {c f : Nat} {t : Sit} {x : Val} {v : V} {a dx : Addr} {Q : VK} {ex : Nat → Val → Sit → Prop} (R : Rep G t) (r : Rv G t x v) (ha : t.H a = none) (hd : t.H dx = none) (ne : dx ≠ a) (o : Out G t (.ok (.exo c f x) t.st) (fun v t => ∀ u, Rv G t v u → Q u t.H) ex) :
    Q (.ref a) (upd (upd t.H dx (exd dx [(nt f, v)])) a (exo a (G.ca c) (some dx))) := by
  have l1 : Le G t (t.lay dx (exd dx [(nt f, v)])) := Le.lay hd
  have p1 : Rep G (t.lay dx (exd dx [(nt f, v)])) := Rep.lay R hd
  have ha1 : (t.lay dx (exd dx [(nt f, v)])).H a = none := by
    show upd t.H dx _ a = none
    rw [upd_ne (Ne.symm ne)]
    exact ha
  have l2 := l1.trans (Le.lay (o := exo a (G.ca c) (some dx)) ha1)
  have p2 : Rep G ((t.lay dx (exd dx [(nt f, v)])).lay a (exo a (G.ca c) (some dx))) := Rep.lay p1 ha1
  refine o _ l2 p2 rfl _ ⟨a, dx, v, rfl, lay_at, ?_, ?_, ?_, Rv.le R l2 _ _ r⟩
  · show upd (upd t.H dx _) a _ dx = _
    rw [upd_ne ne, upd_same]
  · exact notMu_new p1 ha1
  · exact notMu_new R hd
theorem mkx_read {c f : Nat} {kw : Bool} {e : E} (h : D.P.T.xi c = some f) {σ : L2.St} {H : Hp} {Q : VK} (q : tR G W (evE D.P.T cf (.mkx c kw e)) σ H Q) : tMkx (G.ca c) (nt f) (tR G W (evE D.P.T cf e)) σ H Q :=
  tR_then q fun v u t env R E r o => fun a dx ha hd ne => by
    have o : Out G t (onO (D.P.T.xi c) fun f => .ok (.exo c f v) t.st) _ _ := o
    rw [h] at o
    exact mkx_end R r ha hd ne o
theorem pe_mkx_r {c f : Nat} {kw : Bool} {e : E} {x : Str} {ae : Expr} {p p2 : Pos} (O : Ok D G n cf X N L) (Tk : Takes X W) (hx : x = nt c) (hg : glB L x = true) (hi : D.P.T.xi c = some f) (he : PE X ae (tR G W (evE D.P.T cf e))) (hs : isStar ae = false) :
    PE X (.Call (.Name x p) [ae] [] p2) (tR G W (evE D.P.T cf (.mkx c kw e))) := by
  subst hx
  obtain ⟨⟨k, fI, fd, p1, pp, S, _⟩, hm, hd, hno⟩ := O.xc c f hi
  exact PE_imp (pe_mkx S Tk (O.room.mono (Nat.succ_le_succ O.n1)) O.gd (O.gl _ hg) hm hd he hs) fun σ H Q q => mkx_read hi q
theorem pe_mkxK_r {c f y : Nat} {kw : Bool} {e : E} {x : Str} {ae : Expr} {p p2 kp : Pos} (O : Ok D G n cf X N L) (Tk : Takes X W) (hx : x = nt c) (hg : glB L x = true) (hi : D.P.T.xi c = some f) (hy : D.P.T.xp c = some y) (he : PE X ae (tR G W (evE D.P.T cf e))) :
    PE X (.Call (.Name x p) [] [⟨some (nt y), ae, kp⟩] p2) (tR G W (evE D.P.T cf (.mkx c kw e))) := by
  subst hx
  obtain ⟨⟨k, fI, fd, p1, pp, S, hp⟩, hm, hd, hno⟩ := O.xc c f hi
  have ep := hp y hy
  subst ep
  exact PE_imp (pe_mkxK S Tk (O.room.mono (Nat.succ_le_succ O.n1)) O.gd (O.gl _ hg) hm hd he) fun σ H Q q => mkx_read hi q
def btOk : Bt → Bool
  | .non => false
  | _ => true
theorem bt_boot : ∀ {t : Bt}, btOk t = true → bootBuiltins (Str.ofString (btN t)) = some (.type (btN t)) ∧ Str.ofString (btN t) ∈ blN ∧ Str.ofString (btN t) ≠ "__name__" ∧ (Str.ofString (btN t) == ("__debug__" : Str)) = false
  | .bl, _ => ⟨boot_bool, by decide, by decide, by decide⟩
  | .int, _ => ⟨boot_int, by decide, by decide, by decide⟩
  | .str, _ => ⟨boot_str, by decide, by decide, by decide⟩
  | .tup, _ => ⟨boot_tuple, by decide, by decide, by decide⟩
  | .lst, _ => ⟨boot_list, by decide, by decide, by decide⟩
  | .dct, _ => ⟨boot_dict, by decide, by decide, by decide⟩
  | .ve, _ => ⟨PyProof.Rows.Boot.«ValueError», by decide, by decide, by decide⟩
  | .ke, _ => ⟨PyProof.Rows.Boot.«KeyError», by decide, by decide, by decide⟩
  | .oe, _ => ⟨PyProof.Rows.Boot.«OverflowError», by decide, by decide, by decide⟩
  | .re, _ => ⟨PyProof.Rows.Boot.«RuntimeError», by decide, by decide, by decide⟩
  | .non, h => nomatch h
/-- isinstance(x, c), by the type of x -/
def rIs (G : Gm) (cv : Value) (g : Ty → Option Bool) : List V → Hp → VK → Prop := fun vs H Q => ∃ t v x c, t.H = H ∧ Rep G t ∧ Rv G t v x ∧ vs = [x, c] ∧ (∀ u, RelV c u → u = cv) ∧ Out G t (onO (tagV t.st v) fun u => onO (g u) fun b => .ok (.bl b) t.st) (fun v t' => ∀ u, Rv G t' v u → Q u t'.H) (fun _ _ _ => True)
theorem call_is (O : Ok D G n cf X N L) {cv : Value} {g : Ty → Option Bool} (hg : ∀ u b, g u = some b → PySem.W.kitOne X.K (tyV G u) cv = some b ∧ ∀ c, u = .c c → ExcC X.K (G.ca c)) : CallR X (.builtin "isinstance") (rIs G cv g) := by
  intro pins s σ H vs us Q I r h
  obtain ⟨t, v, x, c, e, R, rv, ev, hc, o⟩ := h
  subst e; subst ev
  obtain ⟨τ, ht, o⟩ := o_out o
  obtain ⟨b, hb, o⟩ := o_out o
  obtain ⟨u, u2, rfl, r1, r2⟩ := vals2 r
  have ec := hc _ r2
  subst ec
  obtain ⟨ek, hx⟩ := hg τ b hb
  have fin : ∀ tk, EP X pins σ Q (.bool b) { s with toks := tk } := fun tk => ⟨.bl b, t.H, I.kept (t' := tk) fun _ _ z => z, rfl, Out.now R o _ rfl⟩
  have lst : ∀ {ys : List Val}, asLr t.st v = some ys → τ = .b .lst → wpAny (model X.prog X.w) X.A (call (.builtin "isinstance") [u, u2]) (EP X pins σ Q) X.xe s := fun {ys} h e => by
    subst e
    obtain ⟨a, ws, eu, hq, _⟩ := asLr_rel R h rv
    subst eu
    cases (show u = Value.ref a from r1)
    rw [← O.K] at hq
    obtain ⟨its, _, ⟨ob, n, ho, hcl, _⟩, _⟩ := I.list hq
    exact PySem.W.kia_one PySem.W.kitx_list I.kIn ⟨_, ho, hcl⟩ ek (fun z => nomatch z) fin
  have lst' : (asLr t.st v).map (fun _ => Ty.b .lst) = some τ → wpAny (model X.prog X.w) X.A (call (.builtin "isinstance") [u, u2]) (EP X pins σ Q) X.xe s := fun h => by
    obtain ⟨ys, h1, h2⟩ := Option.map_eq_some_iff.mp h
    exact lst h1 h2.symm
  cases v with
  | non =>
    cases ht
    cases (show x = V.non from rv)
    cases (show u = Value.none from r1)
    exact PySem.W.kia_one PySem.W.kitx_none I.kIn True.intro ek (fun z => nomatch z) fin
  | bl y =>
    cases ht
    cases (show x = V.bl y from rv)
    cases (show u = Value.bool y from r1)
    exact PySem.W.kia_one PySem.W.kitx_bool I.kIn True.intro ek (fun z => nomatch z) fin
  | int i =>
    cases ht
    cases (show x = V.int i from rv)
    obtain ⟨k, rfl⟩ := (show ∃ t, u = Value.int i t from r1)
    exact PySem.W.kia_one PySem.W.kitx_int I.kIn True.intro ek (fun z => nomatch z) fin
  | str y =>
    cases ht
    cases (show x = V.str y from rv)
    obtain ⟨k, rfl⟩ := (show ∃ t, u = Value.str y t from r1)
    exact PySem.W.kia_one PySem.W.kitx_str I.kIn True.intro ek (fun z => nomatch z) fin
  | tup xs =>
    cases ht
    obtain ⟨a, ws, eu, hq, _⟩ := rv
    subst eu
    cases (show u = Value.ref a from r1)
    rw [← O.K] at hq
    obtain ⟨its, _, ⟨ob, ho, hcl, _⟩, _⟩ := I.tuple hq
    exact PySem.W.kia_one PySem.W.kitx_tuple I.kIn ⟨ob, ho, hcl⟩ ek (fun z => nomatch z) fin
  | exo c f y =>
    cases ht
    obtain ⟨a, dx, w, eu, ea, ed, _⟩ := rv
    subst eu
    cases (show u = Value.ref a from r1)
    have E := hx c rfl
    obtain ⟨t1, ho⟩ := exo_at I.hok ea
    obtain ⟨mA, hns, _⟩ := exd_at I.hok ed
    obtain ⟨od, hod, _⟩ := lookIn_ns hns
    obtain ⟨cd, hcd, _⟩ := PySem.W.any_some E.hd
    have J : PySem.W.InstAt s.heap a _ (G.ca c) (some od) := ⟨ho, rfl, rfl, hod⟩
    exact PySem.W.kia_one (PySem.W.kitx_exc (by rw [hcd]; rfl) E.hg E.hk E.hs E.ha E.hn E.ht E.hm) I.kIn J ek (fun z => nomatch z) fin
  | lst xs => exact lst' ht
  | fr xs => exact lst' ht
  | ref i => exact lst' ht
  | dct kvs => cases ht
  | ins c fs => cases ht
  | gl k => cases ht
/-- the class that stands there -/
def clB (D : Data) (L : NmL) (t : Ty) (e : Expr) : Bool := match t with
  | .b t => btOk t && nameIs L e (Str.ofString (btN t))
  | .c k => nameIs L e (nt k) && D.isK k
theorem pe_isin_r {e : E} {t : Ty} {x : Str} {ae ac : Expr} {p p2 : Pos} (O : Ok D G n cf X N L) (hx : x = "isinstance") (hg : glB L x = true) (he : PE X ae (tR G W (evE D.P.T cf e))) (hs : isStar ae = false) (hc : clB D L t ac = true) :
    PE X (.Call (.Name x p) [ae, ac] [] p2) (tR G W (evE D.P.T cf (.isin e t))) := by
  subst hx
  obtain ⟨c, hc1, hc2, hc3⟩ : ∃ c : V, PE X ac (tC c) ∧ (∀ u, RelV c u → u = tyV G t) ∧ isStar ac = false := by
    cases t with
    | b t =>
      obtain ⟨h1, h2⟩ := dec2 hc
      obtain ⟨q, rfl, h3⟩ := nameIs_ok h2
      obtain ⟨b1, b2, b3, b4⟩ := bt_boot h1
      exact ⟨.ty (btN t), pe_bltn (O.gl _ h3) (O.bl _ b2) b1 rfl b3 b4, fun u h => h, rfl⟩
    | c k =>
      obtain ⟨h1, h2⟩ := dec2 hc
      obtain ⟨q, rfl, h3⟩ := nameIs_ok h1
      obtain ⟨k1, k2⟩ := O.kls k h2
      exact ⟨.ref (G.ca k), pe_glob (O.gl _ h3) k1 rfl k2, fun u h => h, rfl⟩
  have hcall := call_is O (cv := tyV G t) (g := fun u => D.P.T.isT u t) fun u b h => O.isT u t b h
  refine PE_imp (pe_callB hcall (O.gl _ hg) (O.bl _ (by decide)) boot_isinstance (pa_cons he (pa_cons hc1 pa_nil (star_cons hc3)) (star_cons hs)) (by decide) (by decide) (star_cons hs) (by rw [star_cons hc3]; rfl)) fun σ H Q q => ?_
  exact tR_then q fun v u t' env R E r o => ⟨t', v, u, c, rfl, R, r, rfl, hc2, o.mono (fun _ _ _ _ x => x) fun _ _ _ _ _ _ => True.intro⟩
end
end Ev

set_option Elab.async false
set_option linter.all false
set_option maxRecDepth 100000
/-! Ev.Snd7: built-in functions, append, list comprehensions. -/
namespace Ev
open PySem PySem.Spec PyProof.Rows L2

def biN : Bi → Str
  | .len => "len"
  | .int => "int"
  | .abs => "abs"
  | .sum => "sum"
  | .max => "max"
  | .min => "min"
  | .all => "all"
  | .any => "any"
  | .tup => "tuple"
  | .lst => "list"
  | .str => "str"
  | .repr => "repr"
  | .sorted => "sorted"
def biF : Bi → Value
  | .len => .builtin "len"
  | .int => .type "int"
  | .abs => .builtin "abs"
  | .sum => .builtin "sum"
  | .max => .builtin "max"
  | .min => .builtin "min"
  | .all => .builtin "all"
  | .any => .builtin "any"
  | .tup => .type "tuple"
  | .lst => .type "list"
  | .str => .type "str"
  | .repr => .builtin "repr"
  | .sorted => .builtin "sorted"

section
variable {D : Data} {G : Gm} {n : Nat} {cf : CF} {X : Cx} {N : List Str} {L : NmL} {W : WX} {T : Tab}
theorem bad_call {f : Value} {g : St → List Val → R Val} (h : ∀ s xs, g s xs = .bad) : CallR X f (rC G g) := by
  intro pins s σ H vs us Q I r ⟨t, xs, e, R, rv, o⟩
  rw [h] at o
  exact o.elim
theorem bi_r (O : Ok D G n cf X N L) (b : Bi) : CallR X (biF b) (rC G (biV b)) := by
  cases b with
  | len => exact bi_len O.K
  | int => exact bi_int
  | abs => exact bi_abs
  | sum => exact bi_sum O.K O.calm
  | max => exact bi_max O.calm
  | min => exact bi_min O.calm
  | all => exact bi_all O.K O.calm
  | any => exact bi_any O.K O.calm
  | tup => exact bi_tup O.K
  | lst => exact bad_call fun _ _ => rfl
  | str => exact bad_call fun _ _ => rfl
  | repr => exact bi_repr O.K O.gd O.units
  | sorted => exact bad_call fun _ _ => rfl
theorem tCB_of {σ : L2.St} {H : Hp} {Q : VK} {es : List E} {g : St → List Val → R Val} (h : tR G W (fun env s => (evEs T cf es env s).andThen fun xs s1 => g s1 xs) σ H Q) : tCB (rC G g) (tA G W (evEs T cf es)) σ H Q := by
  obtain ⟨s, env, e, R, E, o⟩ := h
  exact ⟨s, env, e, R, E, o.bind.mono (fun xs t l p o2 vs rvs => ⟨t, xs, rfl, p, rvs, o2.mono (fun _ _ _ _ x => x) fun _ _ _ _ _ _ => True.intro⟩) fun _ _ _ _ _ x => x⟩
theorem pe_bi_r {b : Bi} {es : List E} {as : List Expr} {x : Str} {p p2 : Pos} (O : Ok D G n cf X N L) (hx : x = biN b) (hg : glB L x = true) (ha : PA X as (tA G W (evEs T cf es))) (hs : noStar as = true) (h0 : as ≠ []) :
    PE X (.Call (.Name x p) as [] p2) (tR G W (evE T cf (.bi b es))) := by
  subst hx
  cases as with
  | nil => exact absurd rfl h0
  | cons a as =>
    obtain ⟨h1, h2⟩ := dec2 (show ((!isStar a) && as.all fun e => !isStar e) = true from hs)
    have hst := star_cons (es := as) (env := X.env) (show isStar a = false by simpa using h1)
    have hpl := star_any (env := X.env) (pos := p2) h2
    have hG := O.gl _ hg
    have h := bi_r O b
    have fin : ∀ σ H Q, tR G W (evE T cf (.bi b es)) σ H Q → tCB (rC G (biV b)) (tA G W (evEs T cf es)) σ H Q := fun σ H Q q => tCB_of (g := biV b) q
    cases b with
    | len => exact PE_imp (pe_callB h hG (O.bl _ (by decide)) boot_len ha (by decide) (by decide) hst hpl) fin
    | int => exact PE_imp (pe_callTy h hG (O.bl _ (by decide)) boot_int ha (by decide) (by decide) hst hpl) fin
    | abs => exact PE_imp (pe_callB h hG (O.bl _ (by decide)) boot_abs ha (by decide) (by decide) hst hpl) fin
    | sum => exact PE_imp (pe_callB h hG (O.bl _ (by decide)) boot_sum ha (by decide) (by decide) hst hpl) fin
    | max => exact PE_imp (pe_callB h hG (O.bl _ (by decide)) boot_max ha (by decide) (by decide) hst hpl) fin
    | min => exact PE_imp (pe_callB h hG (O.bl _ (by decide)) boot_min ha (by decide) (by decide) hst hpl) fin
    | all => exact PE_imp (pe_callB h hG (O.bl _ (by decide)) boot_all ha (by decide) (by decide) hst hpl) fin
    | any => exact PE_imp (pe_callB h hG (O.bl _ (by decide)) boot_any ha (by decide) (by decide) hst hpl) fin
    | tup => exact PE_imp (pe_callTy h hG (O.bl _ (by decide)) boot_tuple ha (by decide) (by decide) hst hpl) fin
    | lst => exact PE_imp (pe_callTy h hG (O.bl _ (by decide)) boot_list ha (by decide) (by decide) hst hpl) fin
    | str => exact PE_imp (pe_callTy h hG (O.bl _ (by decide)) boot_str ha (by decide) (by decide) hst hpl) fin
    | repr => exact PE_imp (pe_callB h hG (O.bl _ (by decide)) boot_repr ha (by decide) (by decide) hst hpl) fin
    | sorted => exact PE_imp (pe_callB h hG (O.bl _ (by decide)) boot_sorted ha (by decide) (by decide) hst hpl) fin

/-! ### what a loop walks, from its tree -/
theorem pi_seq {tg l : Expr} {tl : TE} (hl : PE X l tl) : PI X tg l (fun σ H R => tl σ H fun x H1 => ∃ a, x = .ref a ∧ ((∃ xs, SqL X.K H1 a xs) ∧ R (Itl X.K a) H1 ∨ (∃ xs, SqT X.K H1 a xs) ∧ R (Itt X.K a) H1)) := by
  refine ⟨fun pins s σ H R I h => ?_⟩
  refine thn (hl.run pins s σ H _ I h) fun v s1 ⟨x, H1, I1, r1, a, e, q⟩ => ?_
  subst e
  cases r1
  have new : ∀ b ∈ [s1.heap.objs.size], FpOk X pins H1 b := fun b hb => by
    rw [List.mem_singleton.mp hb]
    exact I1.fpOk (Nat.le_refl _) (I1.hok.fresh (Nat.le_refl _))
  rcases q with ⟨⟨xs, hq⟩, q⟩ | ⟨⟨xs, hq⟩, q⟩
  · obtain ⟨its, rv, p, hz⟩ := I1.list hq
    exact wpAny_pyIter_list p.isList ⟨_, [_], _, _, H1, rfl, I1.kept (t' := s1.toks) fun b o e => Heap.get?_push_of_some _ e, turn_list a _, ⟨_, Heap.get?_push_size _ rfl, rfl, rfl⟩, new, q⟩
  · obtain ⟨its, rv, p, hz⟩ := I1.tuple hq
    exact wpAny_pyIter_tuple (show s1.heap.IsTuple a its.toArray from p) ⟨_, [_], _, _, H1, rfl, I1.kept (t' := s1.toks) fun b o e => Heap.get?_push_of_some _ e, turn_tuple a _, ⟨_, Heap.get?_push_size _ rfl, rfl, rfl⟩, new, q⟩
/-- a loop's source, by the evaluator's own -/
def tI (G : Gm) (W : WX) (src : Src) (fs : Env → St → R (List Val)) : TI := fun σ H R => ∃ s env, s.H = H ∧ Rep G s ∧ EnvR G s env σ ∧
  Out G s (fs env s.st) (fun xs t => ∃ items, srcV src xs = some items ∧ ∀ J, Wk G t J items → R J t.H) (fun c v t => ∀ cls d, XR G t c v cls d → W cls d σ t.H)
theorem PI_imp {tg e : Expr} {t t' : TI} (h : PI X tg e t) (i : ∀ σ H Q, t' σ H Q → t σ H Q) : PI X tg e t' := ⟨fun pins s σ H R I q => h.run pins s σ H R I (i σ H R q)⟩
theorem lst_stay {s : Sit} {a : Addr} {vs : List V} (h : s.H a = some (.lst vs)) (m : ¬ s.Mu a) : ∀ t, Le G s t → Rep G t → SqL G.K t.H a vs := fun t l _ => SqL.of (l.kp a _ h m).1
theorem pi_it_r {tg : Expr} {e : E} {x : Expr} (O : Ok D G n cf X N L) (h : PE X x (tR G W (evE T cf e))) : PI X tg x (tI G W .it (evEs T cf [e])) :=
  PI_imp (pi_seq h) fun σ H R q => by
    obtain ⟨s, env, es, Rp, E, o⟩ := q
    have o : Out G s ((evE T cf e env s.st).andThen fun x s1 => .ok [x] s1) _ _ := o
    refine ⟨s, env, es, Rp, E, o.bind.mono (fun v t l p o2 u ru => ?_) fun _ _ _ _ _ x => x⟩
    obtain ⟨items, h1, h2⟩ := o2 t (Le.refl t) p rfl
    rw [O.K]
    cases v with
    | lst xs =>
      cases h1
      obtain ⟨a, vs, eu, q, m, r⟩ := ru
      exact ⟨a, eu, .inl ⟨⟨vs, SqL.of q⟩, h2 _ (wk_list (lst_stay q m) r p)⟩⟩
    | fr xs =>
      cases h1
      obtain ⟨a, vs, eu, q, r⟩ := ru
      exact ⟨a, eu, .inl ⟨⟨vs, q.sq⟩, h2 _ (wk_list (fun t' l' _ => (FzL.le l' q).sq) r p)⟩⟩
    | tup xs =>
      cases h1
      obtain ⟨a, vs, eu, q, r⟩ := ru
      exact ⟨a, eu, .inr ⟨⟨vs, q⟩, h2 _ (wk_tup q r p)⟩⟩
    | _ => cases h1
theorem smallB_iff {i : Int} (h : smallB i = true) : -(2 ^ 62) ≤ i ∧ i < 2 ^ 62 := ⟨of_decide_eq_true (dec2 h).1, of_decide_eq_true (dec2 h).2⟩
theorem len2 {α : Type} {l : List α} (h : l.length = 2) : ∃ x y, l = [x, y] := by
  match l, h with
  | [x, y], _ => exact ⟨x, y, rfl⟩
theorem tA_tI {σ : L2.St} {H : Hp} {R : It → Hp → Prop} {src : Src} {es : List E} {Q : List V → Hp → Prop} (h : tI G W src (evEs T cf es) σ H R)
    (k : ∀ xs vs t items, Rep G t → Rvs G t xs vs → xs.length = es.length → srcV src xs = some items → (∀ J, Wk G t J items → R J t.H) → Q vs t.H) : tA G W (evEs T cf es) σ H Q := by
  obtain ⟨s, env, e, Rp, E, o⟩ := h
  refine ⟨s, env, e, Rp, E, ?_⟩
  have len := fun xs s' => evEs_len (T := T) (cf := cf) (es := es) (xs := xs) (env := env) (s := s.st) (s' := s')
  revert o len
  generalize evEs T cf es env s.st = r
  intro o len
  cases r with
  | bad => exact o
  | exc c v st => exact o
  | ok xs st =>
    intro t l p e vs rvs
    obtain ⟨items, h1, h2⟩ := o t l p e
    exact k xs vs t items p rvs (len xs st rfl) h1 h2
theorem src_range1 {x : Val} {items : List Val} (h : srcV .range [x] = some items) : ∃ j, x = .int j ∧ smallB j = true ∧ items = rangeV 0 j.toNat := by
  cases x with
  | int j =>
    have h : (match smallB j with | true => some (rangeV 0 j.toNat) | false => none) = some items := h
    cases q : smallB j with
    | false => rw [q] at h; cases h
    | true => rw [q] at h; cases h; exact ⟨j, rfl, q, rfl⟩
  | _ => cases h
theorem src_range2 {x y : Val} {items : List Val} (h : srcV .range [x, y] = some items) : ∃ i j, x = .int i ∧ y = .int j ∧ smallB i = true ∧ smallB j = true ∧ items = rangeV i (j - i).toNat := by
  cases x with
  | int i =>
    cases y with
    | int j =>
      have h : (match smallB i && smallB j with | true => some (rangeV i (j - i).toNat) | false => none) = some items := h
      cases q : (smallB i && smallB j) with
      | false => rw [q] at h; cases h
      | true =>
        rw [q] at h
        cases h
        exact ⟨i, j, rfl, rfl, (dec2 q).1, (dec2 q).2, rfl⟩
    | _ => cases h
  | _ => cases h
theorem pi_range1_r {tg : Expr} {e : E} {a : Expr} {p p2 : Pos} (O : Ok D G n cf X N L) (hg : glB L "range" = true) (ha : PA X [a] (tA G W (evEs T cf [e]))) (hs : isStar a = false) :
    PI X tg (.Call (.Name "range" p) [a] [] p2) (tI G W .range (evEs T cf [e])) :=
  PI_imp (pi_range1 (O.gl _ hg) (O.bl "range" (by decide)) ha (star_cons hs)) fun σ H R q => tA_tI q fun xs vs t items p rvs hl h1 h2 => by
    obtain ⟨x, rfl⟩ := List.length_eq_one_iff.mp hl
    obtain ⟨j, rfl, q, rfl⟩ := src_range1 h1
    obtain ⟨v, ev, rv⟩ := rvs1 rvs
    cases (show v = V.int j from rv)
    obtain ⟨b1, b2⟩ := smallB_iff q
    exact ⟨j, ev, b1, b2, h2 _ wk_range⟩
theorem pi_range2_r {tg : Expr} {e f : E} {a b : Expr} {p p2 : Pos} (O : Ok D G n cf X N L) (hg : glB L "range" = true) (ha : PA X [a, b] (tA G W (evEs T cf [e, f]))) (hs : isStar a = false) (hs2 : isStar b = false) :
    PI X tg (.Call (.Name "range" p) [a, b] [] p2) (tI G W .range (evEs T cf [e, f])) :=
  PI_imp (pi_range2 (O.gl _ hg) (O.bl "range" (by decide)) ha (by rw [star_cons hs, star_cons hs2]; rfl) (by rw [star_cons hs2]; rfl)) fun σ H R q => tA_tI q fun xs vs t items p rvs hl h1 h2 => by
    obtain ⟨x, y, rfl⟩ := len2 hl
    obtain ⟨i, j, rfl, rfl, q, q', rfl⟩ := src_range2 h1
    obtain ⟨v, w, ev, rv, rw'⟩ := rvs2 rvs
    cases (show v = V.int i from rv)
    cases (show w = V.int j from rw')
    obtain ⟨b1, b2⟩ := smallB_iff q
    obtain ⟨b3, b4⟩ := smallB_iff q'
    exact ⟨i, j, ev, ⟨b1, b2, b3, b4⟩, h2 _ wk_range⟩
theorem pi_enum_r {elts : List Expr} {kk : Nat} {tp : Pos} {e : E} {a : Expr} {p p2 : Pos} (O : Ok D G n cf X N L) (hg : glB L "enumerate" = true) (ha : PA X [a] (tA G W (evEs T cf [e]))) (hs : isStar a = false) :
    PI X (.Tuple elts kk tp) (.Call (.Name "enumerate" p) [a] [] p2) (tI G W .enum (evEs T cf [e])) :=
  PI_imp (pi_enum (O.gl _ hg) (O.bl "enumerate" (by decide)) ha (star_cons hs)) fun σ H R q => tA_tI q fun xs vs t items p rvs hl h1 h2 => by
    obtain ⟨x, rfl⟩ := List.length_eq_one_iff.mp hl
    obtain ⟨v, ev, rv⟩ := rvs1 rvs
    cases x with
    | lst ys =>
      cases h1
      obtain ⟨a, ws, eu, q, m, r⟩ := rv
      subst eu
      rw [O.K]
      exact ⟨a, ws, ev, SqL.of q, h2 _ (wk_enum (lst_stay q m) r p)⟩
    | _ => cases h1
theorem pi_zip_r {elts : List Expr} {kk : Nat} {tp : Pos} {e f : E} {a b : Expr} {p p2 : Pos} (O : Ok D G n cf X N L) (hg : glB L "zip" = true) (ha : PA X [a, b] (tA G W (evEs T cf [e, f]))) (hs : isStar a = false) (hs2 : isStar b = false) :
    PI X (.Tuple elts kk tp) (.Call (.Name "zip" p) [a, b] [] p2) (tI G W .zip (evEs T cf [e, f])) :=
  PI_imp (pi_zip (O.gl _ hg) (O.bl "zip" (by decide)) ha (star_cons hs) (by rw [star_cons hs2]; rfl)) fun σ H R q => tA_tI q fun xs vs t items p rvs hl h1 h2 => by
    obtain ⟨x, y, rfl⟩ := len2 hl
    obtain ⟨v, w, ev, rv, rw'⟩ := rvs2 rvs
    cases x with
    | lst xs =>
      cases y with
      | lst ys =>
        cases h1
        obtain ⟨a, vs, eu, q, m, r⟩ := rv
        obtain ⟨b, ws, eu2, q2, m2, r2⟩ := rw'
        subst eu; subst eu2
        rw [O.K]
        exact ⟨a, b, vs, ws, ev, SqL.of q, SqL.of q2, h2 _ (wk_zip (fun t' l' p' => ⟨lst_stay q m t' l' p', lst_stay q2 m2 t' l' p'⟩) r r2 p)⟩
      | _ => cases h1
    | _ => cases h1
end
end Ev

set_option Elab.async false
set_option linter.all false
set_option maxRecDepth 100000
/-! Ev.Snd8: targets, freezing, list comprehensions. -/
namespace Ev
open PySem PySem.Spec PyProof.Rows L2

section
variable {D : Data} {G : Gm} {n : Nat} {cf : CF} {X : Cx} {N : List Str} {L : NmL} {W : WX} {T : Tab}
/-! ### freezing -/
theorem fz_out {s : Sit} {v : Val} {u : V} {ok : Val → Sit → Prop} {ex : Nat → Val → Sit → Prop} (R : Rep G s) (r : Rv G s v u) (o : Out G s (fzV s.st v) ok ex) : ∃ v' t, Le G s t ∧ Rep G t ∧ t.H = s.H ∧ Rv G t v' u ∧ ok v' t := by
  have same : Out G s (.ok v s.st) ok ex → ∃ v' t, Le G s t ∧ Rep G t ∧ t.H = s.H ∧ Rv G t v' u ∧ ok v' t := fun o => ⟨v, s, Le.refl s, R, rfl, r, Out.now R o⟩
  cases v with
  | ref i =>
    obtain ⟨eu, _⟩ := r
    subst eu
    have o : Out G s (match lookN i s.st.m with
      | some (.lst xs) => .ok (.lst xs) (s.st.drop i)
      | some (.dct xs) => .ok (.dct xs) (s.st.drop i)
      | some (.ins c fs) => .ok (.ins c fs) (s.st.drop i)
      | none => .bad) ok ex := o
    cases q : lookN i s.st.m with
    | none => rw [q] at o; exact o.elim
    | some ob =>
      obtain ⟨w, hw, ro⟩ := R.ob i ob q
      have l : Le G s (s.drop i) := Le.drop R
      have p : Rep G (s.drop i) := Rep.drop R
      have nm : ¬ (s.drop i).Mu (s.as i) := fun m => (drop_Mu R m).2 ob q rfl
      rw [q] at o
      cases ob with
      | lst xs =>
        obtain ⟨vs, e, rv⟩ := ro
        subst e
        exact ⟨.lst xs, s.drop i, l, p, rfl, ⟨_, vs, rfl, hw, nm, Rvs.le R l _ _ rv⟩, o (s.drop i) l p rfl⟩
      | dct xs =>
        obtain ⟨vs, e, rv⟩ := ro
        subst e
        exact ⟨.dct xs, s.drop i, l, p, rfl, ⟨_, vs, rfl, hw, nm, Rkv.le R l _ _ rv⟩, o (s.drop i) l p rfl⟩
      | ins c fs =>
        obtain ⟨dx, ws, e, rv⟩ := ro
        subst e
        exact ⟨.ins c fs, s.drop i, l, p, rfl, ⟨_, dx, ws, rfl, hw, nm, Rfs.le R l _ _ rv⟩, o (s.drop i) l p rfl⟩
  | _ => exact same o
theorem pe_fz_r {a : E} {x : Expr} (h : PE X x (tR G W (evE T cf a))) : PE X x (tR G W (evE T cf (.fz a))) :=
  PE_imp h fun σ H Q q => by
    obtain ⟨s, env, e, R, E, o⟩ := q
    refine ⟨s, env, e, R, E, o.bind.mono (fun v t l p o2 u ru => ?_) fun _ _ _ _ _ x => x⟩
    obtain ⟨v', t', l', p', eh, r', k⟩ := fz_out p ru o2
    rw [← eh]
    exact k u r'

/-! ### targets -/
def setS : List Nat → List V → L2.St → L2.St
  | i :: is, v :: vs, σ => setS is vs (σ.set i (some v))
  | _, _, σ => σ
def gNames : List Nat → TGs
  | [] => gNil
  | i :: is => gCons (gName i) (gNames is)
theorem gNames_of : ∀ {is : List Nat} {vs : List V} {σ : L2.St} {H : Hp} {Q : L2.St → Hp → Prop}, vs.length = is.length → Q (setS is vs σ) H → gNames is vs σ H Q
  | [], [], _, _, _, _, q => ⟨rfl, q⟩
  | [], _ :: _, _, _, _, h, _ => by cases h
  | _ :: _, [], _, _, _, h, _ => by cases h
  | i :: is, v :: vs, σ, H, Q, h, q => ⟨v, vs, rfl, gNames_of (is := is) (vs := vs) (Nat.succ.inj h) q⟩
theorem EnvR.sets {t : Sit} : ∀ {is : List Nat} {xs : List Val} {vs : List V} {env env' : Env} {σ : L2.St}, EnvR G t env σ → Rvs G t xs vs → setE is xs env = some env' → vs.length = is.length ∧ EnvR G t env' (setS is vs σ)
  | [], [], vs, env, env', σ, E, r, h => by
    have e : vs = [] := r
    subst e
    cases h
    exact ⟨rfl, E⟩
  | [], _ :: _, _, _, _, _, _, _, h => by cases h
  | _ :: _, [], _, _, _, _, _, _, h => by cases h
  | i :: is, x :: xs, vs, env, env', σ, E, ⟨w, ws, e, r, rs⟩, h => by
    subst e
    obtain ⟨h1, h2⟩ := EnvR.sets (E.set i r) rs (show setE is xs (env.set i (some x)) = some env' from h)
    exact ⟨congrArg (· + 1) h1, h2⟩
/-- a target, by the evaluator's own: what is reached has the new slots -/
def gT (G : Gm) (tg : Tg) : TG := fun v σ H Q => ∃ t x env env', t.H = H ∧ Rep G t ∧ EnvR G t env σ ∧ Rv G t x v ∧ tgV tg x env = some env' ∧
  ∀ σ', EnvR G t env' σ' → (∀ vs : List Nat, (∀ i ∈ tg.slots, i ∈ vs) → wipe σ' vs = wipe σ vs) → Q σ' H
theorem wipe_at {σ : L2.St} {i : Nat} {vs : List Nat} (h : i ∈ vs) : (wipe σ vs)[i]? = if i < σ.length then some none else none := by
  induction vs with
  | nil => cases h
  | cons v vs ih =>
    have e : wipe σ (v :: vs) = (wipe σ vs).set v none := rfl
    rw [e]
    by_cases hv : v = i
    · subst hv
      by_cases hl : v < σ.length
      · rw [if_pos hl, List.getElem?_set_self (by rw [wipe_length]; exact hl)]
      · rw [if_neg hl, List.getElem?_eq_none (by rw [List.length_set, wipe_length]; omega)]
    · rw [List.getElem?_set_ne hv]
      exact ih ((List.mem_cons.mp h).resolve_left fun z => hv z.symm)
theorem wipe_set {σ : L2.St} {i : Nat} {o : Option V} {vs : List Nat} (h : i ∈ vs) : wipe (σ.set i o) vs = wipe σ vs := by
  apply List.ext_getElem?
  intro j
  by_cases hj : j ∈ vs
  · rw [wipe_at hj, wipe_at hj, List.length_set]
  · rw [wipe_out hj, wipe_out hj, List.getElem?_set_ne (fun e => hj (by rw [← e]; exact h))]
theorem wipe_setS : ∀ {is : List Nat} {ws : List V} {σ : L2.St} {vs : List Nat}, (∀ i ∈ is, i ∈ vs) → wipe (setS is ws σ) vs = wipe σ vs
  | [], _, _, _, _ => rfl
  | _ :: _, [], _, _, _ => rfl
  | i :: is, w :: ws, σ, vs, h => by
    show wipe (setS is ws (σ.set i (some w))) vs = _
    rw [wipe_setS fun j hj => h j (List.mem_cons_of_mem _ hj), wipe_set (h i (List.mem_cons_self ..))]
theorem wipe_wipe {σ : L2.St} : ∀ {us vs : List Nat}, (∀ i ∈ us, i ∈ vs) → wipe (wipe σ us) vs = wipe σ vs
  | [], _, _ => rfl
  | u :: us, vs, h => by
    show wipe ((wipe σ us).set u none) vs = _
    rw [wipe_set (h u (List.mem_cons_self ..)), wipe_wipe fun j hj => h j (List.mem_cons_of_mem _ hj)]
theorem EnvR.wipe {t : Sit} {env : Env} {σ : L2.St} (E : EnvR G t env σ) : ∀ vs : List Nat, EnvR G t (wipeE env vs) (L2.wipe σ vs)
  | [] => E
  | v :: vs => by
    have E' := EnvR.wipe E vs
    refine ⟨?_, fun i x h => ?_⟩
    · show ((wipeE env vs).set v none).length = ((L2.wipe σ vs).set v none).length
      rw [List.length_set, List.length_set, E'.len]
    · have h : ((wipeE env vs).set v none)[i]? = some (some x) := h
      show ∃ w : V, ((L2.wipe σ vs).set v none)[i]? = some (some w) ∧ _
      by_cases e : v = i
      · subst e
        exfalso
        by_cases hl : v < (wipeE env vs).length
        · rw [List.getElem?_set_self hl] at h; cases h
        · rw [List.getElem?_eq_none (by rw [List.length_set]; omega)] at h; cases h
      · rw [List.getElem?_set_ne e] at h ⊢
        exact E'.at_ i x h
theorem PG_imp {tg : Expr} {t t' : TG} (h : PG X tg t) (i : ∀ v σ H Q, t' v σ H Q → t v σ H Q) : PG X tg t' := ⟨fun pins s σ H v u Q I r q => h.run pins s σ H v u Q I r (i v σ H Q q)⟩
theorem pg_v_r {i : Nat} {x : Str} {p : Pos} (O : Ok D G n cf X N L) (hN : N[i]? = some x) (hl : locB L x = true) : PG X (.Name x p) (gT G (.v i)) := by
  obtain ⟨h1, h2⟩ := O.loc x hl
  refine PG_imp (pg_name (i := i) O.nd (by rw [O.N_]; exact hN) h1 h2) fun v σ H Q q => ?_
  obtain ⟨t, x, env, env', e, R, E, r, h, k⟩ := q
  cases h
  exact k _ (E.set i r) fun vs hv => wipe_set (hv i (List.mem_cons_self ..))
/-- names, one slot each -/
def namesB (N : List Str) (L : NmL) : List Nat → List Expr → Bool
  | [], [] => true
  | i :: is, e :: es => (match aName e with
    | some x => nameAt N i x && locB L x
    | none => false) && namesB N L is es
  | _, _ => false
theorem names_ok (O : Ok D G n cf X N L) : ∀ {is : List Nat} {es : List Expr}, namesB N L is es = true → PGs X es (gNames is) ∧ (assignEach es X.env).length = is.length ∧ (assignEach es X.env).findIdx? (·.1) = none ∧ es.length = is.length
  | [], [], _ => ⟨pgs_nil, rfl, rfl, rfl⟩
  | [], _ :: _, h => by cases h
  | _ :: _, [], h => by cases h
  | i :: is, e :: es, h => by
    obtain ⟨h1, h2⟩ := dec2 h
    cases q : aName e with
    | none => rw [q] at h1; cases h1
    | some x =>
      rw [q] at h1
      obtain ⟨p, rfl⟩ := aName_eq q
      obtain ⟨h3, h4⟩ := dec2 h1
      obtain ⟨l1, l2⟩ := O.loc x h4
      obtain ⟨r1, r2, r3, r4⟩ := names_ok O h2
      refine ⟨pgs_cons (pg_name (i := i) O.nd (by rw [O.N_]; exact nameAt_iff h3) l1 l2) r1, ?_, ?_, congrArg (· + 1) r4⟩
      · show (assignEach es X.env).length + 1 = is.length + 1
        rw [r2]
      · show List.findIdx? (·.1) ((false, assign (.Name x p) X.env) :: assignEach es X.env) = none
        rw [List.findIdx?_cons, r3]
        rfl
theorem pg_tup_r {is : List Nat} {es : List Expr} {k : Nat} {p : Pos} (O : Ok D G n cf X N L) (h : namesB N L is es = true) : PG X (.Tuple es k p) (gT G (.tup is)) := by
  obtain ⟨h1, h2, h3, h4⟩ := names_ok O h
  refine PG_imp (pg_tup (n := is.length) O.calm h1 h2 h3) fun v σ H Q q => ?_
  obtain ⟨t, x, env, env', e, R, E, r, hs, kk⟩ := q
  subst e
  cases x with
  | tup xs =>
    have hs : setE is xs env = some env' := hs
    obtain ⟨a, vs, eu, q, rv⟩ := r
    obtain ⟨l1, E2⟩ := E.sets rv hs
    rw [O.K]
    refine ⟨a, vs, eu, q, l1, gNames_of l1 (kk _ E2 fun ws hw => wipe_setS hw)⟩
  | _ => cases hs
def tgB (N : List Str) (L : NmL) (tg : Tg) (e : Expr) : Bool := match tg with
  | .v i => (match aName e with
    | some x => nameAt N i x && locB L x
    | none => false)
  | .tup is => (match aTup e with
    | some es => namesB N L is es
    | none => false)
theorem pg_r {tg : Tg} {e : Expr} (O : Ok D G n cf X N L) (h : tgB N L tg e = true) : PG X e (gT G tg) := by
  cases tg with
  | v i =>
    have h : (match aName e with | some x => nameAt N i x && locB L x | none => false) = true := h
    cases q : aName e with
    | none => rw [q] at h; cases h
    | some x =>
      rw [q] at h
      obtain ⟨p, rfl⟩ := aName_eq q
      obtain ⟨h1, h2⟩ := dec2 h
      exact pg_v_r O (nameAt_iff h1) h2
  | tup is =>
    have h : (match aTup e with | some es => namesB N L is es | none => false) = true := h
    cases q : aTup e with
    | none => rw [q] at h; cases h
    | some es =>
      rw [q] at h
      obtain ⟨k, p, rfl⟩ := aTup_eq q
      exact pg_tup_r O h

/-! ### list comprehensions -/
theorem nox_out {α β : Type} {s : Sit} {r : R α} {f : α → St → R β} {ok : β → Sit → Prop} {ex : Nat → Val → Sit → Prop} (h : Out G s (r.nox.andThen f) ok ex) : Out G s r (fun a t => Out G t (f a t.st) ok ex) fun _ _ _ => False := by
  cases r with
  | ok a st => exact Out.bind (r := R.ok a st) (f := f) h
  | exc c v st => exact h.elim
  | bad => exact h.elim
theorem own_slots {N : List Str} : ∀ {l : List Nat}, l.all (fun i => leN (i + 1) N.length) = true → (ownL N l).map (·.2) = l
  | [], _ => rfl
  | i :: l, h => by
    obtain ⟨h1, h2⟩ := dec2 (show (leN (i + 1) N.length && l.all fun i => leN (i + 1) N.length) = true from h)
    have hl : i < N.length := leN_iff.mp h1
    have e : N[i]? = some N[i] := List.getElem?_eq_getElem hl
    show (List.filterMap (fun i => (N[i]?).map fun x => (x, i)) (i :: l)).map (·.2) = i :: l
    rw [List.filterMap_cons, e]
    show i :: (ownL N l).map (·.2) = i :: l
    rw [own_slots h2]
theorem tLc_of {fz : Bool} {src : Src} {es : List E} {tg : Tg} {cond : List E} {elt : E} {σ : L2.St} {H : Hp} {Q : VK} (hN : tg.slots.all (fun i => leN (i + 1) N.length) = true) (q : tR G W (evE T cf (.lc fz src es tg cond elt)) σ H Q) :
    tLc (tI G W src (evEs T cf es)) (gT G tg) (tT G noX (evAnd T cf cond)) (tR G noX (evE T cf elt)) ((ownL N tg.slots).map (·.2)) σ H Q := by
  rw [own_slots hN]
  obtain ⟨s, env, e, R, E, o⟩ := q
  have o : Out G s ((evEs T cf es env s.st).andThen fun xs s1 => onO (srcV src xs) fun items =>
    (compV s1.n (fun e t => evAnd T cf cond e t) (fun e t => evE T cf elt e t) tg items (wipeE env tg.slots) (s1.new (.lst []))).andThen fun _ s2 => lcEnd fz s1.n s2) _ _ := o
  refine ⟨s, env, e, R, E, o.bind.mono (fun xs t l p o2 => ?_) fun _ _ _ _ _ x => x⟩
  obtain ⟨items, h1, o2⟩ := o_out o2
  refine ⟨items, h1, fun J wk A hA => ?_⟩
  -- the new list stands in the store
  have ro : Ro G (t.alloc A (.lst []) (.lst [])) (.lst []) (.lst []) := ⟨[], rfl, rfl⟩
  have p0 : Rep G (t.alloc A (.lst []) (.lst [])) := Rep.alloc p hA ro
  have l0 : Le G t (t.alloc A (.lst []) (.lst [])) := Le.alloc p hA
  have at0 : (t.alloc A (.lst []) (.lst [])).as t.st.n = A := if_pos rfl
  have n0 : t.st.n < (t.alloc A (.lst []) (.lst [])).st.n := Nat.lt_succ_self _
  have E0 := (E.le R l).wipe tg.slots
  have o3 := (o2.on l0).bind
  let F : Val → Sit → Prop := fun _ t' => Out G t' (lcEnd fz t.st.n t'.st) (fun v t => ∀ u, Rv G t v u → Q u t.H) (fun c v t => ∀ cls d, XR G t c v cls d → W cls d σ t.H)
  let Pv : Nat → Hp → Prop := fun i H => ∃ t' : Sit, t'.H = H ∧ Rep G t' ∧ Le G t t' ∧ t'.as t.st.n = A ∧ t.st.n < t'.st.n ∧
    ∃ ex, Out G t' (compV t.st.n (fun e t => evAnd T cf cond e t) (fun e t => evE T cf elt e t) tg (items.drop i) (wipeE env tg.slots) t'.st) F ex
  have o3' : Out G (t.alloc A (.lst []) (.lst [])) (compV t.st.n (fun e t => evAnd T cf cond e t) (fun e t => evE T cf elt e t) tg (items.drop 0) (wipeE env tg.slots) (t.alloc A (.lst []) (.lst [])).st) F (fun c v t => ∀ cls d, XR G t c v cls d → W cls d σ t.H) := o3
  refine ⟨fun i m H => m = items.length - i ∧ i ≤ items.length ∧ Pv i H, ⟨items.length, rfl, Nat.zero_le _, _, rfl, p0, l0, at0, n0, _, o3'⟩, ?_⟩
  rintro i m H' ⟨rfl, hi, t1, e1, p1, l1, at1, n1, ex, o4⟩
  subst e1
  by_cases hlt : i < items.length
  · right
    have hx : items[i]? = some items[i] := List.getElem?_eq_getElem hlt
    obtain ⟨go, yl⟩ := wk.go t1 l1 p1 i _ hx
    refine ⟨go, Pv (i + 1), fun H2 p2 => ⟨items.length - (i + 1), by omega, rfl, hlt, p2⟩, fun v H2 y => ?_⟩
    obtain ⟨t2, e2, es2, l2, p2, rv⟩ := yl v H2 y
    subst e2
    rw [List.drop_eq_getElem_cons hlt, ← es2] at o4
    have o4 : Out G t1 (onO (tgV tg items[i] (wipeE env tg.slots)) fun env1 => (evAnd T cf cond env1 t2.st).nox.andThen fun c s1 => match c with
      | .bl true => (evE T cf elt env1 s1).nox.andThen fun y s2 => (appK t.st.n y s2).andThen fun _ s3 => compV t.st.n (fun e t => evAnd T cf cond e t) (fun e t => evE T cf elt e t) tg (items.drop (i + 1)) (wipeE env tg.slots) s3
      | .bl false => compV t.st.n (fun e t => evAnd T cf cond e t) (fun e t => evE T cf elt e t) tg (items.drop (i + 1)) (wipeE env tg.slots) s1
      | _ => .bad) F ex := o4
    obtain ⟨env1, he1, o4⟩ := o_out o4
    have lt2 : Le G t t2 := l1.trans l2
    have E2 : EnvR G t2 (wipeE env tg.slots) (wipe σ tg.slots) := E0.le p lt2
    refine ⟨t2, items[i], _, env1, rfl, p2, E2, rv, he1, fun σ2 E3 hw => ?_⟩
    refine ⟨by rw [hw tg.slots fun _ h => h, wipe_wipe fun _ h => h], ?_⟩
    have o5 := nox_out (o4.on l2)
    refine ⟨t2, env1, rfl, p2, E3, o5.mono (fun c t3 l3 p3 o6 => ?_) fun _ _ _ _ _ z => z.elim⟩
    have a3 : t3.as t.st.n = A := (l3.as _ (Nat.lt_of_lt_of_le n1 l2.n)).trans ((l2.as _ n1).trans at1)
    have n3 : t.st.n < t3.st.n := Nat.lt_of_lt_of_le n1 (Nat.le_trans l2.n l3.n)
    cases c with
    | bl b =>
      refine ⟨b, rfl, ?_⟩
      cases b with
      | false =>
        rw [if_neg Bool.false_ne_true]
        exact ⟨t3, rfl, p3, lt2.trans l3, a3, n3, ex, o6⟩
      | true =>
        rw [if_pos rfl]
        have o7 := nox_out (show Out G t3 ((evE T cf elt env1 t3.st).nox.andThen fun y s2 => (appK t.st.n y s2).andThen fun _ s3 => compV t.st.n (fun e t => evAnd T cf cond e t) (fun e t => evE T cf elt e t) tg (items.drop (i + 1)) (wipeE env tg.slots) s3) F ex from o6)
        refine ⟨t3, env1, rfl, p3, E3.le p2 l3, o7.mono (fun y t4 l4 p4 o8 u ru => ?_) fun _ _ _ _ _ z => z.elim⟩
        have a4 : t4.as t.st.n = A := (l4.as _ n3).trans a3
        have n4 : t.st.n < t4.st.n := Nat.lt_of_lt_of_le n3 l4.n
        have o8 : Out G t4 ((appK t.st.n y t4.st).andThen fun _ s3 => compV t.st.n (fun e t => evAnd T cf cond e t) (fun e t => evE T cf elt e t) tg (items.drop (i + 1)) (wipeE env tg.slots) s3) F ex := o8
        unfold appK at o8
        cases ql : t4.st.get t.st.n with
        | none => rw [ql] at o8; exact o8.elim
        | some ob =>
          rw [ql] at o8
          cases ob with
          | lst ys =>
            have ql' : lookN t.st.n t4.st.m = some (.lst ys) := ql
            obtain ⟨w, hw, vs, ew, rvs⟩ := p4.ob _ _ ql'
            subst ew
            rw [a4] at hw
            have o8 := o8.bind
            obtain ⟨hlen, o8⟩ := b_out o8
            have ro4 : Ro G (t4.put t.st.n (.lst (ys ++ [y])) (.lst (vs ++ [u]))) (.lst (ys ++ [y])) (.lst (vs ++ [u])) :=
              ⟨vs ++ [u], rfl, (Rvs.le p4 (Le.put ql') _ _ rvs).append ⟨u, [], rfl, Rv.le p4 (Le.put ql') _ _ ru, rfl⟩⟩
            have p5 := Rep.put p4 ql' ro4
            have l5 : Le G t4 (t4.put t.st.n (.lst (ys ++ [y])) (.lst (vs ++ [u]))) := Le.put ql'
            have o9 := o8 _ l5 p5 rfl
            refine ⟨vs, hw, ?_, t4.put t.st.n (.lst (ys ++ [y])) (.lst (vs ++ [u])), ?_, p5, ((lt2.trans l3).trans l4).trans l5, a4, n4, ex, o9⟩
            · rw [← rvs.length, ← SL_eq]
              exact leN_iff.mp hlen
            · show upd t4.H (t4.as t.st.n) (.lst (vs ++ [u])) = _
              rw [a4]
          | dct _ => exact o8.elim
          | ins _ _ => exact o8.elim
    | _ => exact o6.elim
  · left
    have ei : i = items.length := by omega
    subst ei
    refine ⟨wk.stop t1 l1 p1, ?_⟩
    rw [List.drop_length] at o4
    have o5 : F .non t1 := o4 t1 (Le.refl t1) p1 rfl
    have ra : Rv G t1 (.ref t.st.n) (.ref A) := ⟨by rw [at1], n1⟩
    have o5 : Out G t1 (lcEnd fz t.st.n t1.st) _ _ := o5
    cases fz with
    | false => exact Out.now p1 o5 _ ra
    | true =>
      obtain ⟨v', t', l', p', eh, r', k⟩ := fz_out p1 ra o5
      rw [← eh]
      exact k _ r'
theorem pe_lc_r {fz : Bool} {src : Src} {es : List E} {tg : Tg} {cond : List E} {elt : E} {etg iter eelt : Expr} {ifs : List Expr} {scope : Scope} {p : Pos}
    (O : Ok D G n cf X N L) (hi : PI X etg iter (tI G W src (evEs T cf es))) (hN : tg.slots.all (fun i => leN (i + 1) N.length) = true) (ok : BlkOk X.N X.env.scope scope (ownL N tg.slots))
    (hg : ∀ (s : Shared) (H : Hp) (C : Addr) (cl : List (Str × Addr)) (fp : List Addr), PG (X.blk s H scope (compEnvC scope cl C X.env) fp) etg (gT G tg))
    (ht : ∀ (s : Shared) (H : Hp) (C : Addr) (cl : List (Str × Addr)) (fp : List Addr), PTs (X.blk s H scope (compEnvC scope cl C X.env) fp) ifs (tT G noX (evAnd T cf cond)))
    (he : ∀ (s : Shared) (H : Hp) (C : Addr) (cl : List (Str × Addr)) (fp : List Addr), PE (X.blk s H scope (compEnvC scope cl C X.env) fp) eelt (tR G noX (evE T cf elt))) (hs : isSet iter = false) :
    PE X (.ListComp eelt [⟨etg, iter, ifs, 0⟩] scope p) (tR G W (evE T cf (.lc fz src es tg cond elt))) :=
  PE_imp (pe_lc O.calm O.nd hi ok hg ht he (folded_of hs)) fun σ H Q q => tLc_of hN q
/-- name = [..] where the list is stored straight -/
theorem ps_lc_r {fz : Bool} {src : Src} {es : List E} {tg : Tg} {cond : List E} {elt : E} {etg iter eelt : Expr} {ifs : List Expr} {scope : Scope} {p sp py : Pos} {i : Nat} {y : Str}
    (O : Ok D G n cf X N L) (hi : PI X etg iter (tI G W src (evEs T cf es))) (hN : tg.slots.all (fun i => leN (i + 1) N.length) = true) (ok : BlkOk X.N X.env.scope scope (ownL N tg.slots))
    (hg : ∀ (s : Shared) (H : Hp) (C : Addr) (cl : List (Str × Addr)) (fp : List Addr), PG (X.blk s H scope (compEnvC scope cl C X.env) fp) etg (gT G tg))
    (ht : ∀ (s : Shared) (H : Hp) (C : Addr) (cl : List (Str × Addr)) (fp : List Addr), PTs (X.blk s H scope (compEnvC scope cl C X.env) fp) ifs (tT G noX (evAnd T cf cond)))
    (he : ∀ (s : Shared) (H : Hp) (C : Addr) (cl : List (Str × Addr)) (fp : List Addr), PE (X.blk s H scope (compEnvC scope cl C X.env) fp) eelt (tR G noX (evE T cf elt))) (hs : isSet iter = false)
    (hy : N[i]? = some y) (hyl : X.env.scope.names.lookup y = some .local) (hsw : swapsWith (.ListComp eelt [⟨etg, iter, ifs, 0⟩] scope p) (some (.Name y py)) sp.line X.env = pure true) :
    PS X (.Assign [.Name y py] (.ListComp eelt [⟨etg, iter, ifs, 0⟩] scope p) sp) (tAsg (tR G W (evE T cf (.lc fz src es tg cond elt))) (gName i)) :=
  ⟨fun pins s σ H D I q => (ps_setLc O.calm O.nd (by rw [O.N_]; exact hy) hyl hsw hi ok hg ht he (folded_of hs)).run pins s σ H D I (tLc_of (Q := fun x H1 => gName i x σ H1 D.nx) hN q)⟩
end
end Ev

set_option Elab.async false
set_option linter.all false
set_option maxRecDepth 100000
/-! Ev.Snd9: the check of an expression, and what it is good for. -/
namespace Ev
open PySem PySem.Spec PyProof.Rows L2

/-! ### a block's context -/
def rel1 (sc : Scope) (p : Str × NameKind) : Str × NameKind := if (p.2 == NameKind.free && sc.kind == ScopeKind.function && sc.names.lookup p.1 == some NameKind.cell) = true then (p.1, NameKind.cell) else (p.1, p.2)
theorem relS_free {sc : Scope} : ∀ {names : List (Str × NameKind)} {x : Str}, names.lookup x = some .free → (names.map (rel1 sc)).lookup x = some .cell ∨ (names.map (rel1 sc)).lookup x = some .free
  | [], _, h => by cases h
  | (m, k₀) :: r, x, h => by
    have ih := @relS_free sc r x
    rw [List.map_cons]
    have e1 : rel1 sc (m, k₀) = if (k₀ == NameKind.free && sc.kind == ScopeKind.function && sc.names.lookup m == some NameKind.cell) = true then (m, NameKind.cell) else (m, k₀) := rfl
    rw [e1]
    by_cases hc : (k₀ == NameKind.free && sc.kind == ScopeKind.function && sc.names.lookup m == some NameKind.cell) = true
    · rw [if_pos hc]
      by_cases hx : x = m
      · left
        subst hx
        simp [List.lookup]
      · have e : (x == m) = false := beq_eq_false_iff_ne.mpr hx
        rw [List.lookup_cons, e] at h ⊢
        exact ih h
    · rw [if_neg hc]
      by_cases hx : x = m
      · right
        subst hx
        simp [List.lookup] at h ⊢
        exact h
      · have e : (x == m) = false := beq_eq_false_iff_ne.mpr hx
        rw [List.lookup_cons, e] at h ⊢
        exact ih h
section
variable {D : Data} {G : Gm} {n : Nat} {cf : CF} {X : Cx} {N : List Str} {L : NmL} {W : WX}
theorem Ok.blk (O : Ok D G n cf X N L) (s : Shared) (H : Hp) (scope : Scope) (hk : scope.kind = .function) (C : Addr) (cl : List (Str × Addr)) (fp : List Addr) : Ok D G n cf (X.blk s H scope (compEnvC scope cl C X.env) fp) N scope.names where
  K := O.K
  calm := O.calm
  room := O.room
  gd := O.gd
  n1 := O.n1
  kind := hk
  nd := O.nd
  N_ := O.N_
  vis := fun x h => by
    rcases vis_cases h with q | q | q
    · exact .inl (lookup_relS_keep (sc := X.env.scope) (by decide) q)
    · exact .inr (.inl (lookup_relS_keep (sc := X.env.scope) (by decide) q))
    · rcases relS_free (sc := X.env.scope) q with z | z
      · exact .inr (.inl z)
      · exact .inr (.inr z)
  cap := fun x h => by
    rcases cap_cases h with q | q
    · exact .inl (lookup_relS_keep (sc := X.env.scope) (by decide) q)
    · exact relS_free (sc := X.env.scope) q
  loc := fun x h => by
    rcases loc_cases h with q | q
    · exact ⟨.inl (lookup_relS_keep (sc := X.env.scope) (by decide) q), .inr (lookup_relS_keep (sc := X.env.scope) (by decide) q)⟩
    · exact ⟨.inr (lookup_relS_keep (sc := X.env.scope) (by decide) q), .inl (show (scope.names.lookup x == some .cell) = true by rw [q]; decide)⟩
  gl := fun x h => lookup_relS_keep (sc := X.env.scope) (by decide) (gl_cases h)
  okN := O.okN
  bl := O.bl
  fn := O.fn
  gf := O.gf
  me := O.me
  ini := O.ini
  fd := O.fd
  gc := O.gc
  xc := fun c f h => by
    obtain ⟨⟨k, fI, fd, p1, p2, S, hp⟩, h2, h3, h4⟩ := O.xc c f h
    exact ⟨⟨k, fI, fd, p1, p2, ⟨S.T, S.iC, S.tI, S.F, S.b1, S.b2⟩, hp⟩, h2, h3, h4⟩
  isT := O.isT
  kls := O.kls
theorem takes_blk (s : Shared) (H : Hp) (scope : Scope) (cenv : PySem.Env) (fp : List Addr) : Takes (X.blk s H scope cenv fp) noX := fun u s' ⟨_, _, _, _, _, _, _, _, _, _, _, _, _, _, _, _, w⟩ => w.elim
end

/-! ### the check -/
def opE : Op → Operator → Bool
  | .add, .Add => true
  | .sub, .Sub => true
  | .mul, .Mult => true
  | .fdiv, .FloorDiv => true
  | .mod, .Mod => true
  | .pow, .Pow => true
  | _, _ => false
theorem opE_ok {a : Op} {b : Operator} (h : opE a b = true) : b = opA a := by cases a <;> cases b <;> first | rfl | cases h
def cmE : Cm → CmpOp → Bool
  | .eq, .Eq => true
  | .ne, .NotEq => true
  | .lt, .Lt => true
  | .le, .LtE => true
  | .gt, .Gt => true
  | .ge, .GtE => true
  | .is, .Is => true
  | .isnot, .IsNot => true
  | .in, .In => true
  | .notin, .NotIn => true
  | _, _ => false
theorem cmE_ok {a : Cm} {b : CmpOp} (h : cmE a b = true) : b = cmA a := by cases a <;> cases b <;> first | rfl | cases h
def cE : Val → Const → Bool
  | .non, .none => true
  | .bl a, .bool b => (match a, b with
    | true, true => true
    | false, false => true
    | _, _ => false)
  | .int i, .int j => intEq i j
  | .str a, .str b => strEq a b
  | _, _ => false
theorem intEq_iff {i j : Int} (h : intEq i j = true) : i = j := by
  cases i <;> cases j <;> first | cases h | (rw [natEq_iff.mp h])
/-- plain truth: not another's own way of being tested -/
def plainT : Expr → Bool
  | .UnaryOp .Not _ _ => false
  | .BoolOp _ _ _ => false
  | .IfExp _ _ _ _ => false
  | .Compare _ _ _ _ => false
  | _ => true
theorem plainT_ok {e : Expr} {env : PySem.Env} (h : plainT e = true) : ∀ whole, isTrue e env whole = (do let v ← whole; standAt e.pos; holding [v] (truthy v)) := fun _ => by
  cases e with
  | UnaryOp op a p => cases op <;> first | rfl | cases h
  | BoolOp => cases h
  | IfExp => cases h
  | Compare => cases h
  | _ => rfl
def someF (o : Option Fn) : Bool := match o with
  | some _ => true
  | none => false
def isK (o : Option Nat) : Bool := match o with
  | some _ => true
  | none => false
def bmN : Bm → Str
  | .append => "append"
  | .extend => "extend"
  | .get => "get"
  | .index => "index"
  | .items => "items"
  | .join => "join"
  | .pop => "pop"
  | .update => "update"

/-- a comprehension: its parts -/
def lcParts (e : Expr) : Option (Expr × Expr × Expr × List Expr × Scope) := match aLC e with
  | some (elt, [⟨tg, iter, ifs, is⟩], sc) => (match intEq is 0 with
    | true => some (elt, tg, iter, ifs, sc)
    | false => none)
  | _ => none
theorem lcParts_eq {e elt tg iter : Expr} {ifs : List Expr} {sc : Scope} (h : lcParts e = some (elt, tg, iter, ifs, sc)) : ∃ p, e = .ListComp elt [⟨tg, iter, ifs, 0⟩] sc p := by
  unfold lcParts at h
  split at h
  · rename_i elt' tg' iter' ifs' is' sc' q
    obtain ⟨p, rfl⟩ := aLC_eq q
    cases q2 : intEq is' 0 with
    | false => rw [q2] at h; cases h
    | true =>
      rw [q2] at h
      cases h
      rw [intEq_iff q2]
      exact ⟨p, rfl⟩
  · cases h
/-- a loop's source: the tree of the arguments -/
def srcArgs (L : NmL) (src : Src) (iter : Expr) : Option (List Expr) := match src with
  | .it => some [iter]
  | .range => (match aCall iter with
    | some (f, as, []) => (match nameIs L f "range" && noStar as with
      | true => some as
      | false => none)
    | _ => none)
  | .enum => (match aCall iter with
    | some (f, as, []) => (match nameIs L f "enumerate" && noStar as with
      | true => some as
      | false => none)
    | _ => none)
  | .zip => (match aCall iter with
    | some (f, as, []) => (match nameIs L f "zip" && noStar as with
      | true => some as
      | false => none)
    | _ => none)
def srcLen (src : Src) (n : Nat) : Bool := match src with
  | .it => natEq n 1
  | .range => natEq n 1 || natEq n 2
  | .enum => natEq n 1
  | .zip => natEq n 2
/-- pairs want a tuple as target -/
def srcTg (src : Src) (tg : Expr) : Bool := match src with
  | .enum => (match aTup tg with
    | some _ => true
    | none => false)
  | .zip => (match aTup tg with
    | some _ => true
    | none => false)
  | _ => true
def nilL {α : Type} : List α → Bool
  | [] => true
  | _ => false

mutual
def chkE (D : Data) (N : List Str) : NmL → E → Expr → Bool
  | L, .v i, e => (match aName e with
    | some x => nameAt N i x && visB L x
    | none => false)
  | _, .c v, e => (match aConst e with
    | some k => cE v k
    | none => false)
  | _, .g _, _ => false
  | L, .gc k, e => nameIs L e (nt k) && D.isC k
  | L, .bin op a b, e => (match aBin e with
    | some (x, o, y) => opE op o && (chkE D N L a x && chkE D N L b y)
    | none => false)
  | L, .neg a, e => (match aUn e with
    | some (.USub, x) => chkE D N L a x
    | _ => false)
  | L, .cmp op a b, e => (match aCmp e with
    | some (x, [o], [y]) => cmE op o && (!isSet y && (chkE D N L a x && chkE D N L b y))
    | _ => false)
  | L, .chain a op b op' d, e => (match aCmp e with
    | some (x, [o, o'], [y, z]) => cmE op o && (cmE op' o' && (!isSet z && (chkE D N L a x && (chkE D N L b y && chkE D N L d z))))
    | _ => false)
  | L, .and es, e => (match aBool e with
    | some (.And, xs) => !nilL es && chkEs D N L es xs
    | _ => false)
  | L, .or es, e => (match aBool e with
    | some (.Or, xs) => !nilL es && chkEs D N L es xs
    | _ => false)
  | L, .not a, e => (match aUn e with
    | some (.Not, x) => chkE D N L a x
    | _ => false)
  | L, .ite c a b, e => (match aIf e with
    | some (x, y, z) => chkE D N L c x && (chkE D N L a y && chkE D N L b z)
    | none => false)
  | L, .tup es, e => (match aTup e with
    | some xs => leN xs.length SL && (noStar xs && chkEs D N L es xs)
    | none => false)
  | L, .lst _ es, e => (match aLst e with
    | some xs => leN xs.length SL && (noStar xs && chkEs D N L es xs)
    | none => false)
  | L, .ix a b, e => (match aSub e with
    | some (x, y) => plainB y && (chkE D N L a x && chkE D N L b y)
    | none => false)
  | L, .sl a lo hi, e => (match aSub e with
    | some (x, y) => (match aSlice y with
      | some (l, h, none) => chkE D N L a x && (chkO D N L lo l && chkO D N L hi h)
      | _ => false)
    | none => false)
  | L, .attr a m, e => (match aAttr e with
    | some (x, f) => strEq f (nt m) && (!calls0 x && chkE D N L a x)
    | none => false)
  | L, .call f es, e => (match aCall e with
    | some (g, xs, []) => nameIs L g (nt f) && (D.gf f && (someF (D.P.fn f) && (noStar xs && chkEs D N L es xs)))
    | _ => false)
  | L, .bi b es, e => (match aCall e with
    | some (g, xs, []) => nameIs L g (biN b) && (!nilL xs && (noStar xs && chkEs D N L es xs))
    | _ => false)
  | _, .bm _ _ _, _ => false
  | L, .meth a m es, e => oneLine e && (match aCall e with
    | some (g, xs, []) => (match aAttr g with
      | some (x, f) => strEq f (nt m) && (noStar xs && (chkE D N L a x && chkEs D N L es xs))
      | none => false)
    | _ => false)
  | L, .mk c es, e => (match aCall e with
    | some (g, xs, []) => nameIs L g (nt c) && (isK (D.P.T.ini c) && (!nilL xs && (noStar xs && chkEs D N L es xs)))
    | _ => false)
  | L, .mkx c kw a, e => (match aCall e with
    | some (g, [x], []) => !kw && (nameIs L g (nt c) && (isK (D.P.T.xi c) && (!isStar x && chkE D N L a x)))
    | some (g, [], [⟨some y, x, _⟩]) => kw && (nameIs L g (nt c) && (isK (D.P.T.xi c) && ((match D.P.T.xp c with
      | some z => strEq y (nt z)
      | none => false) && chkE D N L a x)))
    | _ => false)
  | L, .isin a t, e => (match aCall e with
    | some (g, [x, y], []) => nameIs L g "isinstance" && (clB D L t y && (!isStar x && chkE D N L a x))
    | _ => false)
  | L, .lc fz src es tg cond elt, e => (match lcParts e with
    | some (xelt, xtg, iter, ifs, sc) => !isSet iter && (blkB N L sc tg.slots && (tg.slots.all (fun i => leN (i + 1) N.length) && (tgB N sc.names tg xtg && (srcTg src xtg && (srcLen src es.length &&
        ((match srcArgs L src iter with
          | some as => chkEs D N L es as
          | none => false) && (chkIf D N sc.names cond ifs && chkE D N sc.names elt xelt)))))))
    | none => false)
  | L, .fz a, e => plainT e && chkE D N L a e
def chkEs (D : Data) (N : List Str) : NmL → List E → List Expr → Bool
  | _, [], [] => true
  | L, a :: es, x :: xs => chkE D N L a x && chkEs D N L es xs
  | _, _, _ => false
/-- a slice's part -/
def chkO (D : Data) (N : List Str) : NmL → List E → Option Expr → Bool
  | _, [], none => true
  | L, [a], some x => chkE D N L a x
  | _, _, _ => false
/-- a comprehension's tests: none, or one -/
def chkIf (D : Data) (N : List Str) : NmL → List E → List Expr → Bool
  | _, [], [] => true
  | L, [a], [x] => chkE D N L a x
  | _, _, _ => false
end
end Ev

set_option Elab.async false
set_option linter.all false
set_option maxRecDepth 100000
/-! Ev.Snd10: THE THEOREM for expressions: what is checked is read by the evaluator. -/
namespace Ev
open PySem PySem.Spec PyProof.Rows L2

inductive All2 {α β : Type} (R : α → β → Prop) : List α → List β → Prop where
  | nil : All2 R [] []
  | cons {a : α} {b : β} {as : List α} {bs : List β} : R a b → All2 R as bs → All2 R (a :: as) (b :: bs)
section
variable {D : Data} {G : Gm} {n : Nat} {cf : CF} {X : Cx} {N : List Str} {L : NmL} {W : WX} {T : Tab}
theorem All2.length {α β : Type} {R : α → β → Prop} : ∀ {as : List α} {bs : List β}, All2 R as bs → as.length = bs.length
  | _, _, .nil => rfl
  | _, _, .cons _ h => congrArg (· + 1) h.length
/-- both readings -/
def Both (G : Gm) (cf : CF) (T : Tab) (X : Cx) (W : WX) (e : E) (a : Expr) : Prop := PE X a (tR G W (evE T cf e)) ∧ PT X a (tT G W (evE T cf e))
theorem All2.pa : ∀ {es : List E} {as : List Expr}, All2 (Both G cf T X W) es as → noStar as = true → PA X as (tA G W (evEs T cf es))
  | _, _, .nil, _ => pa_nil_r T
  | _, _, .cons h t, hs => by
    obtain ⟨h1, h2⟩ := dec2 hs
    exact pa_cons_r h.1 (t.pa h2) (by simpa using h1)
theorem All2.pand (O : Ok D G n cf X N L) {p : Pos} : ∀ {es : List E} {as : List Expr}, All2 (Both G cf T X W) es as → nilL es = false → PE X (.BoolOp .And as p) (tR G W (evAnd T cf es)) ∧ PW X (.BoolOp .And as p) (tT G W (evAnd T cf es))
  | _, _, .nil, h => nomatch h
  | _, _, .cons h .nil, _ => ⟨pe_and1_r h.1, pw_and1_r h.2⟩
  | _, _, .cons h (.cons h2 t), _ => by
    obtain ⟨h3, h4⟩ := (All2.cons h2 t).pand O (p := p) rfl
    exact ⟨pe_and_r O h.1 h3, pw_and_r h.2 h4⟩
theorem All2.por (O : Ok D G n cf X N L) {p : Pos} : ∀ {es : List E} {as : List Expr}, All2 (Both G cf T X W) es as → nilL es = false → PE X (.BoolOp .Or as p) (tR G W (evOr T cf es)) ∧ PW X (.BoolOp .Or as p) (tT G W (evOr T cf es))
  | _, _, .nil, h => nomatch h
  | _, _, .cons h .nil, _ => ⟨pe_or1_r h.1, pw_or1_r h.2⟩
  | _, _, .cons h (.cons h2 t), _ => by
    obtain ⟨h3, h4⟩ := (All2.cons h2 t).por O (p := p) rfl
    exact ⟨pe_or_r O h.1 h3, pw_or_r h.2 h4⟩
theorem both_of {e : E} {a : Expr} (O : Ok D G n cf X N L) (h : PE X a (tR G W (evE T cf e))) (he : plainT a = true) : Both G cf T X W e a := ⟨h, pt_of O h (plainT_ok he)⟩
theorem nn_of {α : Type} {l : List α} (h : (!nilL l) = true) : l ≠ [] := fun e => by subst e; cases h
theorem pi_r {src : Src} {tg iter : Expr} {es : List E} {as : List Expr} (O : Ok D G n cf X N L) (ha : srcArgs L src iter = some as) (h : All2 (Both G cf T X W) es as) (hl : srcLen src es.length = true) (ht : srcTg src tg = true) : PI X tg iter (tI G W src (evEs T cf es)) := by
  have call : ∀ {nm : Str}, (match aCall iter with
      | some (f, as, []) => (match nameIs L f nm && noStar as with
        | true => some as
        | false => none)
      | _ => none) = some as → ∃ p p2, iter = .Call (.Name nm p) as [] p2 ∧ glB L nm = true ∧ noStar as = true := fun {nm} h => by
    split at h
    · rename_i f as' q
      obtain ⟨p2, rfl⟩ := aCall_eq q
      cases q2 : (nameIs L f nm && noStar as') with
      | false => rw [q2] at h; cases h
      | true =>
        rw [q2] at h
        cases h
        obtain ⟨h1, h2⟩ := dec2 q2
        obtain ⟨p, rfl, hg⟩ := nameIs_ok h1
        exact ⟨p, p2, rfl, hg, h2⟩
    · cases h
  have tup : (match aTup tg with | some _ => true | none => false) = true → ∃ es k p, tg = .Tuple es k p := fun h => by
    cases q : aTup tg with
    | none => rw [q] at h; cases h
    | some es =>
      obtain ⟨k, p, e⟩ := aTup_eq q
      exact ⟨es, k, p, e⟩
  cases src with
  | it =>
    cases ha
    cases h with
    | cons h t =>
      cases t
      exact pi_it_r O h.1
  | range =>
    obtain ⟨p, p2, rfl, hg, hs⟩ := call ha
    have pa := h.pa hs
    cases h with
    | nil => cases hl
    | cons h1 t =>
      obtain ⟨s1, hs2⟩ := dec2 hs
      cases t with
      | nil => exact pi_range1_r O hg pa (by simpa using s1)
      | cons h2 t2 =>
        obtain ⟨s2, _⟩ := dec2 hs2
        cases t2 with
        | nil => exact pi_range2_r O hg pa (by simpa using s1) (by simpa using s2)
        | cons _ _ => cases hl
  | enum =>
    obtain ⟨p, p2, rfl, hg, hs⟩ := call ha
    obtain ⟨elts, k, p3, rfl⟩ := tup ht
    have pa := h.pa hs
    cases h with
    | nil => cases hl
    | cons h1 t =>
      obtain ⟨s1, _⟩ := dec2 hs
      cases t with
      | nil => exact pi_enum_r O hg pa (by simpa using s1)
      | cons _ _ => cases hl
  | zip =>
    obtain ⟨p, p2, rfl, hg, hs⟩ := call ha
    obtain ⟨elts, k, p3, rfl⟩ := tup ht
    have pa := h.pa hs
    cases h with
    | nil => cases hl
    | cons h1 t =>
      obtain ⟨s1, hs2⟩ := dec2 hs
      cases t with
      | nil => cases hl
      | cons h2 t2 =>
        obtain ⟨s2, _⟩ := dec2 hs2
        cases t2 with
        | nil => exact pi_zip_r O hg pa (by simpa using s1) (by simpa using s2)
        | cons _ _ => cases hl
theorem PTs_imp {ifs : List Expr} {t t' : TT} (h : PTs X ifs t) (i : ∀ σ H Q, t' σ H Q → t σ H Q) : PTs X ifs t' := ⟨fun pins s σ H Q I q => h.run pins s σ H Q I (i σ H Q q)⟩
theorem pts_nil_r : PTs X [] (tT G W (evAnd T cf [])) := PTs_imp pts_nil fun σ H Q q => by
  obtain ⟨s, env, e, R, E, o⟩ := q
  subst e
  obtain ⟨b, h1, h2⟩ := o s (Le.refl s) R rfl
  cases h1
  exact h2
theorem pts_one_r {e : E} {a : Expr} (h : PT X a (tT G W (evE T cf e))) : PTs X [a] (tT G W (evAnd T cf [e])) := pts_one h
end

mutual
theorem sndE {D : Data} {G : Gm} {n : Nat} {cf : CF} {N : List Str} : ∀ (e : E) {X : Cx} {L : NmL} {W : WX} (O : Ok D G n cf X N L) (Tk : Takes X W) (a : Expr), chkE D N L e a = true → Both G cf D.P.T X W e a
  | .v i, X, L, W, O, Tk, a, h => by
    unfold chkE at h
    cases q : aName a with
    | none => rw [q] at h; cases h
    | some x =>
      rw [q] at h
      obtain ⟨p, rfl⟩ := aName_eq q
      obtain ⟨h1, h2⟩ := dec2 h
      exact both_of O (pe_v O (nameAt_iff h1) h2 _) rfl
  | .c v, X, L, W, O, Tk, a, h => by
    unfold chkE at h
    cases q : aConst a with
    | none => rw [q] at h; cases h
    | some k =>
      rw [q] at h
      obtain ⟨k1, p, rfl⟩ := aConst_eq q
      refine both_of O ?_ rfl
      cases v with
      | non => cases k <;> first | exact pe_c (x := .non) (v := .non) pe_non (fun _ => rfl) _ | cases h
      | bl b =>
        cases k with
        | bool b' =>
          have e : b = b' := by cases b <;> cases b' <;> first | rfl | cases h
          subst e
          exact pe_c (x := .bl b) (v := .bl b) pe_bl (fun _ => rfl) _
        | _ => cases h
      | int i =>
        cases k with
        | int j =>
          have e := intEq_iff (show intEq i j = true from h)
          subst e
          exact pe_c (x := .int i) (v := .int i) pe_int (fun _ => rfl) _
        | _ => cases h
      | str x =>
        cases k with
        | str y =>
          have e := strEq_iff.mp (show strEq x y = true from h)
          subst e
          exact pe_c (x := .str x) (v := .str x) pe_str (fun _ => rfl) _
        | _ => cases h
      | _ => cases k <;> cases h
  | .g k, X, L, W, O, Tk, a, h => by
    unfold chkE at h
    cases h
  | .gc k, X, L, W, O, Tk, a, h => by
    unfold chkE at h
    obtain ⟨h1, h2⟩ := dec2 h
    obtain ⟨p, rfl, hg⟩ := nameIs_ok h1
    exact both_of O (pe_gc O rfl hg h2) rfl
  | .bin op x y, X, L, W, O, Tk, a, h => by
    unfold chkE at h
    cases q : aBin a with
    | none => rw [q] at h; cases h
    | some r =>
      obtain ⟨a1, o, b1⟩ := r
      rw [q] at h
      obtain ⟨p, rfl⟩ := aBin_eq q
      obtain ⟨h1, h2⟩ := dec2 h
      obtain ⟨h2, h3⟩ := dec2 h2
      rw [opE_ok h1]
      exact both_of O (pe_bin_r O (sndE x O Tk a1 h2).1 (sndE y O Tk b1 h3).1) rfl
  | .neg x, X, L, W, O, Tk, a, h => by
    unfold chkE at h
    split at h
    · rename_i a1 q
      obtain ⟨p, rfl⟩ := aUn_eq q
      exact both_of O (pe_neg_r (sndE x O Tk a1 h).1) rfl
    · cases h
  | .cmp op x y, X, L, W, O, Tk, a, h => by
    unfold chkE at h
    split at h
    · rename_i a1 o b1 q
      obtain ⟨p, rfl⟩ := aCmp_eq q
      obtain ⟨h1, h2⟩ := dec2 h
      obtain ⟨h2, h3⟩ := dec2 h2
      obtain ⟨h3, h4⟩ := dec2 h3
      rw [cmE_ok h1]
      have hx := (sndE x O Tk a1 h3).1
      have hy := (sndE y O Tk b1 h4).1
      have hs : isSet b1 = false := by simpa using h2
      exact ⟨pe_cmp_r O hx hy hs, pt_cmp_r O hx hy hs⟩
    · cases h
  | .chain x op y op' z, X, L, W, O, Tk, a, h => by
    unfold chkE at h
    split at h
    · rename_i a1 o o' b1 c1 q
      obtain ⟨p, rfl⟩ := aCmp_eq q
      obtain ⟨h1, h2⟩ := dec2 h
      obtain ⟨h2, h3⟩ := dec2 h2
      obtain ⟨h3, h4⟩ := dec2 h3
      obtain ⟨h4, h5⟩ := dec2 h4
      obtain ⟨h5, h6⟩ := dec2 h5
      rw [cmE_ok h1, cmE_ok h2]
      have hx := (sndE x O Tk a1 h4).1
      have hy := (sndE y O Tk b1 h5).1
      have hz := (sndE z O Tk c1 h6).1
      have hs : isSet c1 = false := by simpa using h3
      exact ⟨pe_chain_r O hx hy hz hs, pt_chain_r O hx hy hz hs⟩
    · cases h
  | .and es, X, L, W, O, Tk, a, h => by
    unfold chkE at h
    split at h
    · rename_i xs q
      obtain ⟨p, rfl⟩ := aBool_eq q
      obtain ⟨h1, h2⟩ := dec2 h
      obtain ⟨h3, h4⟩ := (sndEs es O Tk xs h2).pand O (p := p) (by simpa using h1)
      exact ⟨h3, h4.pt⟩
    · cases h
  | .or es, X, L, W, O, Tk, a, h => by
    unfold chkE at h
    split at h
    · rename_i xs q
      obtain ⟨p, rfl⟩ := aBool_eq q
      obtain ⟨h1, h2⟩ := dec2 h
      obtain ⟨h3, h4⟩ := (sndEs es O Tk xs h2).por O (p := p) (by simpa using h1)
      exact ⟨h3, h4.pt⟩
    · cases h
  | .not x, X, L, W, O, Tk, a, h => by
    unfold chkE at h
    split at h
    · rename_i a1 q
      obtain ⟨p, rfl⟩ := aUn_eq q
      have hx := sndE x O Tk a1 h
      exact ⟨pe_not_r O hx.1, pt_not_r hx.2⟩
    · cases h
  | .ite c x y, X, L, W, O, Tk, a, h => by
    unfold chkE at h
    cases q : aIf a with
    | none => rw [q] at h; cases h
    | some r =>
      obtain ⟨c1, a1, b1⟩ := r
      rw [q] at h
      obtain ⟨p, rfl⟩ := aIf_eq q
      obtain ⟨h1, h2⟩ := dec2 h
      obtain ⟨h2, h3⟩ := dec2 h2
      have hc := sndE c O Tk c1 h1
      have hx := sndE x O Tk a1 h2
      have hy := sndE y O Tk b1 h3
      exact ⟨pe_ite_r hc.2 hx.1 hy.1, pt_ite_r hc.2 hx.2 hy.2⟩
  | .tup es, X, L, W, O, Tk, a, h => by
    unfold chkE at h
    cases q : aTup a with
    | none => rw [q] at h; cases h
    | some xs =>
      rw [q] at h
      obtain ⟨k, p, rfl⟩ := aTup_eq q
      obtain ⟨h1, h2⟩ := dec2 h
      obtain ⟨h2, h3⟩ := dec2 h2
      have hs := sndEs es O Tk xs h3
      exact both_of O (pe_tup_r (hs.pa h2) h1 (fun _ _ _ _ => evEs_len) hs.length) rfl
  | .lst fz es, X, L, W, O, Tk, a, h => by
    unfold chkE at h
    cases q : aLst a with
    | none => rw [q] at h; cases h
    | some xs =>
      rw [q] at h
      obtain ⟨p, rfl⟩ := aLst_eq q
      obtain ⟨h1, h2⟩ := dec2 h
      obtain ⟨h2, h3⟩ := dec2 h2
      have hs := sndEs es O Tk xs h3
      exact both_of O (pe_lst_r (hs.pa h2) h1 (fun _ _ _ _ => evEs_len) hs.length) rfl
  | .ix x y, X, L, W, O, Tk, a, h => by
    unfold chkE at h
    cases q : aSub a with
    | none => rw [q] at h; cases h
    | some r =>
      obtain ⟨a1, b1⟩ := r
      rw [q] at h
      obtain ⟨p, rfl⟩ := aSub_eq q
      obtain ⟨h1, h2⟩ := dec2 h
      obtain ⟨h2, h3⟩ := dec2 h2
      exact both_of O (pe_ix_r O (sndE x O Tk a1 h2).1 (sndE y O Tk b1 h3).1 h1) rfl
  | .sl x lo hi, X, L, W, O, Tk, a, h => by
    unfold chkE at h
    cases q : aSub a with
    | none => rw [q] at h; cases h
    | some r =>
      obtain ⟨a1, b1⟩ := r
      rw [q] at h
      obtain ⟨p, rfl⟩ := aSub_eq q
      have h : (match aSlice b1 with
        | some (l, h, none) => chkE D N L x a1 && (chkO D N L lo l && chkO D N L hi h)
        | _ => false) = true := h
      split at h
      · rename_i l hh q2
        obtain ⟨p2, rfl⟩ := aSlice_eq q2
        obtain ⟨h1, h2⟩ := dec2 h
        obtain ⟨h2, h3⟩ := dec2 h2
        exact both_of O (pe_sl_r O (sndE x O Tk a1 h1).1 (sndO lo O Tk l h2) (sndO hi O Tk hh h3)) rfl
      · cases h
  | .attr x m, X, L, W, O, Tk, a, h => by
    unfold chkE at h
    cases q : aAttr a with
    | none => rw [q] at h; cases h
    | some r =>
      obtain ⟨a1, f⟩ := r
      rw [q] at h
      obtain ⟨p, rfl⟩ := aAttr_eq q
      obtain ⟨h1, h2⟩ := dec2 h
      obtain ⟨h2, h3⟩ := dec2 h2
      rw [strEq_iff.mp h1]
      exact both_of O (pe_attr_r O (sndE x O Tk a1 h3).1 (by simpa using h2)) rfl
  | .call f es, X, L, W, O, Tk, a, h => by
    unfold chkE at h
    split at h
    · rename_i g xs q
      obtain ⟨p2, rfl⟩ := aCall_eq q
      obtain ⟨h1, h2⟩ := dec2 h
      obtain ⟨h2, h3⟩ := dec2 h2
      obtain ⟨h3, h4⟩ := dec2 h3
      obtain ⟨h4, h5⟩ := dec2 h4
      obtain ⟨p, rfl, hg⟩ := nameIs_ok h1
      cases q2 : D.P.fn f with
      | none => rw [q2] at h3; cases h3
      | some F =>
        have hs := sndEs es O Tk xs h5
        exact both_of O (pe_call_r O Tk rfl hg h2 q2 (hs.pa h4) h4 hs.length) rfl
    · cases h
  | .bi b es, X, L, W, O, Tk, a, h => by
    unfold chkE at h
    split at h
    · rename_i g xs q
      obtain ⟨p2, rfl⟩ := aCall_eq q
      obtain ⟨h1, h2⟩ := dec2 h
      obtain ⟨h2, h3⟩ := dec2 h2
      obtain ⟨h3, h4⟩ := dec2 h3
      obtain ⟨p, rfl, hg⟩ := nameIs_ok h1
      exact both_of O (pe_bi_r O rfl hg ((sndEs es O Tk xs h4).pa h3) h3 (nn_of h2)) rfl
    · cases h
  | .bm o b es, X, L, W, O, Tk, a, h => by
    unfold chkE at h
    cases h
  | .meth o m es, X, L, W, O, Tk, a, h => by
    unfold chkE at h
    obtain ⟨h0, h'⟩ := dec2 h
    clear h
    split at h'
    · rename_i g xs q
      obtain ⟨p2, rfl⟩ := aCall_eq q
      cases q2 : aAttr g with
      | none => rw [q2] at h'; cases h'
      | some r =>
        obtain ⟨a1, f⟩ := r
        rw [q2] at h'
        obtain ⟨p, rfl⟩ := aAttr_eq q2
        obtain ⟨h1, h2⟩ := dec2 h'
        obtain ⟨h2, h3⟩ := dec2 h2
        obtain ⟨h3, h4⟩ := dec2 h3
        have e := strEq_iff.mp h1
        subst e
        have hs := sndEs es O Tk xs h4
        exact both_of O (pe_meth_r O Tk (sndE o O Tk a1 h3).1 (hs.pa h2) h2 hs.length h0) rfl
    · cases h'
  | .mk c es, X, L, W, O, Tk, a, h => by
    unfold chkE at h
    split at h
    · rename_i g xs q
      obtain ⟨p2, rfl⟩ := aCall_eq q
      obtain ⟨h1, h2⟩ := dec2 h
      obtain ⟨h2, h3⟩ := dec2 h2
      obtain ⟨h3, h4⟩ := dec2 h3
      obtain ⟨h4, h5⟩ := dec2 h4
      obtain ⟨p, rfl, hg⟩ := nameIs_ok h1
      cases q2 : D.P.T.ini c with
      | none => rw [q2] at h2; cases h2
      | some f =>
        obtain ⟨_, _, _, F, hF⟩ := O.ini c f q2
        have hs := sndEs es O Tk xs h5
        exact both_of O (pe_mk_r (F := F) O Tk rfl hg q2 (hs.pa h4) h4 hs.length (nn_of h3)) rfl
    · cases h
  | .mkx c kw e, X, L, W, O, Tk, a, h => by
    unfold chkE at h
    split at h
    · rename_i g x q
      obtain ⟨p2, rfl⟩ := aCall_eq q
      obtain ⟨h1, h2⟩ := dec2 h
      obtain ⟨h2, h3⟩ := dec2 h2
      obtain ⟨h3, h4⟩ := dec2 h3
      obtain ⟨h4, h5⟩ := dec2 h4
      obtain ⟨p, rfl, hg⟩ := nameIs_ok h2
      cases q2 : D.P.T.xi c with
      | none => rw [q2] at h3; cases h3
      | some f => exact both_of O (pe_mkx_r O Tk rfl hg q2 (sndE e O Tk x h5).1 (not_of' h4)) rfl
    · rename_i g y x kp q
      obtain ⟨p2, rfl⟩ := aCall_eq q
      obtain ⟨h1, h2⟩ := dec2 h
      obtain ⟨h2, h3⟩ := dec2 h2
      obtain ⟨h3, h4⟩ := dec2 h3
      obtain ⟨h4, h5⟩ := dec2 h4
      obtain ⟨p, rfl, hg⟩ := nameIs_ok h2
      cases q2 : D.P.T.xi c with
      | none => rw [q2] at h3; cases h3
      | some f =>
        cases q3 : D.P.T.xp c with
        | none => rw [q3] at h4; cases h4
        | some z =>
          rw [q3] at h4
          have ey := strEq_iff.mp h4
          subst ey
          exact both_of O (pe_mkxK_r O Tk rfl hg q2 q3 (sndE e O Tk x h5).1) rfl
    · cases h
  | .isin e t, X, L, W, O, Tk, a, h => by
    unfold chkE at h
    split at h
    · rename_i g x y q
      obtain ⟨p2, rfl⟩ := aCall_eq q
      obtain ⟨h1, h2⟩ := dec2 h
      obtain ⟨h2, h3⟩ := dec2 h2
      obtain ⟨h3, h4⟩ := dec2 h3
      obtain ⟨p, rfl, hg⟩ := nameIs_ok h1
      exact both_of O (pe_isin_r O rfl hg (sndE e O Tk x h4).1 (not_of' h3) h2) rfl
    · cases h
  | .lc fz src es tg cond elt, X, L, W, O, Tk, a, h => by
    unfold chkE at h
    split at h
    · rename_i xelt xtg iter ifs sc q
      obtain ⟨p, rfl⟩ := lcParts_eq q
      obtain ⟨h1, h⟩ := dec2 h
      obtain ⟨h2, h⟩ := dec2 h
      obtain ⟨h3, h⟩ := dec2 h
      obtain ⟨h4, h⟩ := dec2 h
      obtain ⟨h5, h⟩ := dec2 h
      obtain ⟨h6, h⟩ := dec2 h
      obtain ⟨h7, h⟩ := dec2 h
      obtain ⟨h8, h9⟩ := dec2 h
      cases qa : srcArgs L src iter with
      | none => rw [qa] at h7; cases h7
      | some as =>
        rw [qa] at h7
        have hp := pi_r O qa (sndEs es O Tk as h7) h6 h5
        have bo := blkB_ok (N := N) (sc := X.env.scope) O.cap h2
        refine both_of O (pe_lc_r O hp h3 (by rw [O.N_]; exact bo) (fun s H C cl fp => pg_r (O.blk s H sc bo.kind C cl fp) h4) (fun s H C cl fp => ?_) (fun s H C cl fp => (sndE elt (O.blk s H sc bo.kind C cl fp) (takes_blk s H sc _ fp) xelt h9).1) (by simpa using h1)) rfl
        exact sndIf cond (O.blk s H sc bo.kind C cl fp) (takes_blk s H sc _ fp) ifs h8
    · cases h
  | .fz x, X, L, W, O, Tk, a, h => by
    unfold chkE at h
    obtain ⟨h1, h2⟩ := dec2 h
    exact both_of O (pe_fz_r (sndE x O Tk a h2).1) h1
theorem sndEs {D : Data} {G : Gm} {n : Nat} {cf : CF} {N : List Str} : ∀ (es : List E) {X : Cx} {L : NmL} {W : WX} (O : Ok D G n cf X N L) (Tk : Takes X W) (as : List Expr), chkEs D N L es as = true → All2 (Both G cf D.P.T X W) es as
  | [], X, L, W, O, Tk, as, h => by
    cases as with
    | nil => exact .nil
    | cons _ _ => unfold chkEs at h; cases h
  | e :: es, X, L, W, O, Tk, as, h => by
    cases as with
    | nil => unfold chkEs at h; cases h
    | cons a as =>
      unfold chkEs at h
      obtain ⟨h1, h2⟩ := dec2 h
      exact .cons (sndE e O Tk a h1) (sndEs es O Tk as h2)
theorem sndO {D : Data} {G : Gm} {n : Nat} {cf : CF} {N : List Str} : ∀ (es : List E) {X : Cx} {L : NmL} {W : WX} (O : Ok D G n cf X N L) (Tk : Takes X W) (o : Option Expr), chkO D N L es o = true → PO X o (tO G W (evEs D.P.T cf es))
  | [], X, L, W, O, Tk, o, h => by
    cases o with
    | none => exact po_nil_r _
    | some _ => unfold chkO at h; cases h
  | [e], X, L, W, O, Tk, o, h => by
    cases o with
    | none => unfold chkO at h; cases h
    | some a =>
      unfold chkO at h
      exact po_one_r (sndE e O Tk a h).1
  | e :: f :: es, X, L, W, O, Tk, o, h => by
    unfold chkO at h
    cases o <;> cases h
theorem sndIf {D : Data} {G : Gm} {n : Nat} {cf : CF} {N : List Str} : ∀ (es : List E) {X : Cx} {L : NmL} {W : WX} (O : Ok D G n cf X N L) (Tk : Takes X W) (as : List Expr), chkIf D N L es as = true → PTs X as (tT G W (evAnd D.P.T cf es))
  | [], X, L, W, O, Tk, as, h => by
    cases as with
    | nil => exact pts_nil_r
    | cons _ _ => unfold chkIf at h; cases h
  | [e], X, L, W, O, Tk, as, h => by
    match as, h with
    | [], h => unfold chkIf at h; cases h
    | [a], h =>
      unfold chkIf at h
      exact pts_one_r (sndE e O Tk a h).2
    | _ :: _ :: _, h => unfold chkIf at h; cases h
  | e :: f :: es, X, L, W, O, Tk, as, h => by
    unfold chkIf at h
    cases as <;> cases h
end
end Ev

set_option Elab.async false
set_option linter.all false
set_option maxRecDepth 100000
/-! Ev.Snd11: statements, one construct each. -/
namespace Ev
open PySem PySem.Spec PyProof.Rows L2

/-- what is wanted behind a statement; nb: nothing is bound in it -/
def flo (G : Gm) (nb : Bool) (Dn : Ends) (σ : L2.St) : Fl → Sit → Prop
  | .nx e, t => ∀ σ', EnvR G t e σ' → (nb = true → σ' = σ) → Dn.nx σ' t.H
  | .ret v, t => ∀ u, Rv G t v u → Dn.rt u t.H
  | .brk e, t => ∀ σ', EnvR G t e σ' → (nb = true → σ' = σ) → Dn.bk σ' t.H
  | .cnt e, t => ∀ σ', EnvR G t e σ' → (nb = true → σ' = σ) → Dn.ct σ' t.H
def eX (G : Gm) (nb : Bool) (W : WX) (σ : L2.St) : Nat → Val → Sit → Prop := fun c v t => ∀ cls d σ', XR G t c v cls d → (nb = true → σ' = σ) → W cls d σ' t.H
/-- the reading of a statement's evaluation -/
def tS (G : Gm) (nb : Bool) (W : WX) (f : Env → St → R Fl) : TS := fun Dn σ H => ∃ s env, s.H = H ∧ Rep G s ∧ EnvR G s env σ ∧ Out G s (f env s.st) (flo G nb Dn σ) (eX G nb W σ)

section
variable {D : Data} {G : Gm} {n : Nat} {cf : CF} {X : Cx} {N : List Str} {L : NmL} {W : WX} {T : Tab} {nb : Bool} {w : Nat}
theorem eX_at {c : Nat} {v : Val} {t : Sit} {σ : L2.St} (h : eX G nb W σ c v t) : ∀ cls d, XR G t c v cls d → W cls d σ t.H := fun cls d x => h cls d σ x fun _ => rfl
theorem eX_mono {c : Nat} {v : Val} {t : Sit} {σ σ1 : L2.St} (hs : nb = true → σ1 = σ) (h : eX G nb W σ c v t) : eX G nb W σ1 c v t := fun cls d σ' x k => h cls d σ' x fun e => (k e).trans (hs e)
theorem flo_mono {Dn : Ends} {σ σ1 : L2.St} (hs : nb = true → σ1 = σ) {f : Fl} {t : Sit} (h : flo G nb Dn σ f t) : flo G nb Dn σ1 f t := by
  cases f with
  | nx e => exact fun σ' E k => h σ' E fun z => (k z).trans (hs z)
  | ret v => exact h
  | brk e => exact fun σ' E k => h σ' E fun z => (k z).trans (hs z)
  | cnt e => exact fun σ' E k => h σ' E fun z => (k z).trans (hs z)
theorem f_out {α : Type} {x : Option α} {f : α → R Fl} {t : Sit} {ok : Fl → Sit → Prop} {ex : Nat → Val → Sit → Prop} (o : Out G t (onF x f) ok ex) : ∃ i, x = some i ∧ Out G t (f i) ok ex := by
  unfold onF at o
  split at o
  · exact ⟨_, rfl, o⟩
  · exact o.elim
/-- an expression first -/
theorem tS_expr {Dn : Ends} {σ : L2.St} {H : Hp} {e : E} {k : Val → Env → St → R Fl} {Q : VK} (h : tS G nb W (fun env s => (evE T cf e env s).andThen fun x s1 => k x env s1) Dn σ H)
    (next : ∀ x v t env, Rep G t → EnvR G t env σ → Rv G t x v → Out G t (k x env t.st) (flo G nb Dn σ) (eX G nb W σ) → Q v t.H) : tR G W (evE T cf e) σ H Q := by
  obtain ⟨s, env, e, R, E, o⟩ := h
  exact ⟨s, env, e, R, E, o.bind.mono (fun x t l p o2 v rv => next x v t env p (E.le R l) rv o2) fun _ _ _ _ _ x => eX_at x⟩

/-! ### sides -/
def isTup : Expr → Bool
  | .Tuple _ _ _ => true
  | _ => false
def isSeq : Expr → Bool
  | .Tuple _ _ _ => true
  | .List _ _ => true
  | _ => false
theorem sws_nv {e tg : Expr} {env : PySem.Env} (h : isTup e = false) : swappedStores [tg] e env = pure none := by
  cases e <;> first | (cases tg <;> rfl) | cases h
theorem sws_nt {e tg : Expr} {env : PySem.Env} (h : isSeq tg = false) : swappedStores [tg] e env = pure none := by
  cases tg <;> first | rfl | cases h

/-! ### expressions, names -/
theorem Out.now1 {α : Type} {s : Sit} {v : α} {ok : α → Sit → Prop} {ex : Nat → Val → Sit → Prop} (R : Rep G s) (h : Out G s (.ok v s.st) ok ex) : ok v s := h s (Le.refl s) R rfl
theorem ps_ex_r {e : E} {x : Expr} {p : Pos} (he : PE X x (tR G W (evE T cf e))) (h : isComp x = false) : PS X (.Expr x p) (tS G nb W (evS T cf w (.ex e))) :=
  PS_imp (ps_expr he (sw_nc h)) fun Dn σ H q => tS_expr q fun v u t env R E r o => Out.now1 (v := Fl.nx env) R o σ E fun _ => rfl
theorem nbF {nb : Bool} (h : nb = false) {P : Prop} : nb = true → P := fun e => by rw [h] at e; cases e
/-- target = e, the target a name or names -/
theorem ps_asg_r {tg : Tg} {e : E} {xt x : Expr} {p : Pos} (he : PE X x (tR G W (evE T cf e))) (hg : PG X xt (gT G tg)) (hs : isComp x = false ∨ isName xt = false) (hw : isTup x = false ∨ isSeq xt = false) (h1 : isStar xt = false) (hnb : nb = false) :
    PS X (.Assign [xt] x p) (tS G nb W (evS T cf w (.asg tg e))) := by
  have a1 : swapsWithSole [xt] x p.line X.env = pure false := by
    rcases hs with h | h
    · exact sole_nc h
    · exact sole_nn h
  have a2 : swappedStores [xt] x X.env = pure none := by
    rcases hw with h | h
    · exact sws_nv h
    · exact sws_nt h
  have a3 : (assignEach [xt] X.env).map (·.2) = [assign xt X.env] := by cases xt <;> first | rfl | cases h1
  refine PS_imp (ps_asg he hg a1 a2 a3) fun Dn σ H q => tS_expr q fun v u t env R E r o => ?_
  obtain ⟨env1, h, o⟩ := f_out o
  exact ⟨t, v, env, env1, rfl, R, E, r, h, fun σ' E' _ => Out.now1 (v := Fl.nx env1) R o σ' E' (nbF hnb)⟩
/-- .. a comprehension whose list is stored straight -/
theorem ps_asgLc_r {i : Nat} {e : E} {s : Stmt} (h : PS X s (tAsg (tR G W (evE T cf e)) (gName i))) (hnb : nb = false) : PS X s (tS G nb W (evS T cf w (.asg (.v i) e))) :=
  PS_imp h fun Dn σ H q => tS_expr q fun v u t env R E r o => by
    obtain ⟨env1, h, o⟩ := f_out o
    cases h
    exact Out.now1 (v := Fl.nx _) R o _ (E.set i r) (nbF hnb)
/-- a, b = x, y, of local names -/
def parB (N : List Str) (L : NmL) (i j : Nat) (xt x : Expr) : Bool := match aTup xt, aTup x with
  | some [.Name y p, .Name z p2], some [a, b] => nameAt N i y && (nameAt N j z && (lclB L y && (lclB L z && (natEq p.line p2.line && (!natEq i j && (!strEq y z && (!isStar a && (!isStar b && (!(foldedForSure 8 a && foldedForSure 8 b) && !(constantsAlone 8 a && constantsAlone 8 b))))))))))
  | _, _ => false
theorem par_ok {i j : Nat} {xt x : Expr} (h : parB N L i j xt x = true) : ∃ y p z p2 k pt a b k2 pt2, xt = .Tuple [.Name y p, .Name z p2] k pt ∧ x = .Tuple [a, b] k2 pt2 ∧ N[i]? = some y ∧ N[j]? = some z ∧ lclB L y = true ∧ lclB L z = true ∧ p.line = p2.line ∧ i ≠ j ∧ y ≠ z ∧
    isStar a = false ∧ isStar b = false ∧ (foldedForSure 8 a && foldedForSure 8 b) = false ∧ (constantsAlone 8 a && constantsAlone 8 b) = false := by
  unfold parB at h
  split at h
  · rename_i y p z p2 a b q1 q2
    obtain ⟨k, pt, rfl⟩ := aTup_eq q1
    obtain ⟨k2, pt2, rfl⟩ := aTup_eq q2
    obtain ⟨h1, h⟩ := dec2 h
    obtain ⟨h2, h⟩ := dec2 h
    obtain ⟨h3, h⟩ := dec2 h
    obtain ⟨h4, h⟩ := dec2 h
    obtain ⟨h5, h⟩ := dec2 h
    obtain ⟨h6, h⟩ := dec2 h
    obtain ⟨h7, h⟩ := dec2 h
    obtain ⟨h8, h⟩ := dec2 h
    obtain ⟨h9, h⟩ := dec2 h
    obtain ⟨h10, h11⟩ := dec2 h
    exact ⟨y, p, z, p2, k, pt, a, b, k2, pt2, rfl, rfl, nameAt_iff h1, nameAt_iff h2, h3, h4, natEq_iff.mp h5, natEq_false (not_of' h6), strEq_false (not_of' h7), not_of' h8, not_of' h9, not_of' h10, not_of' h11⟩
  · cases h
theorem sws_par {y z : Str} {p p2 pt pt2 : Pos} {k k2 : Nat} {a b : Expr} {env : PySem.Env} (hk : env.scope.kind = .function) (hy : env.kindOf y = some .local) (hz : env.kindOf z = some .local) (hl : p.line = p2.line) (hyz : y ≠ z) (ha : isStar a = false) (hb : isStar b = false)
    (h1 : (foldedForSure 8 a && foldedForSure 8 b) = false) (h2 : (constantsAlone 8 a && constantsAlone 8 b) = false) : swappedStores [.Tuple [.Name y p, .Name z p2] k pt] (.Tuple [a, b] k2 pt2) env = pure (some [y, z]) := by
  have hb' : env.blockKind = .function := by unfold Env.blockKind; rw [hk]; rfl
  have key : ∀ {e : Expr}, isStar e = false → (match e with | .Starred _ _ => true | _ => false) = false := fun {e} h => by
    cases e <;> first | rfl | (cases h; done)
  have sa := key ha
  have sb := key hb
  have fd : [a, b].all (foldedForSure 8) = false := by
    show (foldedForSure 8 a && (foldedForSure 8 b && true)) = false
    rw [Bool.and_true]
    exact h1
  have ca : [a, b].all (constantsAlone 8) = false := by
    show (constantsAlone 8 a && (constantsAlone 8 b && true)) = false
    rw [Bool.and_true]
    exact h2
  have nn : ((y == z) : Bool) = false := beq_eq_false_iff_ne.mpr hyz
  have nn' : ((z == y) : Bool) = false := beq_eq_false_iff_ne.mpr (Ne.symm hyz)
  unfold swappedStores
  simp only [hb', fd, ca]
  simp [hy, hz, hl, Expr.pos, List.eraseDups_cons, nn, nn', hyz, Ne.symm hyz]
  intro h
  rcases h with h | h
  · exact absurd (sa.symm.trans h) (by decide)
  · exact absurd (sb.symm.trans h) (by decide)
end
end Ev

set_option Elab.async false
set_option linter.all false
set_option maxRecDepth 100000
/-! Ev.Snd12: stores, loops, returns. -/
namespace Ev
open PySem PySem.Spec PyProof.Rows L2
section
variable {D : Data} {G : Gm} {n : Nat} {cf : CF} {X : Cx} {N : List Str} {L : NmL} {W : WX} {T : Tab} {nb : Bool} {w : Nat}

theorem ps_par_r {i j : Nat} {a b : E} {xt x : Expr} {p : Pos} (O : Ok D G n cf X N L) (hL : X.env.scope.names = L) (h : parB N L i j xt x = true) (ha : ∀ as, aTup x = some as → PA X as (tA G W (evEs T cf [a, b]))) (hnb : nb = false) :
    PS X (.Assign [xt] x p) (tS G nb W (evS T cf w (.par i j a b))) := by
  obtain ⟨y, p1, z, p2, k, pt, e1, e2, k2, pt2, rfl, rfl, hi, hj, ly, lz, hl, hij, hyz, s1, s2, h1, h2⟩ := par_ok h
  have ky : X.env.scope.names.lookup y = some .local := by rw [hL]; exact lcl_cases ly
  have kz : X.env.scope.names.lookup z = some .local := by rw [hL]; exact lcl_cases lz
  refine PS_imp (ps_par O.calm O.nd (by rw [O.N_]; exact hi) (by rw [O.N_]; exact hj) hij ky kz (ha _ rfl) (sws_par O.kind ky kz hl hyz s1 s2 h1 h2) (sole_nc rfl)) fun Dn σ H q => ?_
  obtain ⟨s, env, e, R, E, o⟩ := q
  have o : Out G s ((evE T cf a env s.st).andThen fun x s1 => (evE T cf b env s1).andThen fun y s2 => .ok (Fl.nx ((env.set i (some x)).set j (some y))) s2) _ _ := o
  refine ⟨s, env, e, R, E, ?_⟩
  show Out G s ((evE T cf a env s.st).andThen fun x s1 => ((evE T cf b env s1).andThen fun x s1 => .ok [x] s1).andThen fun xs s2 => .ok (x :: xs) s2) _ _
  -- the two parts, as a list
  have key : ∀ {r : Ev.R Val} {g : Val → St → Ev.R Val} {okF : Fl → Sit → Prop} {okL : List Val → Sit → Prop} {ex ex' : Nat → Val → Sit → Prop} {s : Sit}, (∀ c v t, ex c v t → ex' c v t) → (∀ x y t, okF (Fl.nx ((env.set i (some x)).set j (some y))) t → okL [x, y] t) →
      Out G s (r.andThen fun x s1 => (g x s1).andThen fun y s2 => .ok (Fl.nx ((env.set i (some x)).set j (some y))) s2) okF ex → Out G s (r.andThen fun x s1 => ((g x s1).andThen fun x s1 => .ok [x] s1).andThen fun xs s2 => .ok (x :: xs) s2) okL ex' := fun {r g okF okL ex ex' s} he hk o => by
    cases r with
    | bad => exact o
    | exc c v st => exact fun t l p e => he _ _ _ (o t l p e)
    | ok x st =>
      have o : Out G s ((g x st).andThen fun y s2 => .ok (Fl.nx ((env.set i (some x)).set j (some y))) s2) okF ex := o
      show Out G s (((g x st).andThen fun x s1 => .ok [x] s1).andThen fun xs s2 => .ok (x :: xs) s2) okL ex'
      cases q : g x st with
      | bad => rw [q] at o; exact o
      | exc c v st => rw [q] at o; exact fun t l p e => he _ _ _ (o t l p e)
      | ok y st2 =>
        rw [q] at o
        exact fun t l p e => hk _ _ _ (o t l p e)
  refine (key (g := fun _ s1 => evE T cf b env s1) (okL := fun vs t => flo G nb Dn σ (Fl.nx ((env.set i (some vs[0]!)).set j (some vs[1]!))) t ∧ vs.length = 2) (ex' := fun c v t => ∀ cls d, XR G t c v cls d → W cls d σ t.H) (fun c v t h => eX_at h) (fun x y t h => ⟨h, rfl⟩) o).mono (fun vs t l p ⟨o, hl⟩ us rus => ?_) fun _ _ _ _ _ x => x
  obtain ⟨v1, v2, rfl⟩ := len2 hl
  obtain ⟨u1, u2, rfl, r1, r2⟩ := rvs2 rus
  exact ⟨u1, u2, rfl, o _ (((E.le R l).set i r1).set j r2) (nbF hnb)⟩

/-! ### stores -/
theorem ps_seta_r {o e : E} {m : Nat} {xo x : Expr} {p p' : Pos} (O : Ok D G n cf X N L) (ho : PE X xo (tR G W (evE D.P.T cf o))) (he : PE X x (tR G W (evE D.P.T cf e))) :
    PS X (.Assign [.Attribute xo (nt m) p'] x p) (tS G nb W (evS D.P.T cf w (.seta o m e))) :=
  PS_imp (ps_fld ho he (sw_nn rfl)) fun Dn σ H q => tS_expr q fun v u t env R E r o2 => by
    have o2 : Out G t ((evE D.P.T cf o env t.st).andThen fun p s2 => (setA D.P.T s2 p m v).andThen fun _ s3 => .ok (Fl.nx env) s3) _ _ := o2
    refine ⟨t, env, rfl, R, E, o2.bind.mono (fun pv t2 l2 p2 o3 u2 r2 => ?_) fun _ _ _ _ _ x => eX_at x⟩
    have o3 : Out G t2 ((setA D.P.T t2.st pv m v).andThen fun _ s3 => .ok (Fl.nx env) s3) _ _ := o3
    cases pv with
    | ref i =>
      obtain ⟨eu, _⟩ := r2
      have o3 : Out G t2 ((match lookN i t2.st.m with
        | some (.ins c fs) => match memN m (D.P.T.fd c) && leN (fs.length + 1) 1000 with
          | true => Ev.R.ok Val.non (t2.st.put i (.ins c (putN m v fs)))
          | false => Ev.R.bad
        | _ => Ev.R.bad).andThen fun _ s3 => .ok (Fl.nx env) s3) _ _ := o3
      cases q : lookN i t2.st.m with
      | none => rw [q] at o3; exact o3.elim
      | some ob =>
        rw [q] at o3
        cases ob with
        | lst _ => exact o3.elim
        | dct _ => exact o3.elim
        | ins c fs =>
          obtain ⟨wo, hw, dx, ws, ew, rf⟩ := p2.ob i _ q
          subst ew
          have o3 : Out G t2 ((match memN m (D.P.T.fd c) && leN (fs.length + 1) 1000 with
          | true => Ev.R.ok Val.non (t2.st.put i (.ins c (putN m v fs)))
          | false => Ev.R.bad).andThen fun _ s3 => .ok (Fl.nx env) s3) _ _ := o3
          cases qm : (memN m (D.P.T.fd c) && leN (fs.length + 1) 1000) with
          | false => rw [qm] at o3; exact o3.elim
          | true =>
            rw [qm] at o3
            obtain ⟨hm, hlen⟩ := dec2 qm
            obtain ⟨c1, c2⟩ := O.fd c m hm
            have rf' : Ro G (t2.put i (.ins c (putN m v fs)) (.ins (G.ca c) dx (putF (nt m) u ws))) (.ins c (putN m v fs)) (.ins (G.ca c) dx (putF (nt m) u ws)) :=
              ⟨dx, _, rfl, (Rfs.le p2 (Le.put q) _ _ rf).put (Rv.le p2 (Le.put q) _ _ (Rv.le R l2 _ _ r))⟩
            have p3 := Rep.put p2 q rf'
            have l3 : Le G t2 (t2.put i (.ins c (putN m v fs)) (.ins (G.ca c) dx (putF (nt m) u ws))) := Le.put q
            rw [O.K] at c1 c2 ⊢
            refine ⟨t2.as i, G.ca c, dx, ws, eu, hw, c1, c2, ?_, ?_⟩
            · have := leN_iff.mp hlen
              rw [← rf.length]
              omega
            · exact o3 (t2.put i (.ins c (putN m v fs)) (.ins (G.ca c) dx (putF (nt m) u ws))) l3 p3 rfl σ (((E.le R l2).le p2 l3)) fun _ => rfl
    | _ => exact o3.elim
theorem ps_sets_r {o i e : E} {xo xi x : Expr} {p p' : Pos} (O : Ok D G n cf X N L) (ho : PE X xo (tR G W (evE T cf o))) (hi : PE X xi (tR G W (evE T cf i))) (he : PE X x (tR G W (evE T cf e))) (hx : plainB xi = true) :
    PS X (.Assign [.Subscript xo xi p'] x p) (tS G nb W (evS T cf w (.sets o i e))) :=
  PS_imp (ps_asg he (pg_sub ho hi set_list (ha := fun v => by cases xi <;> first | rfl | (cases hx; done))) (sole_nn rfl) (sws_nt rfl) rfl) fun Dn σ H q => tS_expr q fun v u t env R E r o2 => by
    have o2 : Out G t ((evE T cf o env t.st).andThen fun p s2 => (evE T cf i env s2).andThen fun k s3 => (setV s3 p k v).andThen fun _ s4 => .ok (Fl.nx env) s4) _ _ := o2
    refine ⟨t, env, rfl, R, E, o2.bind.mono (fun pv t2 l2 p2 o3 u2 r2 => ?_) fun _ _ _ _ _ x => eX_at x⟩
    have E2 := E.le R l2
    have o3 : Out G t2 ((evE T cf i env t2.st).andThen fun k s3 => (setV s3 pv k v).andThen fun _ s4 => .ok (Fl.nx env) s4) _ _ := o3
    refine ⟨t2, env, rfl, p2, E2, o3.bind.mono (fun kv t3 l3 p3 o4 u3 r3 => ?_) fun _ _ _ _ _ x => eX_at x⟩
    have E3 := E2.le p2 l3
    have r2' := Rv.le p2 l3 _ _ r2
    have o4 : Out G t3 ((setV t3.st pv kv v).andThen fun _ s4 => .ok (Fl.nx env) s4) _ _ := o4
    cases pv with
    | ref a =>
      cases kv with
      | int k =>
        obtain ⟨eu, _⟩ := r2'
        cases (show u3 = V.int k from r3)
        have o4 : Out G t3 ((match lookN a t3.st.m with
          | some (.lst xs) => match L2.ixN xs.length k with
            | some j => Ev.R.ok Val.non (t3.st.put a (.lst (xs.set j v)))
            | none => Ev.R.bad
          | _ => Ev.R.bad).andThen fun _ s4 => .ok (Fl.nx env) s4) _ _ := o4
        cases q : lookN a t3.st.m with
        | none => rw [q] at o4; exact o4.elim
        | some ob =>
          rw [q] at o4
          cases ob with
          | dct _ => exact o4.elim
          | ins _ _ => exact o4.elim
          | lst xs =>
            obtain ⟨wo, hw, vs, ew, rvs⟩ := p3.ob a _ q
            subst ew
            have o4 : Out G t3 ((match L2.ixN xs.length k with
            | some j => Ev.R.ok Val.non (t3.st.put a (.lst (xs.set j v)))
            | none => Ev.R.bad).andThen fun _ s4 => .ok (Fl.nx env) s4) _ _ := o4
            cases qj : L2.ixN xs.length k with
            | none => rw [qj] at o4; exact o4.elim
            | some j =>
              rw [qj] at o4
              have ro' : Ro G (t3.put a (.lst (xs.set j v)) (.lst (vs.set j u))) (.lst (xs.set j v)) (.lst (vs.set j u)) :=
                ⟨_, rfl, (Rvs.le p3 (Le.put q) _ _ rvs).set j (Rv.le p3 (Le.put q) _ _ (Rv.le p2 l3 _ _ (Rv.le R l2 _ _ r)))⟩
              have p4 := Rep.put p3 q ro'
              have l4 : Le G t3 (t3.put a (.lst (xs.set j v)) (.lst (vs.set j u))) := Le.put q
              refine ⟨t3.as a, vs, k, j, eu, rfl, hw, by rw [← rvs.length]; exact qj, ?_⟩
              exact o4 (t3.put a (.lst (xs.set j v)) (.lst (vs.set j u))) l4 p4 rfl σ (E3.le p3 l4) fun _ => rfl
      | _ => exact o4.elim
    | _ => exact o4.elim

/-! ### op= -/
theorem aug_r {op : Op} : PIp X (opA op) (r2 G fun s => augV op s) := by
  intro pins s σ H x y v u Q I rx ry h
  obtain ⟨t, vx, vy, e, R, r1, r3, o⟩ := h
  subst e
  have ii : ∀ {r : R2} {op' : Operator} {g : Int → Int → Int} {vx vy : Val} {i j : Int}, vx = .int i → vy = .int j → True := fun _ _ => True.intro
  cases op with
  | add =>
    cases vx with
    | int i =>
      cases vy with
      | int j =>
        cases (show x = V.int i from r1)
        cases (show y = V.int j from r3)
        exact iop_add pins s σ t.H _ _ v u Q I rx ry ⟨i, j, rfl, rfl, Out.now R o _ rfl⟩
      | _ => exact o.elim
    | str a =>
      cases vy with
      | str b =>
        cases (show x = V.str a from r1)
        cases (show y = V.str b from r3)
        obtain ⟨c, o⟩ := b_out o
        exact iop_add_str pins s σ t.H _ _ v u Q I rx ry ⟨a, b, rfl, rfl, by rw [← SL_eq]; exact leN_iff.mp c, Out.now R o _ rfl⟩
      | _ => exact o.elim
    | _ => cases vy <;> exact o.elim
  | sub =>
    cases vx with
    | int i =>
      cases vy with
      | int j =>
        cases (show x = V.int i from r1)
        cases (show y = V.int j from r3)
        exact iop_sub pins s σ t.H _ _ v u Q I rx ry ⟨i, j, rfl, rfl, Out.now R o _ rfl⟩
      | _ => exact o.elim
    | _ => cases vy <;> exact o.elim
  | mul =>
    cases vx with
    | int i =>
      cases vy with
      | int j =>
        cases (show x = V.int i from r1)
        cases (show y = V.int j from r3)
        obtain ⟨c, o⟩ := b_out o
        refine iop_mul pins s σ t.H _ _ v u Q I rx ry ⟨i, j, rfl, rfl, ?_, Out.now R o _ rfl⟩
        rcases Bool.or_eq_true_iff.mp c with c | c
        · exact .inl (smallI_iff c)
        · exact .inr (smallI_iff c)
      | _ => exact o.elim
    | _ => cases vy <;> exact o.elim
  | fdiv => cases vx <;> cases vy <;> exact o.elim
  | mod => cases vx <;> cases vy <;> exact o.elim
  | pow => cases vx <;> cases vy <;> exact o.elim
theorem ps_aug_r {i : Nat} {op : Op} {e : E} {y : Str} {x : Expr} {p p' : Pos} (O : Ok D G n cf X N L) (hN : N[i]? = some y) (hl : locB L y = true) (he : PE X x (tR G W (evE T cf e))) (hnb : nb = false) :
    PS X (.AugAssign (.Name y p') (opA op) x p) (tS G nb W (evS T cf w (.aug i op e))) := by
  obtain ⟨l1, l2⟩ := O.loc y hl
  refine PS_imp (ps_aug (i := i) O.nd (by rw [O.N_]; exact hN) l1 he (aug_r (G := G)) l2) fun Dn σ H q => ?_
  obtain ⟨s, env, eH, R, E, o⟩ := q
  subst eH
  have o : Out G s (match env[i]? with
    | some (some x) => (evE T cf e env s.st).andThen fun y s1 => (augV op s1 x y).andThen fun z s2 => .ok (Fl.nx (env.set i (some z))) s2
    | _ => .bad) _ _ := o
  split at o
  · rename_i xv q
    obtain ⟨v, h1, h2⟩ := E.at_ i xv q
    refine ⟨v, h1, s, env, rfl, R, E, o.bind.mono (fun yv t l p o2 u ru => ?_) fun _ _ _ _ _ x => eX_at x⟩
    refine ⟨t, xv, yv, rfl, p, Rv.le R l _ _ h2, ru, ?_⟩
    exact (show Out G t ((augV op t.st xv yv).andThen fun z s2 => .ok (Fl.nx (env.set i (some z))) s2) _ _ from o2).bind.mono (fun zv t2 l2 p2 o3 u2 ru2 => Out.now1 (v := Fl.nx _) p2 o3 _ (((E.le R l).le p l2).set i ru2) (nbF hnb)) fun _ _ _ _ _ _ => True.intro
  · exact o.elim

/-! ### if, return -/
theorem ps_ifs_r {c : E} {a b : List S} {x : Expr} {xa xb : List Stmt} {p : Pos} (hc : PT X x (tT G W (evE T cf c))) (ha : PSs X xa (tS G nb W (evSs T cf w a))) (hb : PSs X xb (tS G nb W (evSs T cf w b))) :
    PS X (.If x xa xb p) (tS G nb W (evS T cf w (.ifs c a b))) :=
  PS_imp (ps_if hc ha hb) fun Dn σ H q => by
    obtain ⟨s, env, e, R, E, o⟩ := q
    refine ⟨s, env, e, R, E, o.bind.mono (fun v t l p o2 => ?_) fun _ _ _ _ _ x => eX_at x⟩
    have o2 : Out G t (match truV t.st v with
      | some true => evSs T cf w a env t.st
      | some false => evSs T cf w b env t.st
      | none => .bad) _ _ := o2
    cases h : truV t.st v with
    | none => rw [h] at o2; exact o2.elim
    | some k =>
      rw [h] at o2
      refine ⟨k, rfl, ?_⟩
      cases k with
      | true =>
        rw [if_pos rfl]
        exact ⟨t, env, rfl, p, E.le R l, o2⟩
      | false =>
        rw [if_neg Bool.false_ne_true]
        exact ⟨t, env, rfl, p, E.le R l, o2⟩
theorem ps_ret_r {e : E} {x : Expr} {p : Pos} (he : PE X x (tR G W (evE T cf e))) : PS X (.Return (some x) p) (tS G nb W (evS T cf w (.ret e))) :=
  PS_imp (ps_ret he) fun Dn σ H q => tS_expr q fun v u t env R E r o => Out.now1 (v := Fl.ret v) R o u r
theorem ps_retN_r {p : Pos} : PS X (.Return none p) (tS G nb W (evS T cf w .retN)) := PS_imp ps_retN fun Dn σ H q => by
  obtain ⟨s, env, e, R, E, o⟩ := q
  subst e
  exact Out.now1 (v := Fl.ret .non) R o _ rfl
theorem ps_pass_r {p : Pos} : PS X (.Pass p) (tS G nb W (evS T cf w .pass)) := PS_imp ps_pass fun Dn σ H q => by
  obtain ⟨s, env, e, R, E, o⟩ := q
  subst e
  exact Out.now1 (v := Fl.nx env) R o σ E fun _ => rfl
theorem ps_brk_r {p : Pos} : PS X (.Break p) (tS G nb W (evS T cf w .brk)) := PS_imp ps_break fun Dn σ H q => by
  obtain ⟨s, env, e, R, E, o⟩ := q
  subst e
  exact Out.now1 (v := Fl.brk env) R o σ E fun _ => rfl
theorem ps_cnt_r {p : Pos} : PS X (.Continue p) (tS G nb W (evS T cf w .cnt)) := PS_imp ps_continue fun Dn σ H q => by
  obtain ⟨s, env, e, R, E, o⟩ := q
  subst e
  exact Out.now1 (v := Fl.cnt env) R o σ E fun _ => rfl

/-! ### one after another -/
theorem pss_nil_r : PSs X [] (tS G nb W (evSs T cf w [])) := PSs_imp pss_nil fun Dn σ H q => by
  obtain ⟨s, env, e, R, E, o⟩ := q
  subst e
  exact Out.now1 (v := Fl.nx env) R o σ E fun _ => rfl
theorem pss_one_r {a : S} {x : Stmt} (h : PS X x (tS G nb W (evS T cf w a))) : PSs X [x] (tS G nb W (evSs T cf w [a])) := PSs_imp (pss_one h) fun Dn σ H q => q
theorem pss_cons_r {a b : S} {r : List S} {x y : Stmt} {xs : List Stmt} (h : PS X x (tS G nb W (evS T cf w a))) (hr : PSs X (y :: xs) (tS G nb W (evSs T cf w (b :: r)))) : PSs X (x :: y :: xs) (tS G nb W (evSs T cf w (a :: b :: r))) :=
  PSs_imp (pss_cons h hr) fun Dn σ H q => by
    obtain ⟨s, env, e, R, E, o⟩ := q
    refine ⟨s, env, e, R, E, (show Out G s ((evS T cf w a env s.st).andThen fun f s => match f with
      | .nx e => evSs T cf w (b :: r) e s
      | f => .ok f s) _ _ from o).bind.mono (fun f t l p o2 => ?_) fun _ _ _ _ _ x => x⟩
    cases f with
    | nx e => exact fun σ' E' k => ⟨t, e, rfl, p, E', o2.mono (fun f t _ _ h => flo_mono k h) fun _ _ t _ _ h => eX_mono k h⟩
    | ret v => exact Out.now1 (ex := eX G nb W σ) (v := Fl.ret v) p o2
    | brk e => exact Out.now1 (ex := eX G nb W σ) (v := Fl.brk e) p o2
    | cnt e => exact Out.now1 (ex := eX G nb W σ) (v := Fl.cnt e) p o2

/-! ### loops -/
theorem ps_for_r {tg : Tg} {src : Src} {es : List E} {body : List S} {xt iter : Expr} {xb : List Stmt} {p : Pos} (O : Ok D G n cf X N L) (hp : PassesOwn (model X.prog X.w) X.A X.env X.xe) (hi : PI X xt iter (tI G W src (evEs T cf es))) (hg : PG X xt (gT G tg))
    (hb : PSs X xb (tS G nb W (evSs T cf w body))) (hs : isSet iter = false) (hnb : nb = false) : PS X (.For xt iter xb [] p) (tS G nb W (evS T cf w (.for tg src es body))) := by
  refine PS_imp (ps_for hp O.calm hi hg hb (folded_of hs)) fun Dn σ H q => ?_
  obtain ⟨s, env, e, R, E, o⟩ := q
  have o : Out G s ((evEs T cf es env s.st).andThen fun xs s1 => onF (srcV src xs) fun items => loopV (fun e t => evSs T cf w body e t) tg items env s1) _ _ := o
  refine ⟨s, env, e, R, E, o.bind.mono (fun xs t l pr o2 => ?_) fun _ _ _ _ _ x => eX_at x⟩
  obtain ⟨items, h1, o2⟩ := f_out o2
  refine ⟨items, h1, fun J wk => ?_⟩
  let Pv : Nat → L2.St → Hp → Prop := fun i σ' H => ∃ t' : Sit, ∃ env', t'.H = H ∧ Rep G t' ∧ Le G t t' ∧ EnvR G t' env' σ' ∧ Out G t' (loopV (fun e t => evSs T cf w body e t) tg (items.drop i) env' t'.st) (flo G nb Dn σ) (eX G nb W σ)
  refine ⟨fun i m σ' H => m = items.length - i ∧ i ≤ items.length ∧ Pv i σ' H, ⟨items.length, rfl, Nat.zero_le _, t, env, rfl, pr, Le.refl t, E.le R l, by rw [List.drop_zero]; exact o2⟩, ?_⟩
  rintro i m σ1 H1 ⟨rfl, hi, t1, env1, e1, p1, l1, E1, o4⟩
  subst e1
  by_cases hlt : i < items.length
  · right
    have hx : items[i]? = some items[i] := List.getElem?_eq_getElem hlt
    obtain ⟨go, yl⟩ := wk.go t1 l1 p1 i _ hx
    refine ⟨go, Pv (i + 1), fun σ' H2 p2 => ⟨items.length - (i + 1), by omega, rfl, hlt, p2⟩, fun v H2 y => ?_⟩
    obtain ⟨t2, e2, es2, l2, p2, rv⟩ := yl v H2 y
    subst e2
    rw [List.drop_eq_getElem_cons hlt, ← es2] at o4
    have o4 : Out G t1 (onF (tgV tg items[i] env1) fun env2 => (evSs T cf w body env2 t2.st).andThen fun f s1 => match f with
      | .nx e => loopV (fun e t => evSs T cf w body e t) tg (items.drop (i + 1)) e s1
      | .cnt e => loopV (fun e t => evSs T cf w body e t) tg (items.drop (i + 1)) e s1
      | .brk e => .ok (.nx e) s1
      | .ret v => .ok (.ret v) s1) _ _ := o4
    obtain ⟨env2, he2, o4⟩ := f_out o4
    have lt2 : Le G t t2 := l1.trans l2
    refine ⟨t2, items[i], env1, env2, rfl, p2, E1.le p1 l2, rv, he2, fun σ2 E3 _ => ⟨t2, env2, rfl, p2, E3, (o4.on l2).bind.mono (fun f t3 l3 p3 o6 => ?_) fun _ _ _ _ _ h => fun cls d σ' x k => h cls d σ' x (nbF hnb)⟩⟩
    cases f with
    | nx e => exact fun σ3 E4 _ => ⟨t3, e, rfl, p3, lt2.trans l3, E4, o6⟩
    | cnt e => exact fun σ3 E4 _ => ⟨t3, e, rfl, p3, lt2.trans l3, E4, o6⟩
    | brk e => exact fun σ3 E4 _ => Out.now1 (v := Fl.nx e) p3 o6 σ3 E4 (nbF hnb)
    | ret v => exact fun u ru => Out.now1 (v := Fl.ret v) p3 o6 u ru
  · left
    have ei : i = items.length := by omega
    subst ei
    refine ⟨wk.stop t1 l1 p1, ?_⟩
    rw [List.drop_length] at o4
    exact Out.now1 (v := Fl.nx env1) p1 o4 σ1 E1 (nbF hnb)
theorem ps_whil_r {c : E} {body : List S} {x : Expr} {xb : List Stmt} {p : Pos} (O : Ok D G n cf X N L) (hp : PassesOwn (model X.prog X.w) X.A X.env X.xe) (hc : PT X x (tT G W (evE T cf c)))
    (hb : PSs X xb (tS G nb W (evSs T cf w body))) (hnb : nb = false) : PS X (.While x xb [] p) (tS G nb W (evS T cf w (.whil c body))) := by
  refine PS_imp (ps_while hp hc hb) fun Dn σ H q => ?_
  obtain ⟨s, env, e, R, E, o⟩ := q
  let Pv : Nat → L2.St → Hp → Prop := fun m σ' H => ∃ t' : Sit, ∃ env', t'.H = H ∧ Rep G t' ∧ EnvR G t' env' σ' ∧ Out G t' (whileV (fun e t => evE T cf c e t) (fun e t => evSs T cf w body e t) m env' t'.st) (flo G nb Dn σ) (eX G nb W σ)
  refine ⟨Pv, ⟨w, s, env, e, R, E, o⟩, ?_⟩
  rintro m σ1 H1 ⟨t1, env1, e1, p1, E1, o4⟩
  cases m with
  | zero => exact o4.elim
  | succ m =>
    have o4 : Out G t1 ((evE T cf c env1 t1.st).andThen fun x s1 => match truV s1 x with
      | some true => (evSs T cf w body env1 s1).andThen fun f s2 => match f with
        | .nx e => whileV (fun e t => evE T cf c e t) (fun e t => evSs T cf w body e t) m e s2
        | .cnt e => whileV (fun e t => evE T cf c e t) (fun e t => evSs T cf w body e t) m e s2
        | .brk e => .ok (.nx e) s2
        | .ret v => .ok (.ret v) s2
      | some false => .ok (.nx env1) s1
      | none => .bad) _ _ := o4
    refine ⟨t1, env1, e1, p1, E1, o4.bind.mono (fun v t2 l2 p2 o5 => ?_) fun _ _ t _ _ h => fun cls d x => h cls d _ x (nbF hnb)⟩
    have E2 := E1.le p1 l2
    cases h : truV t2.st v with
    | none => rw [h] at o5; exact o5.elim
    | some k =>
      rw [h] at o5
      refine ⟨k, rfl, ?_⟩
      cases k with
      | false =>
        rw [if_neg Bool.false_ne_true]
        exact Out.now1 (v := Fl.nx env1) p2 o5 σ1 E2 (nbF hnb)
      | true =>
        rw [if_pos rfl]
        refine ⟨Pv m, fun σ' H' h => ⟨m, Nat.lt_succ_self m, h⟩, t2, env1, rfl, p2, E2, ?_⟩
        refine (show Out G t2 ((evSs T cf w body env1 t2.st).andThen fun f s2 => match f with
          | .nx e => whileV (fun e t => evE T cf c e t) (fun e t => evSs T cf w body e t) m e s2
          | .cnt e => whileV (fun e t => evE T cf c e t) (fun e t => evSs T cf w body e t) m e s2
          | .brk e => .ok (.nx e) s2
          | .ret v => .ok (.ret v) s2) _ _ from o5).bind.mono (fun f t3 l3 p3 o6 => ?_) fun _ _ _ _ _ h => fun cls d σ' x k => h cls d σ' x (nbF hnb)
        cases f with
        | nx e => exact fun σ3 E4 _ => ⟨t3, e, rfl, p3, E4, o6⟩
        | cnt e => exact fun σ3 E4 _ => ⟨t3, e, rfl, p3, E4, o6⟩
        | brk e => exact fun σ3 E4 _ => Out.now1 (v := Fl.nx e) p3 o6 σ3 E4 (nbF hnb)
        | ret v => exact fun u ru => Out.now1 (v := Fl.ret v) p3 o6 u ru
end
end Ev

set_option Elab.async false
set_option linter.all false
set_option maxRecDepth 100000
/-! Ev.Snd13: THE THEOREM for statements, and for the program's defs. -/
namespace Ev
open PySem PySem.Spec PyProof.Rows L2

def bExpr : Stmt → Option Expr
  | .Expr x _ => some x
  | _ => none
def bAsg : Stmt → Option (Expr × Expr)
  | .Assign [t] x _ => some (t, x)
  | _ => none
def bAug : Stmt → Option (Expr × Operator × Expr)
  | .AugAssign t o x _ => some (t, o, x)
  | _ => none
def bIf : Stmt → Option (Expr × List Stmt × List Stmt)
  | .If c a b _ => some (c, a, b)
  | _ => none
def bFor : Stmt → Option (Expr × Expr × List Stmt)
  | .For t i b [] _ => some (t, i, b)
  | _ => none
def bWhl : Stmt → Option (Expr × List Stmt)
  | .While c b [] _ => some (c, b)
  | _ => none
def bRet : Stmt → Option (Option Expr)
  | .Return e _ => some e
  | _ => none
theorem bExpr_eq {s : Stmt} {x : Expr} (h : bExpr s = some x) : ∃ p, s = .Expr x p := by
  cases s <;> first | (cases h; exact ⟨_, rfl⟩) | cases h
theorem bAsg_eq {s : Stmt} {t x : Expr} (h : bAsg s = some (t, x)) : ∃ p, s = .Assign [t] x p := by
  unfold bAsg at h
  split at h
  · cases h; exact ⟨_, rfl⟩
  · cases h
theorem bAug_eq {s : Stmt} {t x : Expr} {o : Operator} (h : bAug s = some (t, o, x)) : ∃ p, s = .AugAssign t o x p := by
  cases s <;> first | (cases h; exact ⟨_, rfl⟩) | cases h
theorem bIf_eq {s : Stmt} {c : Expr} {a b : List Stmt} (h : bIf s = some (c, a, b)) : ∃ p, s = .If c a b p := by
  cases s <;> first | (cases h; exact ⟨_, rfl⟩) | cases h
theorem bFor_eq {s : Stmt} {t i : Expr} {b : List Stmt} (h : bFor s = some (t, i, b)) : ∃ p, s = .For t i b [] p := by
  unfold bFor at h
  split at h
  · cases h; exact ⟨_, rfl⟩
  · cases h
theorem bWhl_eq {s : Stmt} {c : Expr} {b : List Stmt} (h : bWhl s = some (c, b)) : ∃ p, s = .While c b [] p := by
  unfold bWhl at h
  split at h
  · cases h; exact ⟨_, rfl⟩
  · cases h
theorem bRet_eq {s : Stmt} {e : Option Expr} (h : bRet s = some e) : ∃ p, s = .Return e p := by
  cases s <;> first | (cases h; exact ⟨_, rfl⟩) | cases h

/-! ### a comprehension stored straight -/
theorem strEq_beq {a b : Str} : (a == b) = strEq a b := by
  cases h : strEq a b with
  | true => exact beq_iff_eq.mpr (strEq_iff.mp h)
  | false => exact beq_eq_false_iff_ne.mpr (strEq_false h)
def lcK : NameKind → Bool
  | .local => true
  | .cell => true
  | _ => false
def swB (L : NmL) (xt x : Expr) : Bool := match xt, x with
  | .Name y py, .ListComp _ _ sc p => lclB L y && (natEq py.line p.line && !(sc.names.any fun q => strEq q.1 y && lcK q.2))
  | _, _ => false
theorem swB_ok {L : NmL} {y : Str} {py p : Pos} {elt : Expr} {gs : List Comprehension} {sc : Scope} {l : Nat} {env : PySem.Env} (hk : env.scope.kind = .function) (hL : env.scope.names = L) :
    swapsWith (.ListComp elt gs sc p) (some (.Name y py)) l env = pure (swB L (.Name y py) (.ListComp elt gs sc p)) := by
  have hb : env.blockKind = .function := by unfold Env.blockKind; rw [hk]; rfl
  have e1 : (env.kindOf y == some .local) = lclB L y := by
    show (env.scope.names.lookup y == some .local) = _
    rw [hL]
    unfold lclB
    rw [lookS_eq]
    cases L.lookup y with
    | none => rfl
    | some k => cases k <;> rfl
  have e2 : (py.line == p.line) = natEq py.line p.line := by
    cases h : natEq py.line p.line with
    | true => exact beq_iff_eq.mpr (natEq_iff.mp h)
    | false => exact beq_eq_false_iff_ne.mpr (natEq_false h)
  have e3 : (sc.names.any fun (n, k) => n == y && (k == .local || k == .cell)) = sc.names.any fun q => strEq q.1 y && lcK q.2 := by
    congr 1
    funext ⟨m, k⟩
    show (m == y && (k == .local || k == .cell)) = (strEq m y && lcK k)
    rw [strEq_beq]
    cases k <;> rfl
  show pure (env.blockKind == .function && env.kindOf y == some .local && py.line == p.line && !(sc.names.any fun (n, k) => n == y && (k == .local || k == .cell))) = pure (lclB L y && (natEq py.line p.line && !(sc.names.any fun q => strEq q.1 y && lcK q.2)))
  rw [hb, e1, e2, e3]
  simp [Bool.and_assoc]

def isLc : E → Bool
  | .lc _ _ _ _ _ _ => true
  | _ => false
def tgIs (tg : Tg) : Bool := match tg with
  | .v _ => true
  | .tup _ => false
mutual
def chkS (D : Data) (N : List Str) (L : NmL) (nb : Bool) : S → Stmt → Bool
  | .ex e, s => (match bExpr s with
    | some x => !isComp x && chkE D N L e x
    | none => false)
  | .asg tg e, s => !nb && (match bAsg s with
    | some (xt, x) => (match isComp x && isName xt with
      | true => (match swB L xt x with
        | true => isLc e && (tgIs tg && (tgB N L tg xt && chkE D N L e x))
        | false => isLc e && (tgB N L tg xt && chkE D N L e x))
      | false => !isStar xt && ((!isTup x || !isSeq xt) && (tgB N L tg xt && chkE D N L e x)))
    | none => false)
  | .par i j a b, s => !nb && (match bAsg s with
    | some (xt, x) => parB N L i j xt x && (match aTup x with
      | some as => chkEs D N L [a, b] as
      | none => false)
    | none => false)
  | .sets o i e, s => (match bAsg s with
    | some (xt, x) => (match aSub xt with
      | some (xo, xi) => plainB xi && (chkE D N L o xo && (chkE D N L i xi && chkE D N L e x))
      | none => false)
    | none => false)
  | .seta o m e, s => (match bAsg s with
    | some (xt, x) => (match aAttr xt with
      | some (xo, f) => strEq f (nt m) && (chkE D N L o xo && chkE D N L e x)
      | none => false)
    | none => false)
  | .aug i op e, s => !nb && (match bAug s with
    | some (xt, o, x) => opE op o && ((match aName xt with
      | some y => nameAt N i y && locB L y
      | none => false) && chkE D N L e x)
    | none => false)
  | .ifs c a b, s => (match bIf s with
    | some (xc, xa, xb) => chkE D N L c xc && (chkSs D N L nb a xa && chkSs D N L nb b xb)
    | none => false)
  | .for tg src es body, s => !nb && (match bFor s with
    | some (xt, iter, xb) => !isSet iter && (tgB N L tg xt && (srcTg src xt && (srcLen src es.length && ((match srcArgs L src iter with
      | some as => chkEs D N L es as
      | none => false) && chkSs D N L nb body xb))))
    | none => false)
  | .whil c body, s => !nb && (match bWhl s with
    | some (xc, xb) => chkE D N L c xc && chkSs D N L nb body xb
    | none => false)
  | .ret e, s => (match bRet s with
    | some (some x) => chkE D N L e x
    | _ => false)
  | .retN, s => (match bRet s with
    | some none => true
    | _ => false)
  | .brk, s => (match s with
    | .Break _ => true
    | _ => false)
  | .cnt, s => (match s with
    | .Continue _ => true
    | _ => false)
  | .pass, s => (match s with
    | .Pass _ => true
    | _ => false)
def chkSs (D : Data) (N : List Str) (L : NmL) (nb : Bool) : List S → List Stmt → Bool
  | [], [] => true
  | a :: r, x :: xs => chkS D N L nb a x && chkSs D N L nb r xs
  | _, _ => false
end
theorem evSs_one {T : Tab} {cf : CF} {w : Nat} {a : S} : evSs T cf w [a] = evS T cf w a := by
  funext env s
  rfl
mutual
theorem sndS {D : Data} {G : Gm} {n : Nat} {cf : CF} {N : List Str} : ∀ (st : S) {X : Cx} {L : NmL} {W : WX} {nb : Bool} (O : Ok D G n cf X N L) (Tk : Takes X W) (hp : PassesOwn (model X.prog X.w) X.A X.env X.xe) (hL : X.env.scope.names = L) (a : Stmt),
    chkS D N L nb st a = true → PS X a (tS G nb W (evS D.P.T cf D.P.w st))
  | .ex e, X, L, W, nb, O, Tk, hp, hL, a, h => by
    unfold chkS at h
    cases q : bExpr a with
    | none => rw [q] at h; cases h
    | some x =>
      rw [q] at h
      obtain ⟨p, rfl⟩ := bExpr_eq q
      obtain ⟨h1, h2⟩ := dec2 h
      exact ps_ex_r (sndE e O Tk x h2).1 (not_of' h1)
  | .asg tg e, X, L, W, nb, O, Tk, hp, hL, a, h => by
    unfold chkS at h
    obtain ⟨h0, h'⟩ := dec2 h
    clear h
    have hnb : nb = false := not_of' h0
    cases q : bAsg a with
    | none => rw [q] at h'; cases h'
    | some r =>
      obtain ⟨xt, x⟩ := r
      rw [q] at h'
      obtain ⟨p, rfl⟩ := bAsg_eq q
      have h' : (match isComp x && isName xt with
        | true => (match swB L xt x with
          | true => isLc e && (tgIs tg && (tgB N L tg xt && chkE D N L e x))
          | false => isLc e && (tgB N L tg xt && chkE D N L e x))
        | false => !isStar xt && ((!isTup x || !isSeq xt) && (tgB N L tg xt && chkE D N L e x))) = true := h'
      cases qc : (isComp x && isName xt) with
      | false =>
        rw [qc] at h'
        obtain ⟨h1, h2⟩ := dec2 h'
        obtain ⟨h2, h3⟩ := dec2 h2
        obtain ⟨h3, h4⟩ := dec2 h3
        refine ps_asg_r (sndE e O Tk x h4).1 (pg_r O h3) ?_ ?_ (not_of' h1) hnb
        · cases q1 : isComp x with
          | false => exact .inl rfl
          | true => rw [q1] at qc; exact .inr qc
        · rcases Bool.or_eq_true_iff.mp h2 with z | z
          · exact .inl (not_of' z)
          · exact .inr (not_of' z)
      | true =>
        rw [qc] at h'
        obtain ⟨c1, c2⟩ := dec2 qc
        obtain ⟨y, py, rfl⟩ : ∃ y py, xt = .Name y py := by cases xt <;> first | exact ⟨_, _, rfl⟩ | cases c2
        have h' : (match swB L (.Name y py) x with
          | true => isLc e && (tgIs tg && (tgB N L tg (.Name y py) && chkE D N L e x))
          | false => isLc e && (tgB N L tg (.Name y py) && chkE D N L e x)) = true := h'
        have lcx : chkE D N L e x = true → isLc e = true → ∃ elt gs sc p, x = .ListComp elt gs sc p := fun h hl => by
          cases e <;> first | (cases hl; done) | skip
          unfold chkE at h
          split at h
          · rename_i xelt xtg iter ifs sc q
            obtain ⟨p, rfl⟩ := lcParts_eq q
            exact ⟨_, _, _, _, rfl⟩
          · cases h
        cases qs : swB L (.Name y py) x with
        | false =>
          rw [qs] at h'
          obtain ⟨h1, h2a⟩ := dec2 h'
          obtain ⟨h2, h3⟩ := dec2 h2a
          clear h2a h'
          obtain ⟨elt, gs, sc, pl, rfl⟩ := lcx h3 h1
          have a1 : swapsWithSole [.Name y py] (.ListComp elt gs sc pl) p.line X.env = pure false := by
            show swapsWith (.ListComp elt gs sc pl) (some (.Name y py)) p.line X.env = pure false
            rw [swB_ok O.kind hL, qs]
          refine PS_imp (ps_asg (sndE e O Tk _ h3).1 (pg_r O h2) a1 (sws_nt rfl) rfl) fun Dn σ H q => tS_expr q fun v u t env R E r o => ?_
          obtain ⟨env1, h, o⟩ := f_out o
          exact ⟨t, v, env, env1, rfl, R, E, r, h, fun σ' E' _ => Out.now1 (v := Fl.nx env1) R o σ' E' (nbF hnb)⟩
        | true =>
          rw [qs] at h'
          obtain ⟨h1, h2a⟩ := dec2 h'
          obtain ⟨h2, h3a⟩ := dec2 h2a
          obtain ⟨h3, h4⟩ := dec2 h3a
          clear h2a h3a h'
          obtain ⟨elt, gs, sc, pl, rfl⟩ := lcx h4 h1
          cases tg with
          | tup _ => cases h2
          | v i =>
            have h3 : (nameAt N i y && locB L y) = true := h3
            obtain ⟨hi, _⟩ := dec2 h3
            have hy : lclB L y = true := (dec2 (show (lclB L y && (natEq py.line pl.line && !(sc.names.any fun q => strEq q.1 y && lcK q.2))) = true from qs)).1
            have hsw : ∀ gs', swapsWith (.ListComp elt gs' sc pl) (some (.Name y py)) p.line X.env = pure true := fun gs' => by
              rw [swB_ok O.kind hL]
              exact congrArg pure qs
            cases e <;> first | (cases h1; done) | skip
            rename_i fz src es tg' cond el zz
            unfold chkE at h4
            split at h4
            · rename_i xelt xtg iter ifs sc' q
              obtain ⟨p', e'⟩ := lcParts_eq q
              cases e'
              obtain ⟨g1, h⟩ := dec2 h4
              obtain ⟨g2, h⟩ := dec2 h
              obtain ⟨g3, h⟩ := dec2 h
              obtain ⟨g4, h⟩ := dec2 h
              obtain ⟨g5, h⟩ := dec2 h
              obtain ⟨g6, h⟩ := dec2 h
              obtain ⟨g7, h⟩ := dec2 h
              obtain ⟨g8, g9⟩ := dec2 h
              cases qa : srcArgs L src iter with
              | none => rw [qa] at g7; cases g7
              | some as =>
                rw [qa] at g7
                have hpi := pi_r O qa (sndEs es O Tk as g7) g6 g5
                have bo := blkB_ok (N := N) (sc := X.env.scope) O.cap g2
                refine ps_asgLc_r (ps_lc_r O hpi g3 (by rw [O.N_]; exact bo) (fun s H C cl fp => pg_r (O.blk s H sc bo.kind C cl fp) g4) (fun s H C cl fp => ?_) (fun s H C cl fp => (sndE el (O.blk s H sc bo.kind C cl fp) (takes_blk s H sc _ fp) elt g9).1) (not_of' g1) (nameAt_iff hi) (by rw [hL]; exact lcl_cases hy) (hsw _)) hnb
                exact sndIf cond (O.blk s H sc bo.kind C cl fp) (takes_blk s H sc _ fp) ifs g8
            · cases h4
  | .par i j e f, X, L, W, nb, O, Tk, hp, hL, a, h => by
    unfold chkS at h
    obtain ⟨h0, h'⟩ := dec2 h
    clear h
    cases q : bAsg a with
    | none => rw [q] at h'; cases h'
    | some r =>
      obtain ⟨xt, x⟩ := r
      rw [q] at h'
      obtain ⟨p, rfl⟩ := bAsg_eq q
      obtain ⟨h1, h2⟩ := dec2 h'
      refine ps_par_r O hL h1 (fun as e1 => ?_) (not_of' h0)
      rw [e1] at h2
      obtain ⟨_, _, _, _, _, _, a, b, _, _, _, ex, _, _, _, _, _, _, _, s1, s2, _⟩ := par_ok h1
      rw [ex] at e1
      cases e1
      exact (sndEs [e, f] O Tk _ h2).pa (by show ((!isStar a) && ((!isStar b) && true)) = true; rw [s1, s2]; rfl)
  | .sets o i e, X, L, W, nb, O, Tk, hp, hL, a, h => by
    unfold chkS at h
    cases q : bAsg a with
    | none => rw [q] at h; cases h
    | some r =>
      obtain ⟨xt, x⟩ := r
      rw [q] at h
      obtain ⟨p, rfl⟩ := bAsg_eq q
      have h : (match aSub xt with
        | some (xo, xi) => plainB xi && (chkE D N L o xo && (chkE D N L i xi && chkE D N L e x))
        | none => false) = true := h
      cases q2 : aSub xt with
      | none => rw [q2] at h; cases h
      | some r =>
        obtain ⟨xo, xi⟩ := r
        rw [q2] at h
        obtain ⟨p', rfl⟩ := aSub_eq q2
        obtain ⟨h1, h2⟩ := dec2 h
        obtain ⟨h2, h3⟩ := dec2 h2
        obtain ⟨h3, h4⟩ := dec2 h3
        exact ps_sets_r O (sndE o O Tk xo h2).1 (sndE i O Tk xi h3).1 (sndE e O Tk x h4).1 h1
  | .seta o m e, X, L, W, nb, O, Tk, hp, hL, a, h => by
    unfold chkS at h
    cases q : bAsg a with
    | none => rw [q] at h; cases h
    | some r =>
      obtain ⟨xt, x⟩ := r
      rw [q] at h
      obtain ⟨p, rfl⟩ := bAsg_eq q
      have h : (match aAttr xt with
        | some (xo, f) => strEq f (nt m) && (chkE D N L o xo && chkE D N L e x)
        | none => false) = true := h
      cases q2 : aAttr xt with
      | none => rw [q2] at h; cases h
      | some r =>
        obtain ⟨xo, f⟩ := r
        rw [q2] at h
        obtain ⟨p', rfl⟩ := aAttr_eq q2
        obtain ⟨h1, h2⟩ := dec2 h
        obtain ⟨h2, h3⟩ := dec2 h2
        rw [strEq_iff.mp h1]
        exact ps_seta_r O (sndE o O Tk xo h2).1 (sndE e O Tk x h3).1
  | .aug i op e, X, L, W, nb, O, Tk, hp, hL, a, h => by
    unfold chkS at h
    obtain ⟨h0, h'⟩ := dec2 h
    clear h
    cases q : bAug a with
    | none => rw [q] at h'; cases h'
    | some r =>
      obtain ⟨xt, o, x⟩ := r
      rw [q] at h'
      obtain ⟨p, rfl⟩ := bAug_eq q
      obtain ⟨h1, h2⟩ := dec2 h'
      obtain ⟨h2, h3⟩ := dec2 h2
      cases q2 : aName xt with
      | none => rw [q2] at h2; cases h2
      | some y =>
        rw [q2] at h2
        obtain ⟨h4, h5⟩ := dec2 h2
        clear h2
        obtain ⟨p', rfl⟩ := aName_eq q2
        rw [opE_ok h1]
        exact ps_aug_r O (nameAt_iff h4) h5 (sndE e O Tk x h3).1 (not_of' h0)
  | .ifs c x y, X, L, W, nb, O, Tk, hp, hL, a, h => by
    unfold chkS at h
    cases q : bIf a with
    | none => rw [q] at h; cases h
    | some r =>
      obtain ⟨xc, xa, xb⟩ := r
      rw [q] at h
      obtain ⟨p, rfl⟩ := bIf_eq q
      obtain ⟨h1, h2⟩ := dec2 h
      obtain ⟨h2, h3⟩ := dec2 h2
      exact ps_ifs_r (sndE c O Tk xc h1).2 (sndSs x O Tk hp hL xa h2) (sndSs y O Tk hp hL xb h3)
  | .for tg src es body, X, L, W, nb, O, Tk, hp, hL, a, h => by
    unfold chkS at h
    obtain ⟨h0, h'⟩ := dec2 h
    clear h
    cases q : bFor a with
    | none => rw [q] at h'; cases h'
    | some r =>
      obtain ⟨xt, iter, xb⟩ := r
      rw [q] at h'
      obtain ⟨p, rfl⟩ := bFor_eq q
      obtain ⟨h1, h⟩ := dec2 h'
      obtain ⟨h2, h⟩ := dec2 h
      obtain ⟨h3, h⟩ := dec2 h
      obtain ⟨h4, h⟩ := dec2 h
      obtain ⟨h5, h6⟩ := dec2 h
      cases qa : srcArgs L src iter with
      | none => rw [qa] at h5; cases h5
      | some as =>
        rw [qa] at h5
        exact ps_for_r O hp (pi_r O qa (sndEs es O Tk as h5) h4 h3) (pg_r O h2) (sndSs body O Tk hp hL xb h6) (not_of' h1) (not_of' h0)
  | .whil c body, X, L, W, nb, O, Tk, hp, hL, a, h => by
    unfold chkS at h
    obtain ⟨h0, h'⟩ := dec2 h
    clear h
    cases q : bWhl a with
    | none => rw [q] at h'; cases h'
    | some r =>
      obtain ⟨xc, xb⟩ := r
      rw [q] at h'
      obtain ⟨p, rfl⟩ := bWhl_eq q
      obtain ⟨h1, h2⟩ := dec2 h'
      exact ps_whil_r O hp (sndE c O Tk xc h1).2 (sndSs body O Tk hp hL xb h2) (not_of' h0)
  | .ret e, X, L, W, nb, O, Tk, hp, hL, a, h => by
    unfold chkS at h
    split at h
    · rename_i x q
      obtain ⟨p, rfl⟩ := bRet_eq q
      exact ps_ret_r (sndE e O Tk x h).1
    · cases h
  | .retN, X, L, W, nb, O, Tk, hp, hL, a, h => by
    unfold chkS at h
    split at h
    · rename_i q
      obtain ⟨p, rfl⟩ := bRet_eq q
      exact ps_retN_r
    · cases h
  | .brk, X, L, W, nb, O, Tk, hp, hL, a, h => by
    unfold chkS at h
    cases a <;> first | exact ps_brk_r | cases h
  | .cnt, X, L, W, nb, O, Tk, hp, hL, a, h => by
    unfold chkS at h
    cases a <;> first | exact ps_cnt_r | cases h
  | .pass, X, L, W, nb, O, Tk, hp, hL, a, h => by
    unfold chkS at h
    cases a <;> first | exact ps_pass_r | cases h
theorem sndSs {D : Data} {G : Gm} {n : Nat} {cf : CF} {N : List Str} : ∀ (sts : List S) {X : Cx} {L : NmL} {W : WX} {nb : Bool} (O : Ok D G n cf X N L) (Tk : Takes X W) (hp : PassesOwn (model X.prog X.w) X.A X.env X.xe) (hL : X.env.scope.names = L) (as : List Stmt),
    chkSs D N L nb sts as = true → PSs X as (tS G nb W (evSs D.P.T cf D.P.w sts))
  | [], X, L, W, nb, O, Tk, hp, hL, as, h => by
    cases as with
    | nil => exact pss_nil_r
    | cons _ _ => unfold chkSs at h; cases h
  | [st], X, L, W, nb, O, Tk, hp, hL, as, h => by
    match as, h with
    | [], h => unfold chkSs at h; cases h
    | [x], h =>
      unfold chkSs at h
      exact pss_one_r (sndS st O Tk hp hL x (dec2 h).1)
    | x :: y :: xs, h =>
      unfold chkSs at h
      have := (dec2 h).2
      unfold chkSs at this
      cases this
  | st :: st2 :: r, X, L, W, nb, O, Tk, hp, hL, as, h => by
    match as, h with
    | [], h => unfold chkSs at h; cases h
    | [x], h =>
      unfold chkSs at h
      have := (dec2 h).2
      unfold chkSs at this
      cases this
    | x :: y :: xs, h =>
      unfold chkSs at h
      obtain ⟨h1, h2⟩ := dec2 h
      exact pss_cons_r (sndS st O Tk hp hL x h1) (sndSs (st2 :: r) O Tk hp hL (y :: xs) h2)
end
end Ev

set_option Elab.async false
set_option linter.all false
set_option maxRecDepth 100000
/-! Ev.Snd14: the defs of a program keep what the evaluator says. -/
namespace Ev
open PySem PySem.Spec PyProof.Rows L2

/-- the def d is the evaluator's F, its slots named N -/
def defB (D : Data) (N : List Str) (F : Fn) (d : He.DefD) : Bool := match plainPs d.params, d.dfl with
  | some as, [] => fnB N (as.map (·.arg)) d.scope && (natEq as.length F.np && (natEq N.length F.ns && (okNB N && chkSs D N d.scope.names false F.body d.body)))
  | _, _ => false

/-! ### the program -/
/-- what stands in the module -/
structure Fx (D : Data) (G : Gm) (mg : Str → Option Value) : Prop where
  bl : ∀ x, x ∈ blN → mg x = none
  gf : ∀ f, D.gf f = true → mg (nt f) = some (.ref (G.ga f)) ∧ (nt f == ("__debug__" : Str)) = false
  me : ∀ c m f, D.P.T.me c m = some f → Cls G.K (G.ca c) ∧ Meth G.K (G.ca c) (nt m) (G.ga f) ∧ ∃ F, D.P.fn f = some F
  ini : ∀ c f, D.P.T.ini c = some f → Mk G.K (G.ca c) (G.ga f) ∧ mg (nt c) = some (.ref (G.ca c)) ∧ (nt c == ("__debug__" : Str)) = false ∧ ∃ F, D.P.fn f = some F
  fd : ∀ c m, memN m (D.P.T.fd c) = true → Cls G.K (G.ca c) ∧ NoAttr G.K (G.ca c) (nt m)
  gc : ∀ k, D.isC k = true → ∃ v u, mg (nt k) = some u ∧ RelV v u ∧ (nt k == ("__debug__" : Str)) = false ∧ ∀ s, Rv G s (D.P.T.gc k) v
  xc : ∀ c f, D.P.T.xi c = some f → ∃ (k : Tl) (d : He.DefD) (fI : Addr) (fd : FuncData) (b : Str), FunD G.K d.name d.qual d.params d.body d.scope (d.dvs G.K) (d.kws G.K) fI fd ∧ iniB b (nt f) d = true ∧ XcK G.K (G.ca c) k ∧ BaseAt G.K mg k b ∧
    PySem.W.findIn G.K (.ref (G.ca c)) "__init__" = some (some (.ref fI)) ∧ PySem.W.typeIn G.K (.ref fI) = some (.type "function") ∧ mg (nt c) = some (.ref (G.ca c)) ∧ (nt c == ("__debug__" : Str)) = false ∧ PySem.W.findIn G.K (.ref (G.ca c)) (nt f) = some none ∧
    ∀ y, D.P.T.xp c = some y → ∃ as, plainPs d.params = some as ∧ (as.map (·.arg))[1]? = some (nt y)
  isT : ∀ u t b, D.P.T.isT u t = some b → PySem.W.kitOne G.K (tyV G u) (tyV G t) = some b ∧ ∀ c, u = .c c → ExcC G.K (G.ca c)
  kls : ∀ k, D.isK k = true → mg (nt k) = some (.ref (G.ca k)) ∧ (nt k == ("__debug__" : Str)) = false
  df : ∀ f F, D.P.fn f = some F → ∃ (d : He.DefD) (N : List Str) (fd : FuncData), FunD G.K d.name d.qual d.params d.body d.scope (d.dvs G.K) (d.kws G.K) (G.ga f) fd ∧ defB D N F d = true
section
variable {D : Data} {G : Gm} {P : Program} {w : World} {mg : Str → Option Value} {base : Heap}
/-- a def's context -/
theorem ok_cx {n : Nat} {cf : CF} {N ps : List Str} {qual : Str} {scope : Scope} {f : Addr} {cd : Value} {A : Around} {outer : List PySem.Env} {s : Shared} {H : Hp} {E : XK} (X : Fx D G mg) (S : FnScope N ps scope) (hN : okNB N = true)
    (fn : ∀ f F, D.P.fn f = some F → ∃ fd ps, FnG P w G.K mg base (L2.CX P w) n (G.ga f) fd ps (spF G cf f) ∧ Binds G.K fd ps [] ∧ PySem.W.keepIn G.K (.ref (G.ga f)) = true)
    (hr : Room (n + 1) (A.deeper (envOfC qual scope s.heap.objs.size f cd))) (hg : A.guards = some []) (n1 : 1 ≤ n) : Ok D G n cf (cxOf (L2.CX P w) P w G.K mg base N qual scope f cd A outer s H E) N scope.names where
  K := rfl
  calm := rfl
  room := hr
  gd := hg
  n1 := n1
  kind := S.kind
  nd := S.nd
  N_ := rfl
  vis := fun x h => vis_cases h
  cap := fun x h => cap_cases h
  loc := fun x h => ⟨loc_cases h, .inl rfl⟩
  gl := fun x h => gl_cases h
  okN := okNB_ok hN
  bl := X.bl
  fn := fn
  gf := X.gf
  me := X.me
  ini := X.ini
  fd := X.fd
  gc := X.gc
  xc := fun c f h => by
    obtain ⟨k, d, fI, fd, b, F, hb, T, B, iC, tI, hm, hd, hno, hp⟩ := X.xc c f h
    obtain ⟨a1, a2, ep, ne, F', FG⟩ := init_ok (P := P) (w := w) (mg := mg) (base := base) (CX := L2.CX P w) F hb T B hno
    refine ⟨⟨k, fI, fd, a1.arg, a2.arg, ⟨T, iC, tI, FG, fun s x u => ?_, fun s x u => ?_⟩, fun y hy => ?_⟩, hm, hd, hno⟩
    · exact F'.bindsA (fun kV doc pm an cdv ct us hl => bind_plain hl (by simp [ne])) s [x, u] rfl
    · obtain ⟨oc, od, dV, kV, doc, pm, an, cdv, ct, osl, rfl, lk, hcd, hD, hK⟩ := F'.ex
      rcases hD with ⟨_, rfl⟩ | ⟨e, _⟩
      · exact .of_eq (bind_kw ne)
      · exact absurd rfl e
    · obtain ⟨as, e1, e2⟩ := hp y hy
      rw [ep] at e1
      cases e1
      exact Option.some.inj e2
  isT := X.isT
  kls := X.kls
/-- THE THEOREM: every def, at every depth -/
theorem defs_ok1 (X : Fx D G mg) : ∀ m f F, D.P.fn f = some F → ∀ (d : He.DefD) (N : List Str) (fd : FuncData), FunD G.K d.name d.qual d.params d.body d.scope (d.dvs G.K) (d.kws G.K) (G.ga f) fd → defB D N F d = true → ∃ as, plainPs d.params = some as ∧ as.length = F.np ∧
    FnG P w G.K mg base (L2.CX P w) (2 * m + 1) (G.ga f) fd (as.map (·.arg)) (spF G (evF D.P m) f) ∧ (as.map (·.arg)).Nodup ∧ FunD G.K d.name d.qual ⟨[], as, none, [], [], none, []⟩ d.body d.scope [] (d.kws G.K) (G.ga f) fd
  | 0, f, F, hF, d, N, fd, fun_, hb => by
    unfold defB at hb
    split at hb
    · rename_i as q1 q2
      obtain ⟨h1, h⟩ := dec2 hb
      have S := fnB_ok h1
      have dv : d.dvs G.K = [] := by unfold He.DefD.dvs; rw [q2]; rfl
      rw [dv, plainPs_eq q1] at fun_
      have nd : (as.map (·.arg)).Nodup := by rw [← S.pre]; exact S.nd.sublist (List.take_sublist _ _)
      refine ⟨as, q1, natEq_iff.mp (dec2 h).1, ⟨fun vs H Q E h => ?_, fun A outer s H args us vs Q E _ _ _ _ _ h => ?_⟩, nd, fun_⟩
      · obtain ⟨_, _, _, _, _, o⟩ := h
        exact o.elim
      · obtain ⟨_, _, _, _, _, o⟩ := h
        exact o.elim
    · cases hb
  | m + 1, f, F, hF, d, N, fd, fun_, hb => by
    have ih : ∀ f F, D.P.fn f = some F → ∃ fd ps, FnG P w G.K mg base (L2.CX P w) (2 * m + 1) (G.ga f) fd ps (spF G (evF D.P m) f) ∧ Binds G.K fd ps [] ∧ PySem.W.keepIn G.K (.ref (G.ga f)) = true := fun f F hF => by
      obtain ⟨d, N, fd, fun_, hb⟩ := X.df f F hF
      obtain ⟨as, _, _, FG, nd, F'⟩ := defs_ok1 X m f F hF d N fd fun_ hb
      exact ⟨fd, _, FG, F'.bindsN fun kV doc pm an cdv ct us hl => bind_plain hl nd, F'.kp⟩
    unfold defB at hb
    split at hb
    · rename_i as q1 q2
      obtain ⟨h1, h⟩ := dec2 hb
      obtain ⟨h2, h⟩ := dec2 h
      obtain ⟨h3, h⟩ := dec2 h
      obtain ⟨h4, h5⟩ := dec2 h
      have S := fnB_ok h1
      have dv : d.dvs G.K = [] := by unfold He.DefD.dvs; rw [q2]; rfl
      rw [dv, plainPs_eq q1] at fun_
      have nd : (as.map (·.arg)).Nodup := by rw [← S.pre]; exact S.nd.sublist (List.take_sublist _ _)
      have hnp : as.length = F.np := natEq_iff.mp h2
      have hns : N.length = F.ns := natEq_iff.mp h3
      -- what a run says of the arguments' number
      have len : ∀ {s : Sit} {xs : List Val} {ok : Val → Sit → Prop} {ex : Nat → Val → Sit → Prop}, Out G s (evF D.P (m + 1) f xs s.st) ok ex → xs.length = F.np ∧ Out G s ((evSs D.P.T (evF D.P m) D.P.w F.body (startE F xs) s.st).andThen fun r t => match r with
          | .ret v => .ok v t
          | .nx _ => .ok .non t
          | _ => .bad) ok ex := fun {s xs ok ex} o => by
        have o : Out G s (match D.P.fn f with
          | some F => match natEq xs.length F.np with
            | true => (evSs D.P.T (evF D.P m) D.P.w F.body (startE F xs) s.st).andThen fun r t => match r with
              | .ret v => .ok v t
              | .nx _ => .ok .non t
              | _ => .bad
            | false => .bad
          | none => .bad) ok ex := o
        rw [hF] at o
        have o : Out G s (match natEq xs.length F.np with
            | true => (evSs D.P.T (evF D.P m) D.P.w F.body (startE F xs) s.st).andThen fun r t => match r with
              | .ret v => .ok v t
              | .nx _ => .ok .non t
              | _ => .bad
            | false => .bad) ok ex := o
        cases q : natEq xs.length F.np with
        | false => rw [q] at o; exact o.elim
        | true => rw [q] at o; exact ⟨natEq_iff.mp q, o⟩
      refine ⟨as, q1, hnp, fnG_of (k := 2 * m + 2) fun_ S (fun vs H Q E h => ?_) fun cdv A outer s0 H vs Q E hr hg h => ?_, nd, fun_⟩
      · obtain ⟨s, xs, _, _, r, o⟩ := h
        rw [← r.length, (len o).1, List.length_map, hnp]
      · obtain ⟨s, xs, eH, R, r, o⟩ := h
        obtain ⟨hl, o⟩ := len o
        have O := ok_cx (P := P) (w := w) (base := base) (E := E) (outer := outer) (H := H) X S h4 ih hr hg (by omega)
        have Tk : Takes (cxOf (L2.CX P w) P w G.K mg base N d.qual d.scope (G.ga f) cdv A outer s0 H E) (fun cls d _ H => E cls d H) := takes_of rfl rfl rfl rfl
        refine ⟨_, sndSs (nb := false) F.body O Tk (passes_of rfl) rfl d.body h5, s, startE F xs, eH, R, ⟨?_, fun i x hx => ?_⟩, o.bind.mono (fun fl t l p o2 => ?_) fun c v t l p x => ?_⟩
        · show (xs.map some ++ List.replicate (F.ns - xs.length) none).length = (vs.map some ++ List.replicate (N.length - vs.length) none).length
          simp only [List.length_append, List.length_map, List.length_replicate]
          rw [hns, r.length]
        · have hx : (xs.map some ++ List.replicate (F.ns - xs.length) none)[i]? = some (some x) := hx
          show ∃ v : V, (vs.map some ++ List.replicate (N.length - vs.length) none)[i]? = some (some v) ∧ _
          by_cases hi : i < xs.length
          · rw [List.getElem?_append_left (by simpa using hi), List.getElem?_map] at hx
            cases q : xs[i]? with
            | none => rw [q] at hx; cases hx
            | some y =>
              rw [q] at hx
              cases hx
              obtain ⟨v, e1, e2⟩ := r.get q
              exact ⟨v, by rw [List.getElem?_append_left (by rw [List.length_map, ← r.length]; exact hi), List.getElem?_map, e1]; rfl, e2⟩
          · rw [List.getElem?_append_right (by simpa using hi), List.getElem?_replicate] at hx
            split at hx <;> cases hx
        · cases fl with
          | nx e => exact fun σ' _ _ => Out.now p o2 _ rfl
          | ret v => exact fun u ru => Out.now p o2 u ru
          | brk e => exact o2.elim
          | cnt e => exact o2.elim
        · exact fun cls d σ' xr _ => x cls d xr
    · cases hb
end
end Ev

set_option Elab.async false
set_option linter.all false
set_option maxRecDepth 100000
set_option maxHeartbeats 2000000
/-! Ev.End: a law's end by what the evaluator says of its def. -/
namespace Ev
open PySem PySem.Spec PyProof.Rows L2
section
variable {P : Program} {w : World} {K : PySem.W.Frag} {mg mb : Str → Option Value} {s : Shared} {H : Hp} {a : Addr}
/-- nothing but the script may be tracked, and it as it is -/
structure Scr (H : Hp) (s : Shared) (a : Addr) (o : Obj) (vs : List V) : Prop where
  is : ∀ b u, H b = some u → b = a ∧ u = .frz o (.lst vs)
  at_ : s.heap.get? a = some o
theorem Scr.non {o : Obj} {vs : List V} (S : Scr H s a o vs) {b : Addr} {o' : Obj} (e : s.heap.get? b = some o') (ne : o' ≠ o) : H b = none := by
  cases q : H b with
  | none => rfl
  | some u =>
    have z := (S.is b u q).1
    subst z
    rw [S.at_] at e
    exact absurd (Option.some.inj e).symm ne
theorem Scr.hid {o : Obj} {vs : List V} (S : Scr H s a o vs) {b : Addr} {o' : Obj} (e : s.heap.get? b = some o') (ne : o' ≠ o) : (hidT s.heap H).get? b = some o' := hidT_get e (S.non e ne)
theorem Scr.ns {o : Obj} {vs : List V} (S : Scr H s a o vs) (hl : o.data = .seq #[] 0 ∨ ∃ x n, o.data = .seq x n) {b : Addr} {m : Str → Option Value} (h : s.heap.Ns b m) : (hidT s.heap H).Ns b m := by
  obtain ⟨ob, es, ep, e, d, r⟩ := h
  refine ⟨ob, es, ep, S.hid e fun z => ?_, d, r⟩
  subst z
  rcases hl with q | ⟨x, n, q⟩ <;> (rw [q] at d; cases d)
theorem Scr.env0 {o : Obj} {vs : List V} (S : Scr H s a o vs) (hl : ∃ x n, o.data = .seq x n) (hk : H a ≠ none → K.lookup a = none) (KX : K.In s.heap) (hns : s.heap.Ns mainGlobals mg) (hb : s.heap.Ns builtinsNs mb) (hbb : ∀ x : Str, x ≠ "__name__" → mb x = bootBuiltins x) (lim : s.heap.NoLimit) (hg : s.gens = #[])
    (hok : HOk P w H s.heap) : Env0 P w K mg (hidT s.heap H) callerA [] s H ∧ K.In (hidT s.heap H) ∧ (hidT s.heap H).Ns mainGlobals mg := by
  have ns := fun {b : Addr} {m : Str → Option Value} (h : s.heap.Ns b m) => S.ns (.inr hl) h
  have kin : K.In (hidT s.heap H) := fun b ob e => hidT_get (KX b ob e) (by
    cases q : H b with
    | none => rfl
    | some u =>
      have z := (S.is b u q).1
      subst z
      rw [hk (by rw [q]; simp)] at e
      cases e)
  obtain ⟨mc, l1, l2⟩ := lim
  exact ⟨⟨rfl, ⟨kin, ns hns, ⟨mb, ns hb, hbb⟩, mc, ns l1, l2⟩, fun b ob e => of_hidT e, Nat.le_of_eq (hidT_size _ _), trivial, (fun b hb => absurd (show b ∈ ([] : List Addr) from hb) (by simp)), hok, .of_eq hg⟩, kin, ns hns⟩
/-- the law called -/
theorem law_callG {CX : CXT} {k : Nat} {fa : Addr} {fd : FuncData} {x : Str} {sp : Sp} {vs : List Value} {ns : List Int} (KX : K.In s.heap) (hns : s.heap.Ns mainGlobals mg) (hb : s.heap.Ns builtinsNs mb) (hbb : ∀ x : Str, x ≠ "__name__" → mb x = bootBuiltins x) (lim : s.heap.NoLimit) (hg : s.gens = #[])
    (ha : s.heap.get? a = some { cls := .type "list", data := .seq vs.toArray }) (hi : IntsAre vs ns) (hl : ns.length ≤ sizeLine) (hr : Room k callerA)
    (F : ∀ base : Heap, K.In base → base.Ns mainGlobals mg → FnG P w K mg base CX k fa fd [x] sp) (hbind : ∀ (s : Shared) (u : Value), BindsTo s fd ⟨[u], []⟩ [(x, u)])
    (hsp : ∀ H : Hp, ((∃ o, H a = some (.frz o (.lst (ns.map V.int)))) ∨ KLs K a (ns.map V.int)) → sp [.ref a] H (fun v _ => v = .bl true) fun _ _ _ => False) (hCX : ∀ H e s', CX [] H s (fun _ _ _ => False) e s' → False) :
    codeAny (model P w) callerA (.call (.ref fa) ⟨[.ref a], []⟩) (fun r s' => r = .ok (.ret (.bool true)) ∧ OldK s.heap s'.heap ∧ s'.os = s.os ∧ AllBare s'.gens) s := by
  have rv := vals_ints hi
  have lv := hi.length
  have core : ∀ H : Hp, Scr H s a { cls := .type "list", data := .seq vs.toArray } (ns.map V.int) → ((∃ o, H a = some (.frz o (.lst (ns.map V.int)))) ∨ KLs K a (ns.map V.int)) → HOk P w H s.heap → (H a ≠ none → K.lookup a = none) →
      codeAny (model P w) callerA (.call (.ref fa) ⟨[.ref a], []⟩) (fun r s' => r = .ok (.ret (.bool true)) ∧ OldK s.heap s'.heap ∧ s'.os = s.os ∧ AllBare s'.gens) s := fun H S q hok hk => by
    obtain ⟨e0, kin, nsm⟩ := S.env0 ⟨_, _, rfl⟩ hk KX hns hb hbb lim hg hok
    refine codeAny_mono ((F _ kin nsm).run callerA [] s H ⟨[.ref a], []⟩ [.ref a] [.ref a] _ _ hr rfl e0 (hbind s (.ref a)) (.cons rfl .nil) (hsp H q)) fun r s' h => ?_
    match r, h with
    | .error e, h => exact (hCX H e s' h).elim
    | .ok .next, h => exact False.elim h
    | .ok .brk, h => exact False.elim h
    | .ok .cont, h => exact False.elim h
    | .ok (.ret u), ⟨v, H', os, bare, un, hok', rv', ev⟩ =>
      have ev : v = .bl true := ev
      subst ev
      obtain rfl : u = Value.bool true := rv'
      refine ⟨rfl, OldK.of_keep fun b o e => ?_, os, bare⟩
      cases qb : H b with
      | none => exact un.keep b o e qb (fun z => nomatch z) fun z => nomatch z
      | some u =>
        obtain ⟨eb, eu⟩ := S.is b u qb
        subst eb eu
        obtain ⟨e1, _⟩ := hok b _ qb
        obtain ⟨e2, _⟩ := hok' b _ (un.frzs b _ _ qb)
        rw [e] at e1
        cases e1
        exact e2
  cases hk : K.lookup a with
  | some o =>
    have e := KX a o hk
    rw [ha] at e
    cases e
    exact core (fun _ => none) ⟨(fun _ _ z => nomatch z), ha⟩ (.inr ⟨_, vs.toArray, _, hk, rfl, rfl, rfl, by rw [List.size_toArray, lv]; exact hl, by simpa using rv⟩) (fun _ _ z => nomatch z) fun z => absurd rfl z
  | none =>
    have at_ : (fun b => if b = a then some (HO.frz { cls := .type "list", data := .seq vs.toArray } (.lst (ns.map V.int))) else none) a = some (.frz { cls := .type "list", data := .seq vs.toArray } (.lst (ns.map V.int))) := if_pos rfl
    have is : ∀ b u, (fun b => if b = a then some (HO.frz { cls := .type "list", data := .seq vs.toArray } (.lst (ns.map V.int))) else none) b = some u → b = a ∧ u = .frz { cls := .type "list", data := .seq vs.toArray } (.lst (ns.map V.int)) := fun b u z => by
      by_cases hb : b = a
      · exact ⟨hb, (Option.some.inj ((if_pos hb).symm.trans z)).symm⟩
      · cases (if_neg hb).symm.trans z
    refine core _ ⟨is, ha⟩ (.inl ⟨_, at_⟩) (fun b u z => ?_) fun _ => hk
    obtain ⟨e1, e2⟩ := is b u z
    subst e1 e2
    exact ⟨ha, by rw [List.length_map]; exact hl, vs, _, rv, ha⟩
end
/-- a law by the evaluator -/
theorem walk_ev {l : PySem.W.OpenLaw} {n m : Nat} {q : Program} {loose : List Str} {XP : (Str → Option Value) → Heap → Prop} {YP : World → Heap → Prop} {d : DefRec} {f : Nat} {F : Fn}
    (hn : l.most = some n) (hn2 : n ≤ sizeLine) (hdf : d.params.defaults = []) (hr : Room (2 * m + 1) callerA)
    (hX : ∀ (w : World) (mg : Str → Option Value) (fa : Addr) (h : Heap), YP w h → h.Ns mainGlobals mg → mg d.name = some (.ref fa) → ∃ (D : Data) (G : Gm), G.K.In h ∧ Fx D G mg ∧ D.P.fn f = some F ∧ F.np = 1 ∧ G.ga f = fa ∧
      ∀ ns : List Int, ns.length ≤ n → ∃ st, evF D.P m f [.fr (ns.map Val.int)] ⟨0, []⟩ = .ok (.bl true) st) :
    PySem.W.WalkO q loose XP YP l.row.toRowW d [] (fun f vs => PySem.call f vs) := by
  refine Att.attach_call hn hdf fun w s₀ s₁ mg mb fa o pm cd doc a vs ns GG Y ho hd hcd hmg hobj hints hlen hg => ?_
  obtain ⟨D, G, KX, X, hF, h1, hfa, hev⟩ := hX w mg fa _ Y GG.T.g hmg
  subst hfa
  obtain ⟨dd, N, fd, fun_, hb⟩ := X.df f F hF
  obtain ⟨as, q1, q2, _, nd, F'⟩ := defs_ok1 (P := l.prog) (w := w) (base := s₁.heap) X 0 f F hF dd N fd fun_ hb
  rw [h1] at q2
  obtain ⟨a1, rfl⟩ := List.length_eq_one_iff.mp q2
  refine law_callG (k := 2 * m + 1) (CX := L2.CX l.prog w) (sp := spF G (evF D.P m) f) (x := a1.arg) (fd := fd) KX GG.T.g GG.T.b GG.T.builtins GG.T.nolimit hg hobj hints (Nat.le_trans hlen hn2) hr (fun base _ _ => ?_) (fun s u => F'.bindsA (fun kV doc pm an cdv ct us hl => bind_plain hl nd) s [u] rfl) (fun H hH => ?_) fun H e s' h => ?_
  · obtain ⟨as', e1, _, FG, _⟩ := defs_ok1 (P := l.prog) (w := w) (base := base) X m f F hF dd N fd fun_ hb
    rw [q1] at e1
    cases e1
    exact FG
  · obtain ⟨st, he⟩ := hev ns hlen
    refine ⟨⟨fun _ => 0, ⟨0, []⟩, H⟩, [.fr (ns.map Val.int)], rfl, ⟨(fun _ _ z => nomatch z), (fun _ _ _ _ z => nomatch z), (fun _ _ z => nomatch z)⟩, ⟨.ref a, [], rfl, ⟨a, ns.map V.int, rfl, ?_, ?_⟩, rfl⟩, ?_⟩
    · rcases hH with ⟨o, hH⟩ | hH
      · exact .inl ⟨o, hH, fun ⟨_, _, z, _⟩ => nomatch z⟩
      · exact .inr hH
    · have key : ∀ (s : Sit) (l : List Int), Rvs G s (l.map Val.int) (l.map V.int) := fun s l => by
        induction l with
        | nil => rfl
        | cons x r ih => exact ⟨.int x, _, rfl, rfl, ih⟩
      exact key _ _
    · show Out G _ (evF D.P m f [.fr (ns.map Val.int)] ⟨0, []⟩) _ _
      rw [he]
      exact fun t _ _ _ u ru => ru
  · obtain ⟨_, _, _, _, _, _, _, _, _, _, _, _, _, w⟩ := h
end Ev

set_option Elab.async false
set_option linter.all false
set_option maxRecDepth 100000
set_option maxHeartbeats 2000000
/-! Ev.Hook: what stands in the module, by tables that the head checks. -/
namespace Ev
open PySem PySem.Spec PyProof.Rows L2
/-- an own exception class: name, field, parameter, built-in class, base, its __init__ in the list of defs -/
structure Xr where
  c : Nat
  f : Nat
  p : Nat
  k : Tl
  b : Str
  own : Bool
  i : Nat
structure Tb where
  /-- defs: place in the list, Fn, names of the slots -/
  fns : List (Nat × Nat × Fn × List Str) := []
  gf : List Nat := []
  me : List (Nat × List (Nat × Nat)) := []
  ini : List (Nat × Nat) := []
  fd : List (Nat × List Nat) := []
  gc : List (Nat × Val) := []
  xi : List (Nat × Xr) := []
  ist : List (Ty × Ty × Bool) := []
  kls : List Nat := []
theorem lookN_mem {α : Type} {i : Nat} {x : α} : ∀ {l : List (Nat × α)}, lookN i l = some x → (i, x) ∈ l
  | [], h => nomatch h
  | (j, y) :: r, h => by
    have h : (match natEq i j with | true => some y | false => lookN i r) = some x := h
    cases q : natEq i j with
    | true =>
      rw [q] at h
      cases h
      rw [natEq_iff.mp q]
      exact List.mem_cons_self ..
    | false =>
      rw [q] at h
      exact List.mem_cons_of_mem _ (lookN_mem h)
theorem memN_mem {m : Nat} : ∀ {l : List Nat}, memN m l = true → m ∈ l
  | [], h => nomatch h
  | k :: r, h => by
    have h : (match natEq m k with | true => true | false => memN m r) = true := h
    cases q : natEq m k with
    | true => rw [natEq_iff.mp q]; exact List.mem_cons_self ..
    | false =>
      rw [q] at h
      exact List.mem_cons_of_mem _ (memN_mem h)
def btEq : Bt → Bt → Bool
  | .non, .non => true
  | .bl, .bl => true
  | .int, .int => true
  | .str, .str => true
  | .tup, .tup => true
  | .lst, .lst => true
  | .dct, .dct => true
  | .ve, .ve => true
  | .ke, .ke => true
  | .oe, .oe => true
  | .re, .re => true
  | _, _ => false
theorem btEq_ok : ∀ {a b : Bt}, btEq a b = true → a = b := by
  intro a b h
  cases a <;> cases b <;> first | rfl | cases h
def tyEq : Ty → Ty → Bool
  | .b a, .b c => btEq a c
  | .c a, .c c => natEq a c
  | _, _ => false
theorem tyEq_ok : ∀ {a b : Ty}, tyEq a b = true → a = b
  | .b a, .b c, h => by rw [btEq_ok (show btEq a c = true from h)]
  | .c a, .c c, h => by rw [natEq_iff.mp (show natEq a c = true from h)]
  | .b _, .c _, h => nomatch h
  | .c _, .b _, h => nomatch h
def lookT (u t : Ty) : List (Ty × Ty × Bool) → Option Bool
  | [] => none
  | (a, c, r) :: l => match tyEq u a && tyEq t c with
    | true => some r
    | false => lookT u t l
theorem lookT_mem {u t : Ty} {r : Bool} : ∀ {l : List (Ty × Ty × Bool)}, lookT u t l = some r → (u, t, r) ∈ l
  | [], h => nomatch h
  | (a, c, x) :: l, h => by
    have h : (match tyEq u a && tyEq t c with | true => some x | false => lookT u t l) = some r := h
    cases q : tyEq u a && tyEq t c with
    | true =>
      rw [q] at h
      cases h
      obtain ⟨h1, h2⟩ := dec2 q
      rw [tyEq_ok h1, tyEq_ok h2]
      exact List.mem_cons_self ..
    | false =>
      rw [q] at h
      exact List.mem_cons_of_mem _ (lookT_mem h)
def Tb.tab (T : Tb) : Tab where
  me := fun c m => match lookN c T.me with
    | some l => lookN m l
    | none => none
  ini := fun c => lookN c T.ini
  fd := fun c => match lookN c T.fd with
    | some l => l
    | none => []
  gc := fun k => match lookN k T.gc with
    | some v => v
    | none => .non
  xi := fun c => match lookN c T.xi with
    | some x => some x.f
    | none => none
  xp := fun c => match lookN c T.xi with
    | some x => some x.p
    | none => none
  isT := fun u t => lookT u t T.ist
def Tb.fn (T : Tb) (f : Nat) : Option Fn := match lookN f T.fns with
  | some (_, F, _) => some F
  | none => none
def Tb.data (T : Tb) (w : Nat) : Data where
  P := ⟨T.tab, T.fn, w⟩
  gf := fun f => memN f T.gf
  isC := fun k => match lookN k T.gc with
    | some _ => true
    | none => false
  isK := fun k => memN k T.kls
def placeOf (ds : List He.DefD) (T : Tb) (f : Nat) : Str × Option Str := match lookN f T.fns with
  | some (i, _, _) => (match ds[i]? with
    | some d => d.at_
    | none => ("", none))
  | none => ("", none)
def gmOf (ds : List He.DefD) (T : Tb) (K : PySem.W.Frag) : Gm := ⟨K, fun f => He.fAd K (placeOf ds T f), fun c => He.ga K (nt c)⟩
/-! ### constants -/
mutual
def cstB (K : PySem.W.Frag) : Val → Value → Bool
  | .non, .none => true
  | .bl b, .bool c => b == c
  | .int i, .int j _ => decide (i = j)
  | .str x, .str y _ => decide (x = y)
  | .tup xs, .ref a => (match K.lookup a with
    | some ⟨.type c, _, .seq its _, _⟩ => decide (c = "tuple") && (decide (its.size ≤ sizeLine) && cstBs K xs its.toList)
    | _ => false)
  | .fr xs, .ref a => (match K.lookup a with
    | some ⟨.type c, none, .seq its _, _⟩ => decide (c = "list") && (decide (its.size ≤ sizeLine) && cstBs K xs its.toList)
    | _ => false)
  | _, _ => false
def cstBs (K : PySem.W.Frag) : List Val → List Value → Bool
  | [], [] => true
  | x :: xs, u :: us => cstB K x u && cstBs K xs us
  | _, _ => false
end
mutual
theorem cst_ok {G : Gm} : ∀ {x : Val} {u : Value}, cstB G.K x u = true → ∃ v, RelV v u ∧ ∀ s : Sit, Rv G s x v
  | .non, u, h => by cases u <;> first | exact ⟨.non, rfl, fun _ => rfl⟩ | cases h
  | .bl b, u, h => by
    cases u with
    | bool c => exact ⟨.bl b, by rw [eq_of_beq (show (b == c) = true from h)]; rfl, fun _ => rfl⟩
    | _ => cases h
  | .int i, u, h => by
    cases u with
    | int j t => exact ⟨.int i, ⟨t, by rw [of_decide_eq_true (show decide (i = j) = true from h)]⟩, fun _ => rfl⟩
    | _ => cases h
  | .str x, u, h => by
    cases u with
    | str y t => exact ⟨.str x, ⟨t, by rw [of_decide_eq_true (show decide (x = y) = true from h)]⟩, fun _ => rfl⟩
    | _ => cases h
  | .tup xs, u, h => by
    cases u with
    | ref a =>
      have h : (match G.K.lookup a with
        | some ⟨.type c, _, .seq its _, _⟩ => decide (c = "tuple") && (decide (its.size ≤ sizeLine) && cstBs G.K xs its.toList)
        | _ => false) = true := h
      split at h
      · rename_i c od its n osl e
        obtain ⟨h1, h⟩ := dec2 h
        obtain ⟨h2, h3⟩ := dec2 h
        obtain ⟨vs, r1, r2⟩ := csts_ok h3
        exact ⟨.ref a, rfl, fun s => ⟨a, vs, rfl, .inr ⟨_, its, n, e, congrArg Value.type (of_decide_eq_true h1), rfl, of_decide_eq_true h2, r1⟩, r2 s⟩⟩
      · cases h
    | _ => cases h
  | .fr xs, u, h => by
    cases u with
    | ref a =>
      have h : (match G.K.lookup a with
        | some ⟨.type c, none, .seq its _, _⟩ => decide (c = "list") && (decide (its.size ≤ sizeLine) && cstBs G.K xs its.toList)
        | _ => false) = true := h
      split at h
      · rename_i c its n osl e
        obtain ⟨h1, h⟩ := dec2 h
        obtain ⟨h2, h3⟩ := dec2 h
        obtain ⟨vs, r1, r2⟩ := csts_ok h3
        exact ⟨.ref a, rfl, fun s => ⟨a, vs, rfl, .inr ⟨_, its, n, e, congrArg Value.type (of_decide_eq_true h1), rfl, rfl, of_decide_eq_true h2, r1⟩, r2 s⟩⟩
      · cases h
    | _ => cases h
  | .lst xs, u, h => by cases u <;> cases h
  | .dct xs, u, h => by cases u <;> cases h
  | .ins _ xs, u, h => by cases u <;> cases h
  | .exo _ _ _, u, h => by cases u <;> cases h
  | .ref _, u, h => by cases u <;> cases h
  | .gl _, u, h => by cases u <;> cases h
theorem csts_ok {G : Gm} : ∀ {xs : List Val} {us : List Value}, cstBs G.K xs us = true → ∃ vs, Vals vs us ∧ ∀ s : Sit, Rvs G s xs vs
  | [], [], _ => ⟨[], .nil, fun _ => rfl⟩
  | [], _ :: _, h => nomatch h
  | _ :: _, [], h => nomatch h
  | x :: xs, u :: us, h => by
    obtain ⟨h1, h2⟩ := dec2 (show (cstB G.K x u && cstBs G.K xs us) = true from h)
    obtain ⟨v, a1, a2⟩ := cst_ok h1
    obtain ⟨vs, b1, b2⟩ := csts_ok h2
    exact ⟨v :: vs, .cons a1 b1, fun s => ⟨v, vs, rfl, a2 s, b2 s⟩⟩
end
/-! ### what the head asks -/
def isMg (K : PySem.W.Frag) (x : Str) (a : Addr) : Bool := decide (PySem.W.nsIn K mainGlobals x = some (some (.ref a)))
def noDbg (x : Str) : Bool := !(x == ("__debug__" : Str))
theorem noDbg_ok {x : Str} (h : noDbg x = true) : (x == ("__debug__" : Str)) = false := not_of' h
def clsB (K : PySem.W.Frag) (C : Addr) : Bool := PySem.W.plainGet K C Str.empty && (PySem.W.hasDictIn K C && (PySem.W.plainOver K C && decide (PySem.W.findIn K (.ref C) "__setattr__" = some (some (.builtin "object.__setattr__")))))
theorem clsB_ok {K : PySem.W.Frag} {C : Addr} (h : clsB K C = true) : Cls K C := by
  obtain ⟨h1, h⟩ := dec2 h
  obtain ⟨h2, h⟩ := dec2 h
  obtain ⟨h3, h4⟩ := dec2 h
  exact ⟨h1, h2, h3, of_decide_eq_true h4⟩
def methB (K : PySem.W.Frag) (C : Addr) (m : Str) (f : Addr) : Bool := decide (PySem.W.findIn K (.ref C) m = some (some (.ref f))) && (PySem.W.isFn K (.ref f) && PySem.W.keepIn K (.ref f))
theorem methB_ok {K : PySem.W.Frag} {C : Addr} {m : Str} {f : Addr} (h : methB K C m f = true) : Meth K C m f := by
  obtain ⟨h1, h⟩ := dec2 h
  obtain ⟨h2, h3⟩ := dec2 h
  exact ⟨of_decide_eq_true h1, h2, h3⟩
def mkB (K : PySem.W.Frag) (C f : Addr) : Bool := PySem.W.makesIn K C && (decide (PySem.W.findIn K (.ref C) "__init__" = some (some (.ref f))) && (PySem.W.isFn K (.ref f) && PySem.W.keepIn K (.ref C)))
theorem mkB_ok {K : PySem.W.Frag} {C f : Addr} (h : mkB K C f = true) : Mk K C f := by
  obtain ⟨h1, h⟩ := dec2 h
  obtain ⟨h2, h⟩ := dec2 h
  obtain ⟨h3, h4⟩ := dec2 h
  exact ⟨h1, of_decide_eq_true h2, h3, h4⟩
def fcB (K : PySem.W.Frag) (C : Value) (k : Tl) : Bool := match PySem.W.findCls K C (.type "type") "__init__" with
  | some (.val (.builtin n)) => decide (n = k.ini)
  | _ => false
theorem fcB_ok {K : PySem.W.Frag} {C : Value} {k : Tl} (h : fcB K C k = true) : PySem.W.findCls K C (.type "type") "__init__" = some (.val (.builtin k.ini)) := by
  unfold fcB at h
  split at h
  · rename_i n e
    rw [e, of_decide_eq_true h]
  · cases h
def baseB (K : PySem.W.Frag) (k : Tl) (b : Str) : Bool → Bool
  | true => isMg K b (He.ga K b) && (noDbg b && (PySem.W.readsIn K (He.ga K b) (.type "type") && (fcB K (.ref (He.ga K b)) k && decide (PySem.W.specialIn K (.ref (He.ga K b)) "__getattribute__" = some (some (.builtin "type.__getattribute__"))))))
  | false => decide (b = Str.ofString k.T) && (decide (PySem.W.nsIn K mainGlobals b = some none) && fcB K (.type k.T) k)
section
variable {K : PySem.W.Frag} {h : Heap} {mg : Str → Option Value}
theorem isMg_ok (X : K.In h) (G : h.Ns mainGlobals mg) {x : Str} {a : Addr} (c : isMg K x a = true) : mg x = some (.ref a) := PySem.W.mg_of X G (of_decide_eq_true c)
theorem baseB_ok (X : K.In h) (G : h.Ns mainGlobals mg) {k : Tl} {b : Str} : ∀ {o : Bool}, baseB K k b o = true → BaseAt K mg k b
  | true, c => by
    obtain ⟨h1, c⟩ := dec2 (show (isMg K b (He.ga K b) && (noDbg b && (PySem.W.readsIn K (He.ga K b) (.type "type") && (fcB K (.ref (He.ga K b)) k && decide (PySem.W.specialIn K (.ref (He.ga K b)) "__getattribute__" = some (some (.builtin "type.__getattribute__"))))))) = true from c)
    obtain ⟨h2, c⟩ := dec2 c
    obtain ⟨h3, c⟩ := dec2 c
    obtain ⟨h4, h5⟩ := dec2 c
    exact .own _ (isMg_ok X G h1) (noDbg_ok h2) h3 (fcB_ok h4) (of_decide_eq_true h5)
  | false, c => by
    obtain ⟨h1, c⟩ := dec2 (show (decide (b = Str.ofString k.T) && (decide (PySem.W.nsIn K mainGlobals b = some none) && fcB K (.type k.T) k)) = true from c)
    obtain ⟨h2, h3⟩ := dec2 c
    exact .blt (of_decide_eq_true h1) (PySem.W.mg_none_of X G (of_decide_eq_true h2)) (fcB_ok h3)
end
def isFnB (T : Tb) (f : Nat) : Bool := match T.fn f with
  | some _ => true
  | none => false
theorem isFnB_ok {T : Tb} {f : Nat} (h : isFnB T f = true) : ∃ F, T.fn f = some F := by
  unfold isFnB at h
  split at h
  · exact ⟨_, by assumption⟩
  · cases h
def initAt (ds : List He.DefD) (K : PySem.W.Frag) (i : Nat) : Addr := match ds[i]? with
  | some d => He.fAd K d.at_
  | none => 0
/-- the heap's part -/
def qB (ds : List He.DefD) (T : Tb) (K : PySem.W.Frag) : Bool :=
  (blN.all fun x => decide (PySem.W.nsIn K mainGlobals x = some none)) && ((T.gf.all fun f => isMg K (nt f) (He.fAd K (placeOf ds T f))) && ((T.me.all fun y => clsB K (He.ga K (nt y.1)) && y.2.all fun z => methB K (He.ga K (nt y.1)) (nt z.1) (He.fAd K (placeOf ds T z.2))) &&
    ((T.ini.all fun y => isMg K (nt y.1) (He.ga K (nt y.1)) && mkB K (He.ga K (nt y.1)) (He.fAd K (placeOf ds T y.2))) && ((T.fd.all fun y => clsB K (He.ga K (nt y.1)) && y.2.all fun m => decide (PySem.W.findIn K (.ref (He.ga K (nt y.1))) (nt m) = some none)) &&
      ((T.gc.all fun y => match PySem.W.nsIn K mainGlobals (nt y.1) with
        | some (some u) => cstB K y.2 u
        | _ => false) && ((T.xi.all fun y => xcB K (He.ga K (nt y.1)) y.2.k && (baseB K y.2.k y.2.b y.2.own && (decide (PySem.W.findIn K (.ref (He.ga K (nt y.1))) "__init__" = some (some (.ref (initAt ds K y.2.i)))) && (decide (PySem.W.typeIn K (.ref (initAt ds K y.2.i)) = some (.type "function")) &&
          (isMg K (nt y.1) (He.ga K (nt y.1)) && decide (PySem.W.findIn K (.ref (He.ga K (nt y.1))) (nt y.2.f) = some none)))))) &&
        ((T.ist.all fun y => decide (PySem.W.kitOne K (tyV (gmOf ds T K) y.1) (tyV (gmOf ds T K) y.2.1) = some y.2.2) && (match y.1 with
          | .c c => excB K (He.ga K (nt c))
          | .b _ => true)) && T.kls.all fun k => isMg K (nt k) (He.ga K (nt k)))))))))
/-- the text's part -/
def sB (ds : List He.DefD) (T : Tb) (w : Nat) : Bool :=
  (T.fns.all fun y => match ds[y.2.1]? with
    | some d => defB (T.data w) y.2.2.2 y.2.2.1 d
    | none => false) && ((T.gf.all fun f => noDbg (nt f)) && ((T.me.all fun y => y.2.all fun z => isFnB T z.2) && ((T.ini.all fun y => noDbg (nt y.1) && isFnB T y.2) && ((T.gc.all fun y => noDbg (nt y.1)) && ((T.kls.all fun k => noDbg (nt k)) &&
      T.xi.all fun y => match ds[y.2.i]? with
        | some d => iniB y.2.b (nt y.2.f) d && (noDbg (nt y.1) && (match plainPs d.params with
          | some as => (match (as.map (·.arg))[1]? with
            | some x => strEq x (nt y.2.p)
            | none => false)
          | none => false))
        | none => false)))))
/-- every def of the list is a function object of the heap -/
def AllD (ds : List He.DefD) (K : PySem.W.Frag) : Prop := ∀ (i : Nat) (d : He.DefD), ds[i]? = some d → ∃ fd, FunD K d.name d.qual d.params d.body d.scope (d.dvs K) (d.kws K) (He.fAd K d.at_) fd
theorem fx_of {ds : List He.DefD} {T : Tb} {w : Nat} {K : PySem.W.Frag} {h : Heap} {mg : Str → Option Value} (X : K.In h) (N : h.Ns mainGlobals mg) (hq : qB ds T K = true) (hs : sB ds T w = true) (hd : AllD ds K) : Fx (T.data w) (gmOf ds T K) mg := by
  obtain ⟨q1, hq⟩ := dec2 hq
  obtain ⟨q2, hq⟩ := dec2 hq
  obtain ⟨q3, hq⟩ := dec2 hq
  obtain ⟨q4, hq⟩ := dec2 hq
  obtain ⟨q5, hq⟩ := dec2 hq
  obtain ⟨q6, hq⟩ := dec2 hq
  obtain ⟨q7, hq⟩ := dec2 hq
  obtain ⟨q8, q9⟩ := dec2 hq
  obtain ⟨s1, hs⟩ := dec2 hs
  obtain ⟨s2, hs⟩ := dec2 hs
  obtain ⟨s3, hs⟩ := dec2 hs
  obtain ⟨s4, hs⟩ := dec2 hs
  obtain ⟨s5, hs⟩ := dec2 hs
  obtain ⟨s6, s7⟩ := dec2 hs
  refine ⟨fun x hx => ?_, fun f hf => ?_, fun c m f hf => ?_, fun c f hf => ?_, fun c m hm => ?_, fun k hk => ?_, fun c f hf => ?_, fun u t b ht => ?_, fun k hk => ?_, fun f F hF => ?_⟩
  · exact PySem.W.mg_none_of X N (of_decide_eq_true (List.all_eq_true.mp q1 x hx))
  · have m := memN_mem (show memN f T.gf = true from hf)
    exact ⟨isMg_ok X N (List.all_eq_true.mp q2 f m), noDbg_ok (List.all_eq_true.mp s2 f m)⟩
  · have hf : (match lookN c T.me with | some l => lookN m l | none => none) = some f := hf
    split at hf
    · rename_i l e
      have m1 := lookN_mem e
      have m2 := lookN_mem hf
      obtain ⟨a1, a2⟩ := dec2 (List.all_eq_true.mp q3 _ m1)
      exact ⟨clsB_ok a1, methB_ok (List.all_eq_true.mp a2 _ m2), isFnB_ok (List.all_eq_true.mp (List.all_eq_true.mp s3 _ m1) _ m2)⟩
    · cases hf
  · have m := lookN_mem (show lookN c T.ini = some f from hf)
    obtain ⟨a1, a2⟩ := dec2 (List.all_eq_true.mp q4 _ m)
    obtain ⟨b1, b2⟩ := dec2 (List.all_eq_true.mp s4 _ m)
    exact ⟨mkB_ok a2, isMg_ok X N a1, noDbg_ok b1, isFnB_ok b2⟩
  · have hm : memN m (match lookN c T.fd with | some l => l | none => []) = true := hm
    split at hm
    · rename_i l e
      have m1 := lookN_mem e
      obtain ⟨a1, a2⟩ := dec2 (List.all_eq_true.mp q5 _ m1)
      exact ⟨clsB_ok a1, of_decide_eq_true (p := PySem.W.findIn K (.ref (He.ga K (nt c))) (nt m) = some none) (List.all_eq_true.mp a2 _ (memN_mem hm))⟩
    · cases hm
  · have hk : (match lookN k T.gc with | some _ => true | none => false) = true := hk
    split at hk
    · rename_i x e
      have m := lookN_mem e
      have a := List.all_eq_true.mp q6 _ m
      have b := List.all_eq_true.mp s5 _ m
      have eg : (T.data w).P.T.gc k = x := by
        show (match lookN k T.gc with | some v => v | none => Val.non) = x
        rw [e]
      split at a
      · rename_i u e2
        obtain ⟨v, r1, r2⟩ := cst_ok (G := gmOf ds T K) a
        exact ⟨v, u, PySem.W.mg_of X N e2, r1, noDbg_ok b, fun s => by rw [eg]; exact r2 s⟩
      · cases a
    · cases hk
  · have hf : (match lookN c T.xi with | some x => some x.f | none => none) = some f := hf
    split at hf
    · rename_i x e
      cases hf
      have m := lookN_mem e
      obtain ⟨a1, a⟩ := dec2 (List.all_eq_true.mp q7 _ m)
      obtain ⟨a2, a⟩ := dec2 a
      obtain ⟨a3, a⟩ := dec2 a
      obtain ⟨a4, a⟩ := dec2 a
      obtain ⟨a5, a6⟩ := dec2 a
      have b := List.all_eq_true.mp s7 _ m
      split at b
      · rename_i d ed
        obtain ⟨b1, b⟩ := dec2 b
        obtain ⟨b2, b3⟩ := dec2 b
        obtain ⟨fd, F⟩ := hd _ d ed
        have ei : initAt ds K x.i = He.fAd K d.at_ := by
          unfold initAt
          rw [ed]
        have a3 := of_decide_eq_true a3
        have a4 := of_decide_eq_true a4
        rw [ei] at a3 a4
        refine ⟨x.k, d, _, fd, x.b, F, b1, xcB_ok a1, baseB_ok X N a2, a3, a4, isMg_ok X N a5, noDbg_ok b2, of_decide_eq_true a6, fun y hy => ?_⟩
        have hy : (match lookN c T.xi with | some x => some x.p | none => none) = some y := hy
        rw [e] at hy
        cases hy
        split at b3
        · rename_i as e1
          split at b3
          · rename_i z e2
            exact ⟨as, e1, by rw [e2, strEq_iff.mp b3]⟩
          · cases b3
        · cases b3
      · cases b
    · cases hf
  · have m := lookT_mem (show lookT u t T.ist = some b from ht)
    obtain ⟨a1, a2⟩ := dec2 (List.all_eq_true.mp q8 _ m)
    refine ⟨of_decide_eq_true a1, fun c e => ?_⟩
    subst e
    exact excB_ok a2
  · have m := memN_mem (show memN k T.kls = true from hk)
    exact ⟨isMg_ok X N (List.all_eq_true.mp q9 k m), noDbg_ok (List.all_eq_true.mp s6 k m)⟩
  · have hF : (match lookN f T.fns with | some (_, F, _) => some F | none => none) = some F := hF
    split at hF
    · rename_i i F' Ns e
      cases hF
      have b := List.all_eq_true.mp s1 _ (lookN_mem e)
      split at b
      · rename_i d ed
        obtain ⟨fd, FF⟩ := hd _ d ed
        refine ⟨d, Ns, fd, ?_, b⟩
        have ea : (gmOf ds T K).ga f = He.fAd K d.at_ := by
          show He.fAd K (placeOf ds T f) = _
          unfold placeOf
          rw [e]
          dsimp only at ed ⊢
          rw [ed]
        rw [ea]
        exact FF
      · cases b
    · cases hF
/-! ### the Hook -/
/-- what the module's names reach, and the table of what is fixed -/
def asQ (g : Addr → Option Obj) : Nat → List Addr
  | 0 => [mainGlobals, cStatics]
  | n + 1 => He.growD g (asQ g n)
abbrev AlQ : Type := Bool × List He.FnW
def obsQ (q : PySem.W.Frag → Bool) (ds : List He.DefD) (K : PySem.W.Frag) : AlQ := (q K && ds.all fun d => d.ok K, ds.map fun d => He.fnW K d.at_)
def valQ (ds : List He.DefD) : AlQ := (true, ds.map He.DefD.val)
def obsQG (n : Nat) (q : PySem.W.Frag → Bool) (ds : List He.DefD) (g : Addr → Option Obj) : AlQ := obsQ q ds (He.frG g (asQ g n))
def hookQ (n : Nat) (q : PySem.W.Frag → Bool) (ds : List He.DefD) : PySem.W.Hook where
  α := AlQ
  obs := fun s => obsQG n q ds s.heap.get?
  val := fun _ => valQ ds
  says := fun _ h => ∃ K : PySem.W.Frag, K.In h ∧ obsQ q ds K = valQ ds
  of := fun _ _ e => ⟨_, He.frG_in, e⟩
  keeps := fun _ _ _ ⟨K, hK, c⟩ k => ⟨K, PySem.W.Frag.In.keeps hK k, c⟩
theorem obsQG_eq {n : Nat} {q : PySem.W.Frag → Bool} {ds : List He.DefD} {g : Addr → Option Obj} {s : Shared} (h : ∀ a, g a = s.heap.get? a) : obsQG n q ds g = (hookQ n q ds).obs s := by
  have e : g = s.heap.get? := funext h
  rw [e] <;> rfl
theorem saysQ {q : PySem.W.Frag → Bool} {ds : List He.DefD} {K : PySem.W.Frag} (c : obsQ q ds K = valQ ds) : q K = true ∧ AllD ds K := by
  have c1 : (q K && ds.all fun d => d.ok K) = true := congrArg (fun z : AlQ => z.1) c
  obtain ⟨h1, h2⟩ := dec2 c1
  refine ⟨h1, fun i d h => ?_⟩
  have e : ds.map (fun d => He.fnW K d.at_) = ds.map He.DefD.val := congrArg (fun z : AlQ => z.2) c
  have e2 : (ds.map fun d => He.fnW K d.at_)[i]? = (ds.map He.DefD.val)[i]? := by rw [e]
  rw [List.getElem?_map, List.getElem?_map, h] at e2
  exact He.DefD.funD (Option.some.inj e2) (List.all_eq_true.mp h2 d (List.mem_of_getElem? h))
end Ev

set_option Elab.async false
set_option linter.all false
set_option maxRecDepth 100000
set_option maxHeartbeats 2000000
/-! Ev.Plain: what the laws' pool and draw compute. -/
namespace Ev
open PySem PySem.Spec PyProof.Rows L2
def poolF : Fn := ⟨2, 5, [.asg (.v 2) (.ite (.cmp .lt (.v 1) (.bi .len [(.v 0)])) (.ix (.v 0) (.v 1)) (.bin .add (.bin .mul (.c (.int 7)) (.bi .sum [(.sl (.v 0) [] [(.c (.int 63))])])) (.v 1))),
  .asg (.v 3) (.bi .abs [(.v 2)]),
  .asg (.v 4) (.bin .add (.bin .add (.bin .add (.bin .mod (.bi .int [(.v 3)]) (.c (.int 2147483629))) (.bin .mul (.bin .mul (.c (.int 7919)) (.v 1)) (.v 1))) (.bin .mul (.c (.int 31)) (.v 1))) (.c (.int 17))),
  .asg (.v 4) (.bin .mod (.bi .int [(.bin .mul (.v 4) (.c (.int 48271)))]) (.c (.int 2147483647))),
  .ret (.lst false [(.bin .mul (.v 3) (.bi .int [(.cmp .ge (.v 3) (.bin .pow (.c (.int 10)) (.c (.int 18))))])), (.bin .mod (.bi .int [(.bin .mul (.v 4) (.v 4))]) (.c (.int 2147483629)))])]⟩
def drawF : Fn := ⟨2, 3, [.ifs (.cmp .gt (.ix (.v 0) (.c (.int 0))) (.c (.int 0))) [.asg (.v 2) (.bin .mod (.bi .int [(.ix (.v 0) (.c (.int 0)))]) (.v 1)), .sets (.v 0) (.c (.int 0)) (.bin .fdiv (.ix (.v 0) (.c (.int 0))) (.v 1)), .ret (.v 2)] [],
  .sets (.v 0) (.c (.int 1)) (.bin .mod (.bi .int [(.bin .add (.bin .mul (.ix (.v 0) (.c (.int 1))) (.c (.int 48271))) (.c (.int 11)))]) (.c (.int 2147483647))),
  .ret (.bin .mod (.bi .int [(.bin .fdiv (.bin .mod (.bi .int [(.bin .mul (.ix (.v 0) (.c (.int 1))) (.ix (.v 0) (.c (.int 1))))]) (.c (.int 2147483629))) (.c (.int 16)))]) (.v 1))]⟩
section
variable {T : Tab} {cf : CF} {w : Nat} {env e1 e2 : Env} {s s1 s2 s3 : St} {x y z : Val}
theorem r_v {i : Nat} (h : env[i]? = some (some x)) : evE T cf (.v i) env s = .ok x s := by
  show (match env[i]? with | some (some x) => R.ok x s | _ => .bad) = _
  rw [h]
theorem r_bin {op : Op} {a b : E} (h1 : evE T cf a env s = .ok x s1) (h2 : evE T cf b env s1 = .ok y s2) (h3 : binV op s2 x y = .ok z s3) : evE T cf (.bin op a b) env s = .ok z s3 := by
  show (evE T cf a env s).andThen _ = _
  rw [h1]
  show (evE T cf b env s1).andThen _ = _
  rw [h2]
  exact h3
theorem r_cmp {op : Cm} {a b : E} (h1 : evE T cf a env s = .ok x s1) (h2 : evE T cf b env s1 = .ok y s2) (h3 : cmpV op s2 x y = .ok z s3) : evE T cf (.cmp op a b) env s = .ok z s3 := by
  show (evE T cf a env s).andThen _ = _
  rw [h1]
  show (evE T cf b env s1).andThen _ = _
  rw [h2]
  exact h3
theorem r_ix {a b : E} (h1 : evE T cf a env s = .ok x s1) (h2 : evE T cf b env s1 = .ok y s2) (h3 : ixV s2 x y = .ok z s3) : evE T cf (.ix a b) env s = .ok z s3 := by
  show (evE T cf a env s).andThen _ = _
  rw [h1]
  show (evE T cf b env s1).andThen _ = _
  rw [h2]
  exact h3
theorem r_bi1 {b : Bi} {a : E} (h1 : evE T cf a env s = .ok x s1) (h3 : biV b s1 [x] = .ok z s3) : evE T cf (.bi b [a]) env s = .ok z s3 := by
  show ((evE T cf a env s).andThen fun x s1 => ((R.ok [] s1 : R (List Val)).andThen fun xs s2 => .ok (x :: xs) s2)).andThen _ = _
  rw [h1]
  exact h3
theorem r_bi2 {b : Bi} {a a' : E} (h1 : evE T cf a env s = .ok x s1) (h2 : evE T cf a' env s1 = .ok y s2) (h3 : biV b s2 [x, y] = .ok z s3) : evE T cf (.bi b [a, a']) env s = .ok z s3 := by
  show ((evE T cf a env s).andThen fun x s1 => ((evE T cf a' env s1).andThen fun x s1 => ((R.ok [] s1 : R (List Val)).andThen fun xs s2 => .ok (x :: xs) s2)).andThen fun xs s2 => .ok (x :: xs) s2).andThen _ = _
  rw [h1]
  show (((evE T cf a' env s1).andThen _).andThen _).andThen _ = _
  rw [h2]
  exact h3
theorem r_ite {c a b : E} {k : Bool} (h1 : evE T cf c env s = .ok x s1) (h2 : truV s1 x = some k) (ht : k = true → evE T cf a env s1 = .ok z s3) (hf : k = false → evE T cf b env s1 = .ok z s3) : evE T cf (.ite c a b) env s = .ok z s3 := by
  show (evE T cf c env s).andThen _ = _
  rw [h1]
  show (match truV s1 x with | some true => evE T cf a env s1 | some false => evE T cf b env s1 | none => .bad) = _
  rw [h2]
  cases k with
  | true => exact ht rfl
  | false => exact hf rfl
theorem r_asg {tg : Tg} {e : E} (h1 : evE T cf e env s = .ok x s1) (h2 : tgV tg x env = some e1) : evS T cf w (.asg tg e) env s = .ok (.nx e1) s1 := by
  show (evE T cf e env s).andThen _ = _
  rw [h1]
  show (onF (tgV tg x env) fun env1 => .ok (.nx env1) s1) = _
  rw [h2]
  rfl
theorem r_sets {o i e : E} {p k v : Val} {s4 : St} (h1 : evE T cf e env s = .ok x s1) (h2 : evE T cf o env s1 = .ok p s2) (h3 : evE T cf i env s2 = .ok k s3) (h4 : setV s3 p k x = .ok v s4) : evS T cf w (.sets o i e) env s = .ok (.nx env) s4 := by
  show (evE T cf e env s).andThen _ = _
  rw [h1]
  show (evE T cf o env s1).andThen _ = _
  rw [h2]
  show (evE T cf i env s2).andThen _ = _
  rw [h3]
  show (setV s3 p k x).andThen _ = _
  rw [h4]
  rfl
theorem r_ret {e : E} (h : evE T cf e env s = .ok x s1) : evSs T cf w [.ret e] env s = .ok (.ret x) s1 := by
  show (evE T cf e env s).andThen _ = _
  rw [h]
  rfl
theorem r_cons {a b : S} {r : List S} {z : R Fl} (h : evS T cf w a env s = .ok (.nx e1) s1) (h2 : evSs T cf w (b :: r) e1 s1 = z) : evSs T cf w (a :: b :: r) env s = z := by
  show seqV (evS T cf w a env s) _ = _
  rw [h]
  exact h2
theorem r_stop {a b : S} {r : List S} (h : evS T cf w a env s = .ok (.ret x) s1) : evSs T cf w (a :: b :: r) env s = .ok (.ret x) s1 := by
  show seqV (evS T cf w a env s) _ = _
  rw [h]
  rfl
theorem r_ifs {c : E} {a b : List S} {k : Bool} {z : R Fl} (h1 : evE T cf c env s = .ok x s1) (h2 : truV s1 x = some k) (ht : k = true → evSs T cf w a env s1 = z) (hf : k = false → evSs T cf w b env s1 = z) : evS T cf w (.ifs c a b) env s = z := by
  show (evE T cf c env s).andThen _ = _
  rw [h1]
  show (match truV s1 x with | some true => evSs T cf w a env s1 | some false => evSs T cf w b env s1 | none => .bad) = _
  rw [h2]
  cases k with
  | true => exact ht rfl
  | false => exact hf rfl
theorem r_app {b : S} {r : List S} {z : R Fl} : ∀ {l : List S} {env : Env} {s : St}, evSs T cf w l env s = .ok (.nx e1) s1 → evSs T cf w (b :: r) e1 s1 = z → evSs T cf w (l ++ b :: r) env s = z
  | [], env, s, h1, h2 => by
    have h1 : (R.ok (Fl.nx env) s) = .ok (.nx e1) s1 := h1
    cases h1
    exact h2
  | [a], env, s, h1, h2 => r_cons h1 h2
  | a :: a' :: l, env, s, h1, h2 => by
    have h1 : seqV (evS T cf w a env s) (fun e t => evSs T cf w (a' :: l) e t) = .ok (.nx e1) s1 := h1
    show seqV (evS T cf w a env s) (fun e t => evSs T cf w (a' :: (l ++ b :: r)) e t) = z
    cases q : evS T cf w a env s with
    | bad => rw [q] at h1; cases h1
    | exc c v t => rw [q] at h1; cases h1
    | ok f t =>
      rw [q] at h1
      cases f with
      | nx e => exact r_app (l := a' :: l) h1 h2
      | ret v => cases h1
      | brk e => cases h1
      | cnt e => cases h1
theorem r_fn {P : Prog} {m f : Nat} {F : Fn} {xs : List Val} (hF : P.fn f = some F) (hl : xs.length = F.np) (h : evSs P.T (evF P m) P.w F.body (startE F xs) s = .ok (.ret x) s1) : evF P (m + 1) f xs s = .ok x s1 := by
  show (match P.fn f with
    | some F => match natEq xs.length F.np with
      | true => (evSs P.T (evF P m) P.w F.body (startE F xs) s).andThen fun r t => match r with
        | .ret v => .ok v t
        | .nx _ => .ok .non t
        | _ => .bad
      | false => .bad
    | none => .bad) = _
  rw [hF]
  show (match natEq xs.length F.np with
      | true => (evSs P.T (evF P m) P.w F.body (startE F xs) s).andThen fun r t => match r with
        | .ret v => .ok v t
        | .nx _ => .ok .non t
        | _ => .bad
      | false => .bad) = _
  rw [natEq_iff.mpr hl, h]
  rfl
end
/-! ### pool -/
theorem smallI_of {i : Int} (h1 : -(2 ^ 64) < i) (h2 : i < 2 ^ 64) : smallI i = true := by
  unfold smallI
  rw [decide_eq_true h1, decide_eq_true h2]
  rfl
theorem mul_r {s : St} {i j : Int} (h : smallI j = true) : binV .mul s (.int i) (.int j) = .ok (.int (i * j)) s := by
  show (match smallI i || smallI j with | true => R.ok (Val.int (i * j)) s | false => .bad) = _
  rw [h, Bool.or_true]
theorem mul_l {s : St} {i j : Int} (h : smallI i = true) : binV .mul s (.int i) (.int j) = .ok (.int (i * j)) s := by
  show (match smallI i || smallI j with | true => R.ok (Val.int (i * j)) s | false => .bad) = _
  rw [h, Bool.true_or]
theorem mod_r {s : St} {i j : Int} (h : 0 < j) : binV .mod s (.int i) (.int j) = .ok (.int (i % j)) s := by
  show (match decide (0 < j) with | true => R.ok (Val.int (i % j)) s | false => .bad) = _
  rw [decide_eq_true h]
theorem fdiv_r {s : St} {i j : Int} (h : 0 < j) (h2 : j < 1073741824) : binV .fdiv s (.int i) (.int j) = .ok (.int (i / j)) s := by
  show (match decide (0 < j) && decide (j < 1073741824) with | true => R.ok (Val.int (i / j)) s | false => .bad) = _
  rw [decide_eq_true h, decide_eq_true h2]
  rfl
theorem ints_map : ∀ ns : List Int, intsV (ns.map Val.int) = some ns
  | [] => rfl
  | n :: r => by
    show (intsV (r.map Val.int)).map (fun t => n :: t) = _
    rw [ints_map r]
    rfl
theorem mod_small {i j : Int} (h : 0 < j) (h2 : j < 2 ^ 64) : smallI (i % j) = true := smallI_of (by have := Int.emod_nonneg i (b := j) (by omega); omega) (by have := Int.emod_lt_of_pos i h; omega)

theorem cutL_map {α β : Type} (f : α → β) (xs : List α) (lo hi : Option Int) : cutL (xs.map f) lo hi = (cutL xs lo hi).map f := by
  unfold cutL
  rw [List.length_map, ← List.map_drop, ← List.map_take]
theorem atI_map {ns : List Int} {k : Int} (h0 : 0 ≤ k) (h1 : k < ns.length) : ∃ c, L2.atI (ns.map Val.int) k = some (.int c) := by
  have hk : k.toNat < ns.length := by omega
  refine ⟨ns[k.toNat], ?_⟩
  have e : L2.ixN (ns.map Val.int).length k = some k.toNat := by
    unfold L2.ixN
    rw [List.length_map, if_pos h0, if_pos h1]
  unfold L2.atI
  rw [e]
  show (ns.map Val.int)[k.toNat]? = _
  rw [List.getElem?_map, List.getElem?_eq_getElem hk]
  rfl
theorem pool_cell {T : Tab} {cf : CF} {s : St} {ns : List Int} {k : Int} (h0 : 0 ≤ k) (h63 : k ≤ 1000) : ∃ c : Int, evE T cf (.ite (.cmp .lt (.v 1) (.bi .len [(.v 0)])) (.ix (.v 0) (.v 1)) (.bin .add (.bin .mul (.c (.int 7)) (.bi .sum [(.sl (.v 0) [] [(.c (.int 63))])])) (.v 1)))
    [some (.fr (ns.map Val.int)), some (.int k), none, none, none] s = .ok (.int c) s := by
  by_cases h : k < (ns.map Val.int).length
  · obtain ⟨c, hc⟩ := atI_map (ns := ns) h0 (by rw [List.length_map] at h; exact h)
    refine ⟨c, r_ite (k := true) (x := .bl true) (s1 := s) (r_cmp (r_v rfl) (r_bi1 (r_v rfl) rfl) ?_) rfl (fun _ => ?_) fun z => nomatch z⟩
    · show (R.ok (Val.bl (decide (k < ((ns.map Val.int).length : Int)))) s) = _
      rw [decide_eq_true h]
    · refine r_ix (r_v rfl) (r_v rfl) ?_
      show ofO (L2.atI (ns.map Val.int) k) s = _
      rw [hc]
      rfl
  · refine ⟨7 * (cutL ns none (some 63)).sum + k, r_ite (k := false) (x := .bl false) (s1 := s) (r_cmp (r_v rfl) (r_bi1 (r_v rfl) rfl) ?_) rfl (fun z => nomatch z) fun _ => ?_⟩
    · show (R.ok (Val.bl (decide (k < ((ns.map Val.int).length : Int)))) s) = _
      rw [decide_eq_false h]
    · refine r_bin (x := .int (7 * (cutL ns none (some 63)).sum)) (s1 := s) (r_bin (x := .int 7) (s1 := s) rfl (r_bi1 (x := .lst (cutL (ns.map Val.int) none (some 63))) (s1 := s) rfl ?_) (mul_l (by decide))) (r_v rfl) rfl
      show (onO (intsV (cutL (ns.map Val.int) none (some 63))) fun t => R.ok (Val.int t.sum) s) = _
      rw [cutL_map, ints_map]
      rfl
theorem pool_ok {P : Prog} {m c : Nat} {ns : List Int} {k : Int} {s : St} (hF : P.fn c = some poolF) (h0 : 0 ≤ k) (h63 : k ≤ 1000) :
    ∃ a b : Int, evF P (m + 1) c [.fr (ns.map Val.int), .int k] s = .ok (.ref s.n) (s.new (.lst [.int a, .int b])) := by
  obtain ⟨cell, hc⟩ := pool_cell (T := P.T) (cf := evF P m) (s := s) (ns := ns) h0 h63
  have sk : smallI k = true := smallI_of (by omega) (by omega)
  generalize hz : (if cell < 0 then -cell else cell) = z
  refine ⟨z * (if decide (1000000000000000000 ≤ z) = true then 1 else 0), (((z % 2147483629 + 7919 * k * k + 31 * k + 17) * 48271) % 2147483647) * (((z % 2147483629 + 7919 * k * k + 31 * k + 17) * 48271) % 2147483647) % 2147483629, r_fn hF rfl ?_⟩
  show evSs P.T (evF P m) P.w poolF.body [some (.fr (ns.map Val.int)), some (.int k), none, none, none] s = _
  refine r_cons (r_asg hc rfl) ?_
  refine r_cons (r_asg (x := .int z) (s1 := s) (r_bi1 (r_v rfl) (by rw [← hz]; rfl)) rfl) ?_
  refine r_cons (r_asg (x := .int (z % 2147483629 + 7919 * k * k + 31 * k + 17)) (s1 := s) ?_ rfl) ?_
  · exact r_bin (x := .int (z % 2147483629 + 7919 * k * k + 31 * k)) (s1 := s) (r_bin (x := .int (z % 2147483629 + 7919 * k * k)) (s1 := s) (r_bin (x := .int (z % 2147483629)) (s1 := s) (r_bin (r_bi1 (r_v rfl) rfl) rfl (mod_r (by decide)))
      (r_bin (x := .int (7919 * k)) (s1 := s) (r_bin (x := .int 7919) (s1 := s) rfl (r_v rfl) (mul_l (by decide))) (r_v rfl) (mul_r sk)) rfl) (r_bin (x := .int 31) (s1 := s) rfl (r_v rfl) (mul_l (by decide))) rfl) rfl rfl
  generalize (z % 2147483629 + 7919 * k * k + 31 * k + 17) = y
  refine r_cons (r_asg (x := .int ((y * 48271) % 2147483647)) (s1 := s) (r_bin (r_bi1 (r_bin (r_v rfl) rfl (mul_r (by decide))) rfl) rfl (mod_r (by decide))) rfl) ?_
  have sx : smallI ((y * 48271) % 2147483647) = true := mod_small (by decide) (by decide)
  generalize ((y * 48271) % 2147483647) = x at sx
  refine r_ret ?_
  have sb : smallI (if decide (1000000000000000000 ≤ z) = true then 1 else 0) = true := by split <;> decide
  have h1 : evE P.T (evF P m) (.bin .mul (.v 3) (.bi .int [(.cmp .ge (.v 3) (.bin .pow (.c (.int 10)) (.c (.int 18))))])) [some (.fr (ns.map Val.int)), some (.int k), some (.int cell), some (.int z), some (.int x)] s = .ok (.int (z * (if decide (1000000000000000000 ≤ z) = true then 1 else 0))) s :=
    r_bin (r_v rfl) (r_bi1 (x := .bl (decide (1000000000000000000 ≤ z))) (s1 := s) (r_cmp (r_v rfl) (r_bin (x := .int 10) (y := .int 18) (s1 := s) (s2 := s) (z := .int 1000000000000000000) (s3 := s) rfl rfl (by kernel_rfl)) rfl) rfl) (mul_r sb)
  have h2 : evE P.T (evF P m) (.bin .mod (.bi .int [(.bin .mul (.v 4) (.v 4))]) (.c (.int 2147483629))) [some (.fr (ns.map Val.int)), some (.int k), some (.int cell), some (.int z), some (.int x)] s = .ok (.int (x * x % 2147483629)) s :=
    r_bin (r_bi1 (r_bin (r_v rfl) (r_v rfl) (mul_r sx)) rfl) rfl (mod_r (by decide))
  show ((evE P.T (evF P m) (.bin .mul (.v 3) (.bi .int [(.cmp .ge (.v 3) (.bin .pow (.c (.int 10)) (.c (.int 18))))])) _ s).andThen fun x s1 => ((evE P.T (evF P m) (.bin .mod (.bi .int [(.bin .mul (.v 4) (.v 4))]) (.c (.int 2147483629))) _ s1).andThen fun x s1 => (R.ok [] s1 : R (List Val)).andThen fun xs s2 => .ok (x :: xs) s2).andThen fun xs s2 => .ok (x :: xs) s2).andThen (fun xs s1 => R.ok (Val.ref s1.n) (s1.new (.lst xs))) = _
  erw [h1]
  show (((evE P.T (evF P m) (.bin .mod (.bi .int [(.bin .mul (.v 4) (.v 4))]) (.c (.int 2147483629))) _ s).andThen fun x s1 => (R.ok [] s1 : R (List Val)).andThen fun xs s2 => .ok (x :: xs) s2).andThen fun xs s2 => .ok (_ :: xs) s2).andThen (fun xs s1 => R.ok (Val.ref s1.n) (s1.new (.lst xs))) = _
  erw [h2]
  rfl

/-! ### draw -/
theorem get_put {s : St} {p : Nat} {o : Ob} : (s.put p o).get p = some o := by
  show lookN p (putN p o s.m) = _
  rw [lookN_put, if_pos rfl]
theorem put_put {s : St} {p : Nat} {o o' : Ob} : (s.put p o).put p o' = s.put p o' := by
  have key : ∀ l : List (Nat × Ob), putN p o' (putN p o l) = putN p o' l := fun l => by
    induction l with
    | nil => show (match natEq p p with | true => [(p, o')] | false => (p, o) :: putN p o' []) = _
             rw [natEq_iff.mpr rfl]
             rfl
    | cons x r ih =>
      obtain ⟨j, y⟩ := x
      show putN p o' (match natEq p j with | true => (j, o) :: r | false => (j, y) :: putN p o r) = (match natEq p j with | true => (j, o') :: r | false => (j, y) :: putN p o' r)
      cases q : natEq p j with
      | true =>
        show (match natEq p j with | true => (j, o') :: r | false => (j, o) :: putN p o' r) = _
        rw [q]
      | false =>
        show (match natEq p j with | true => (j, o') :: putN p o r | false => (j, y) :: putN p o' (putN p o r)) = _
        rw [q]
        show (j, y) :: putN p o' (putN p o r) = (j, y) :: putN p o' r
        rw [ih]
  show (⟨s.n, putN p o' (putN p o s.m)⟩ : St) = ⟨s.n, putN p o' s.m⟩
  rw [key]
theorem asLr_ref {s : St} {p : Nat} {xs : List Val} (h : s.get p = some (.lst xs)) : asLr s (.ref p) = some xs := by
  show (match s.get p with | some (.lst xs) => some xs | _ => none) = _
  rw [h]
theorem ix_ref {s : St} {p : Nat} {xs : List Val} {i : Int} {x : Val} (h : s.get p = some (.lst xs)) (hx : L2.atI xs i = some x) : ixV s (.ref p) (.int i) = .ok x s := by
  show (match asLr s (.ref p) with | some xs => ofO (L2.atI xs i) s | none => .bad) = _
  rw [asLr_ref h]
  show ofO (L2.atI xs i) s = _
  rw [hx]
  rfl
theorem set_ref {s : St} {p : Nat} {xs : List Val} {i : Int} {j : Nat} {v : Val} (h : s.get p = some (.lst xs)) (hj : L2.ixN xs.length i = some j) : setV s (.ref p) (.int i) v = .ok .non (s.put p (.lst (xs.set j v))) := by
  show (match s.get p with
    | some (.lst xs) => match L2.ixN xs.length i with
      | some j => R.ok Val.non (s.put p (.lst (xs.set j v)))
      | none => .bad
    | _ => .bad) = _
  rw [h]
  show (match L2.ixN xs.length i with
      | some j => R.ok Val.non (s.put p (.lst (xs.set j v)))
      | none => .bad) = _
  rw [hj]
theorem draw_ok {P : Prog} {m c : Nat} {a b n : Int} {p : Nat} {s : St} (hF : P.fn c = some drawF) (h : s.get p = some (.lst [.int a, .int b])) (h0 : 0 < n) (h1 : n < 1073741824) :
    ∃ r a' b' : Int, 0 ≤ r ∧ r < n ∧ evF P (m + 1) c [.ref p, .int n] s = .ok (.int r) (s.put p (.lst [.int a', .int b'])) := by
  have e0 : ∀ {s : St} {a b : Int} {T : Tab} {cf : CF} {z : Option Val}, s.get p = some (.lst [.int a, .int b]) → evE T cf (.ix (.v 0) (.c (.int 0))) [some (.ref p), some (.int n), z] s = .ok (.int a) s := fun h => r_ix (r_v rfl) rfl (ix_ref h rfl)
  have e1 : ∀ {s : St} {a b : Int} {T : Tab} {cf : CF} {z : Option Val}, s.get p = some (.lst [.int a, .int b]) → evE T cf (.ix (.v 0) (.c (.int 1))) [some (.ref p), some (.int n), z] s = .ok (.int b) s := fun h => r_ix (r_v rfl) rfl (ix_ref h rfl)
  have hc : ∀ {T : Tab} {cf : CF}, evE T cf (.cmp .gt (.ix (.v 0) (.c (.int 0))) (.c (.int 0))) [some (.ref p), some (.int n), none] s = .ok (.bl (decide (0 < a))) s := r_cmp (e0 h) rfl rfl
  by_cases ha : 0 < a
  · refine ⟨a % n, a / n, b, Int.emod_nonneg _ (by omega), Int.emod_lt_of_pos _ h0, r_fn hF rfl ?_⟩
    refine r_stop (r_ifs (k := true) hc (by show some (decide (0 < a)) = _; rw [decide_eq_true ha]) (fun _ => ?_) fun z => nomatch z)
    refine r_cons (r_asg (r_bin (r_bi1 (e0 h) rfl) (r_v rfl) (mod_r h0)) rfl) ?_
    refine r_cons (r_sets (r_bin (e0 h) (r_v rfl) (fdiv_r h0 h1)) (r_v rfl) rfl (set_ref h rfl)) ?_
    exact r_ret (r_v rfl)
  · generalize hb : ((b * 48271 + 11) % 2147483647) = b1
    have sb : smallI b1 = true := by rw [← hb]; exact mod_small (by decide) (by decide)
    refine ⟨(b1 * b1 % 2147483629 / 16) % n, a, b1, Int.emod_nonneg _ (by omega), Int.emod_lt_of_pos _ h0, r_fn hF rfl ?_⟩
    refine r_cons (r_ifs (k := false) hc (by show some (decide (0 < a)) = _; rw [decide_eq_false ha]) (fun z => nomatch z) fun _ => rfl) ?_
    refine r_cons (r_sets (x := .int b1) (r_bin (r_bi1 (r_bin (r_bin (e1 h) rfl (mul_r (by decide))) rfl rfl) rfl) rfl (by rw [mod_r (by decide), hb])) (r_v rfl) rfl (set_ref h rfl)) ?_
    have h' : (s.put p (.lst [.int a, .int b1])).get p = some (.lst [.int a, .int b1]) := get_put
    exact r_ret (r_bin (r_bi1 (r_bin (r_bin (r_bi1 (r_bin (e1 h') (e1 h') (mul_r sb)) rfl) rfl (mod_r (by decide))) rfl (fdiv_r (by decide) (by decide))) rfl) (r_v rfl) (mod_r h0))
/-! ### comprehensions that change nothing -/
def Cp (cond elt : Env → St → R Val) (tg : Tg) (env : Env) : List Val → List Val → Prop
  | [], ys => ys = []
  | x :: xs, ys => ∃ e1, tgV tg x env = some e1 ∧ (((∀ s, cond e1 s = .ok (.bl false) s) ∧ Cp cond elt tg env xs ys) ∨ ((∀ s, cond e1 s = .ok (.bl true) s) ∧ ∃ y r, ys = y :: r ∧ (∀ s, elt e1 s = .ok y s) ∧ Cp cond elt tg env xs r))
theorem comp_ok {cond elt : Env → St → R Val} {tg : Tg} {env : Env} {N k : Nat} {mm : List (Nat × Ob)} : ∀ {items ys acc : List Val}, Cp cond elt tg env items ys → acc.length + ys.length ≤ SL →
    compV k cond elt tg items env ⟨N, (k, .lst acc) :: mm⟩ = .ok .non ⟨N, (k, .lst (acc ++ ys)) :: mm⟩
  | [], ys, acc, h, _ => by
    have h : ys = [] := h
    rw [h, List.append_nil]
    rfl
  | x :: xs, ys, acc, h, hl => by
    obtain ⟨e1, ht, h⟩ := h
    show (onO (tgV tg x env) fun env1 => (cond env1 ⟨N, (k, .lst acc) :: mm⟩).nox.andThen fun c s1 => match c with
      | .bl true => (elt env1 s1).nox.andThen fun y s2 => (appK k y s2).andThen fun _ s3 => compV k cond elt tg xs env s3
      | .bl false => compV k cond elt tg xs env s1
      | _ => .bad) = _
    rw [ht]
    show ((cond e1 ⟨N, (k, .lst acc) :: mm⟩).nox.andThen fun c s1 => match c with
      | .bl true => (elt e1 s1).nox.andThen fun y s2 => (appK k y s2).andThen fun _ s3 => compV k cond elt tg xs env s3
      | .bl false => compV k cond elt tg xs env s1
      | _ => .bad) = _
    rcases h with ⟨hc, h⟩ | ⟨hc, y, r, rfl, he, h⟩
    · rw [hc]
      exact comp_ok h hl
    · rw [hc]
      show ((elt e1 ⟨N, (k, .lst acc) :: mm⟩).nox.andThen fun y s2 => (appK k y s2).andThen fun _ s3 => compV k cond elt tg xs env s3) = _
      rw [he]
      have hl2 : acc.length + 1 + r.length ≤ SL := by rw [List.length_cons] at hl; omega
      have ea : appK k y ⟨N, (k, .lst acc) :: mm⟩ = .ok .non ⟨N, (k, .lst (acc ++ [y])) :: mm⟩ := by
        have g1 : St.get ⟨N, (k, Ob.lst acc) :: mm⟩ k = some (.lst acc) := by
          show (match natEq k k with | true => some (Ob.lst acc) | false => lookN k mm) = _
          rw [natEq_iff.mpr rfl]
        have g2 : St.put ⟨N, (k, Ob.lst acc) :: mm⟩ k (.lst (acc ++ [y])) = ⟨N, (k, .lst (acc ++ [y])) :: mm⟩ := by
          show (⟨N, (match natEq k k with | true => (k, Ob.lst (acc ++ [y])) :: mm | false => (k, Ob.lst acc) :: putN k (Ob.lst (acc ++ [y])) mm)⟩ : St) = _
          rw [natEq_iff.mpr rfl]
        unfold appK
        rw [g1]
        show onB (leN (acc.length + 1) SL) _ = _
        rw [show leN (acc.length + 1) SL = true from Nat.ble_eq_true_of_le (by omega), g2]
        rfl
      show ((appK k y ⟨N, (k, .lst acc) :: mm⟩).andThen fun _ s3 => compV k cond elt tg xs env s3) = _
      rw [ea]
      show compV k cond elt tg xs env ⟨N, (k, .lst (acc ++ [y])) :: mm⟩ = _
      rw [comp_ok h (by rw [List.length_append]; exact hl2), List.append_assoc]
      rfl
/-- the store's places are below n -/
def Fresh (s : St) : Prop := ∀ y ∈ s.m, y.1 < s.n
theorem drop_fresh {i : Nat} : ∀ {m : List (Nat × Ob)}, (∀ y ∈ m, y.1 < i) → dropN i m = m
  | [], _ => rfl
  | (j, y) :: r, h => by
    have hj : j < i := h (j, y) (List.mem_cons_self ..)
    show (match natEq i j with | true => dropN i r | false => (j, y) :: dropN i r) = _
    rw [show natEq i j = false from Bool.eq_false_iff.mpr fun q => by have := natEq_iff.mp q; omega]
    show (j, y) :: dropN i r = _
    rw [drop_fresh fun z hz => h z (List.mem_cons_of_mem _ hz)]
theorem Fresh.next {s : St} (h : Fresh s) (k : Nat) : Fresh ⟨s.n + k, s.m⟩ := fun y hy => Nat.lt_of_lt_of_le (h y hy) (Nat.le_add_right _ _)
theorem Fresh.new {s : St} (h : Fresh s) (o : Ob) : Fresh (s.new o) := fun y hy => by
  show y.1 < s.n + 1
  rcases List.mem_cons.mp (show y ∈ (s.n, o) :: s.m from hy) with rfl | hy
  · exact Nat.lt_succ_self _
  · exact Nat.lt_succ_of_lt (h y hy)
theorem put_keys {p n : Nat} {o : Ob} (hp : p < n) : ∀ {m : List (Nat × Ob)}, (∀ y ∈ m, y.1 < n) → ∀ y ∈ putN p o m, y.1 < n
  | [], _, y, hy => by
    rcases List.mem_cons.mp (show y ∈ (p, o) :: [] from hy) with rfl | hy
    · exact hp
    · cases hy
  | (j, q) :: r, h, y, hy => by
    have hy : y ∈ (match natEq p j with | true => (j, o) :: r | false => (j, q) :: putN p o r) := hy
    cases e : natEq p j with
    | true =>
      rw [e] at hy
      rcases List.mem_cons.mp hy with rfl | hy
      · exact h (j, q) (List.mem_cons_self ..)
      · exact h y (List.mem_cons_of_mem _ hy)
    | false =>
      rw [e] at hy
      rcases List.mem_cons.mp hy with rfl | hy
      · exact h (j, q) (List.mem_cons_self ..)
      · exact put_keys hp (fun z hz => h z (List.mem_cons_of_mem _ hz)) y hy
theorem Fresh.put {s : St} (h : Fresh s) {p : Nat} (o : Ob) (hp : p < s.n) : Fresh (s.put p o) := put_keys hp h
theorem lc_ok {T : Tab} {cf : CF} {src : Src} {es : List E} {tg : Tg} {cond : List E} {elt : E} {env : Env} {s : St} {xs items ys : List Val} (h1 : evEs T cf es env s = .ok xs s) (h2 : srcV src xs = some items)
    (h : Cp (fun e t => evAnd T cf cond e t) (fun e t => evE T cf elt e t) tg (wipeE env tg.slots) items ys) (hl : ys.length ≤ SL) (hs : Fresh s) : evE T cf (.lc true src es tg cond elt) env s = .ok (.lst ys) ⟨s.n + 1, s.m⟩ := by
  show ((evEs T cf es env s).andThen fun xs s1 => onO (srcV src xs) fun items =>
    (compV s1.n (fun e t => evAnd T cf cond e t) (fun e t => evE T cf elt e t) tg items (wipeE env tg.slots) (s1.new (.lst []))).andThen fun _ s2 => lcEnd true s1.n s2) = _
  rw [h1]
  show (onO (srcV src xs) fun items =>
    (compV s.n (fun e t => evAnd T cf cond e t) (fun e t => evE T cf elt e t) tg items (wipeE env tg.slots) (s.new (.lst []))).andThen fun _ s2 => lcEnd true s.n s2) = _
  rw [h2]
  show ((compV s.n (fun e t => evAnd T cf cond e t) (fun e t => evE T cf elt e t) tg items (wipeE env tg.slots) ⟨s.n + 1, (s.n, .lst []) :: s.m⟩).andThen fun _ s2 => lcEnd true s.n s2) = _
  rw [comp_ok h (by show 0 + ys.length ≤ SL; omega)]
  show fzV ⟨s.n + 1, (s.n, .lst ys) :: s.m⟩ (.ref s.n) = _
  have g1 : St.get ⟨s.n + 1, (s.n, Ob.lst ys) :: s.m⟩ s.n = some (.lst ys) := by
    show (match natEq s.n s.n with | true => some (Ob.lst ys) | false => lookN s.n s.m) = _
    rw [natEq_iff.mpr rfl]
  have g2 : St.drop ⟨s.n + 1, (s.n, Ob.lst ys) :: s.m⟩ s.n = ⟨s.n + 1, s.m⟩ := by
    show (⟨s.n + 1, (match natEq s.n s.n with | true => dropN s.n s.m | false => (s.n, Ob.lst ys) :: dropN s.n s.m)⟩ : St) = _
    rw [natEq_iff.mpr rfl]
    show (⟨s.n + 1, dropN s.n s.m⟩ : St) = _
    rw [drop_fresh hs]
  show (match St.get ⟨s.n + 1, (s.n, Ob.lst ys) :: s.m⟩ s.n with
    | some (.lst xs) => R.ok (Val.lst xs) (St.drop ⟨s.n + 1, (s.n, Ob.lst ys) :: s.m⟩ s.n)
    | some (.dct xs) => .ok (.dct xs) (St.drop ⟨s.n + 1, (s.n, Ob.lst ys) :: s.m⟩ s.n)
    | some (.ins c fs) => .ok (.ins c fs) (St.drop ⟨s.n + 1, (s.n, Ob.lst ys) :: s.m⟩ s.n)
    | none => .bad) = _
  rw [g1, g2]
/-- a value's text -/
structure Rp (v : Val) (x : Str) : Prop where
  at_ : ∀ s, reprV s v = .ok (.str x) s
  ok : PySem.PyData.strOk x = true
theorem cp_rep {T : Tab} {cf : CF} {env e1 : Env} {j : Nat} {v : Val} {x : Str} (h : Rp v x) (ht : tgV (.v j) v env = some e1) (hj : e1[j]? = some (some v)) : ∀ n, Cp (fun e t => evAnd T cf [] e t) (fun e t => evE T cf (.bi .repr [.v j]) e t) (.v j) env (List.replicate n v) (List.replicate n (.str x))
  | 0 => rfl
  | n + 1 => ⟨e1, ht, .inr ⟨fun _ => rfl, .str x, List.replicate n (.str x), rfl, fun s => r_bi1 (r_v hj) (h.at_ s), cp_rep h ht hj n⟩⟩
theorem toDs_rep {x : Str} : ∀ n, toDs (List.replicate n (Val.str x)) = some (List.replicate n (.str x))
  | 0 => rfl
  | n + 1 => by
    show (match toD (.str x), toDs (List.replicate n (Val.str x)) with | some d, some ds => some (d :: ds) | _, _ => none) = _
    rw [toDs_rep n]
    rfl
theorem canAll_rep {x : Str} (h : PySem.PyData.strOk x = true) : ∀ n, PySem.PyData.canLayAll0 (List.replicate n (.str x)) = true
  | 0 => rfl
  | n + 1 => by
    show (PySem.PyData.strOk x && PySem.PyData.canLayAll0 (List.replicate n (.str x))) = true
    rw [h, canAll_rep h n]
    rfl
theorem depth_rep {x : Str} : ∀ n, PySem.PyData.depthAll (List.replicate n (.str x)) = 0
  | 0 => rfl
  | n + 1 => by
    show max 0 (PySem.PyData.depthAll (List.replicate n (.str x))) = 0
    rw [depth_rep n]
    rfl
theorem ne_rep {s : St} {x : Str} (h : PySem.PyData.strOk x = true) (n : Nat) : cmpV .ne s (.lst (List.replicate n (.str x))) (.lst (List.replicate n (.str x))) = .ok (.bl false) s := by
  have e : toD0 s (.lst (List.replicate n (.str x))) = some (.list (List.replicate n (.str x))) := by
    show (toDs (List.replicate n (Val.str x))).map PySem.PyData.list = _
    rw [toDs_rep]
    rfl
  have hc : PySem.PyData.canLay0 (.list (List.replicate n (.str x))) = true := canAll_rep h n
  have hs : PySem.SeqAt.shaped (.list (List.replicate n (.str x))) = true := by
    unfold PySem.SeqAt.shaped
    rw [hc]
    show decide (PySem.PyData.depthAll (List.replicate n (.str x)) + 1 ≤ 64) = true
    rw [depth_rep]
    rfl
  show ofO ((eqD s _ _).map fun b => Val.bl (!b)) s = _
  unfold eqD
  rw [e]
  show ofO ((match PySem.SeqAt.shaped (.list (List.replicate n (.str x))) && PySem.SeqAt.shaped (.list (List.replicate n (.str x))) with | true => some (PySem.PyData.eqv (.list (List.replicate n (.str x))) (.list (List.replicate n (.str x)))) | false => none).map fun b => Val.bl (!b)) s = _
  rw [hs]
  show ofO ((some (PySem.PyData.eqv (.list (List.replicate n (.str x))) (.list (List.replicate n (.str x))))).map fun b => Val.bl (!b)) s = _
  rw [PySem.SeqAt.eqv_refl _ hc]
  rfl
theorem rp_int {n : Int} (h0 : 0 ≤ n) (h1 : n < 10 ^ 9) : Rp (.int n) (PySem.PyData.shown (.int n)) := by
  have e : PySem.PyData.shown (.int n) = Str.ofString (toString n) := rfl
  have hl : (PySem.PyData.shown (.int n)).length ≤ 9 := by
    have h := digits_le h0 (k := 9) (by omega) h1
    rw [e, Str.ofString_eq_toList]
    unfold asciiBytes at h
    rw [List.length_map] at h
    show ((toString n).toList.map Char.toNat).toArray.size ≤ 9
    rw [List.size_toArray, List.length_map]
    exact h
  refine ⟨fun s => ?_, ?_⟩
  · have hb : reprB (.int n) = true := by
      have hs : PySem.PyData.showable (.int n) = true := by
        show decide (n.natAbs.log2 < 1920) = true
        refine decide_eq_true ?_
        have h3 : n.natAbs < 2 ^ 1920 := Nat.lt_of_lt_of_le (m := 10 ^ 9) (by omega) (by decide)
        by_cases hz : n.natAbs = 0
        · rw [hz]; decide
        · exact (Nat.log2_lt hz).mpr h3
      unfold reprB
      rw [hs, show leN (PySem.PyData.shown (.int n)).length SL = true from Nat.ble_eq_true_of_le (Nat.le_trans hl (by decide))]
      rfl
    show onB (reprB (.int n)) (.ok (.str (PySem.PyData.shown (.int n))) s) = _
    rw [hb]
    rfl
  · rw [e, Str.ofString_eq_toList]
    unfold PySem.PyData.strOk
    rw [List.all_toArray, List.all_eq_true]
    intro c hc
    obtain ⟨d, hd, rfl⟩ := List.mem_map.mp hc
    have := int_ascii n d hd
    exact decide_eq_true (by omega)
end Ev

set_option Elab.async false
set_option linter.all false
set_option maxRecDepth 100000
set_option maxHeartbeats 2000000
namespace Ev
open PySem PySem.Spec PyProof.Rows L2
section
variable {T : Tab} {cf : CF} {w : Nat} {env e1 e2 : Env} {s s1 s2 s3 : St} {x y z : Val}
theorem r_call1 {f : Nat} {a : E} (h1 : evE T cf a env s = .ok x s1) (h2 : cf f [x] s1 = .ok y s2) : evE T cf (.call f [a]) env s = .ok y s2 := by
  show ((evE T cf a env s).andThen fun x s1 => ((R.ok [] s1 : R (List Val)).andThen fun xs s2 => .ok (x :: xs) s2)).andThen _ = _
  rw [h1]
  exact h2
theorem r_call2 {f : Nat} {a b : E} (h1 : evE T cf a env s = .ok x s1) (h2 : evE T cf b env s1 = .ok y s2) (h3 : cf f [x, y] s2 = .ok z s3) : evE T cf (.call f [a, b]) env s = .ok z s3 := by
  show ((evE T cf a env s).andThen fun x s1 => ((evE T cf b env s1).andThen fun x s1 => ((R.ok [] s1 : R (List Val)).andThen fun xs s2 => .ok (x :: xs) s2)).andThen fun xs s2 => .ok (x :: xs) s2).andThen _ = _
  rw [h1]
  show (((evE T cf b env s1).andThen _).andThen _).andThen _ = _
  rw [h2]
  exact h3
theorem r_not {a : E} {b : Bool} (h1 : evE T cf a env s = .ok x s1) (h2 : truV s1 x = some b) : evE T cf (.not a) env s = .ok (.bl (!b)) s1 := by
  show (evE T cf a env s).andThen _ = _
  rw [h1]
  show (match truV s1 x with | some b => R.ok (Val.bl (!b)) s1 | none => .bad) = _
  rw [h2]
theorem r_or2 {a b : E} (h1 : evE T cf a env s = .ok x s1) (h2 : truV s1 x = some false) (h3 : evE T cf b env s1 = .ok y s2) : evE T cf (.or [a, b]) env s = .ok y s2 := by
  show (evE T cf a env s).andThen _ = _
  rw [h1]
  show (match truV s1 x with | some false => evOr T cf [b] env s1 | some true => .ok x s1 | none => .bad) = _
  rw [h2]
  exact h3
theorem r_evs {e : E} {es : List E} {xs : List Val} (h1 : evE T cf e env s = .ok x s1) (h2 : evEs T cf es env s1 = .ok xs s2) : evEs T cf (e :: es) env s = .ok (x :: xs) s2 := by
  show (evE T cf e env s).andThen _ = _
  rw [h1]
  show (evEs T cf es env s1).andThen _ = _
  rw [h2]
  rfl
theorem r_lst {es : List E} {xs : List Val} (h : evEs T cf es env s = .ok xs s1) : evE T cf (.lst true es) env s = .ok (.lst xs) s1 := by
  show (evEs T cf es env s).andThen _ = _
  rw [h]
  rfl
theorem r_for {tg : Tg} {src : Src} {es : List E} {body : List S} {xs items : List Val} {z : R Fl} (h1 : evEs T cf es env s = .ok xs s1) (h2 : srcV src xs = some items) (h3 : loopV (fun e t => evSs T cf w body e t) tg items env s1 = z) : evS T cf w (.for tg src es body) env s = z := by
  show (evEs T cf es env s).andThen _ = _
  rw [h1]
  show (onF (srcV src xs) fun items => loopV (fun e t => evSs T cf w body e t) tg items env s1) = _
  rw [h2]
  exact h3
theorem r_loop {body : Env → St → R Fl} {tg : Tg} {xs : List Val} {z : R Fl} (h1 : tgV tg x env = some e1) (h2 : body e1 s = .ok (.nx e2) s1) (h3 : loopV body tg xs e2 s1 = z) : loopV body tg (x :: xs) env s = z := by
  show (onF (tgV tg x env) fun env1 => (body env1 s).andThen fun f s1 => match f with
      | .nx e => loopV body tg xs e s1
      | .cnt e => loopV body tg xs e s1
      | .brk e => .ok (.nx e) s1
      | .ret v => .ok (.ret v) s1) = _
  rw [h1]
  show ((body e1 s).andThen _) = _
  rw [h2]
  exact h3
theorem r_app' {l l2 : List S} {z : R Fl} (hl : l2 ≠ []) (h1 : evSs T cf w l env s = .ok (.nx e1) s1) (h2 : evSs T cf w l2 e1 s1 = z) : evSs T cf w (l ++ l2) env s = z := by
  cases l2 with
  | nil => exact absurd rfl hl
  | cons b r => exact r_app h1 h2
theorem r_hd {a : S} {r : List S} {z : R Fl} (hl : r ≠ []) (h : evS T cf w a env s = .ok (.nx e1) s1) (h2 : evSs T cf w r e1 s1 = z) : evSs T cf w (a :: r) env s = z := by
  cases r with
  | nil => exact absurd rfl hl
  | cons b r => exact r_cons h h2
theorem cp_none {cond elt : Env → St → R Val} {tg : Tg} {env : Env} : ∀ {items : List Val}, (∀ y ∈ items, ∃ e1, tgV tg y env = some e1 ∧ ∀ s, cond e1 s = .ok (.bl false) s) → Cp cond elt tg env items []
  | [], _ => rfl
  | y :: r, h => by
    obtain ⟨e1, h1, h2⟩ := h y (List.mem_cons_self ..)
    exact ⟨e1, h1, .inl ⟨h2, cp_none fun z hz => h z (List.mem_cons_of_mem _ hz)⟩⟩
/-- if [repr(one) for one in a] != [repr(t)] * n: return False -/
abbrev I1 (n : Int) (a j t : Nat) : S := .ifs (.cmp .ne (.lc true .it [(.v a)] (.v j) [] (.bi .repr [(.v j)])) (.bin .mul (.lst true [(.bi .repr [(.v t)])]) (.c (.int n)))) [.ret (.c (.bl false))] []
theorem i1_ok {n : Nat} {N : Int} {a j t : Nat} {v : Val} {x : Str} (h : Rp v x) (hs : Fresh s) (hn : n ≤ 1000) (hm : ∀ s, binV .mul s (.lst [.str x]) (.int N) = .ok (.lst (List.replicate n (.str x))) s) (ha : env[a]? = some (some (.lst (List.replicate n v))))
    (ht : env[t]? = some (some v)) (hj : j < env.length) : evS T cf w (I1 N a j t) env s = .ok (.nx env) ⟨s.n + 1, s.m⟩ := by
  have hc : evE T cf (.lc true .it [(.v a)] (.v j) [] (.bi .repr [(.v j)])) env s = .ok (.lst (List.replicate n (.str x))) ⟨s.n + 1, s.m⟩ :=
    lc_ok (r_evs (r_v ha) rfl) rfl (cp_rep h rfl (by show ((env.set j none).set j (some v))[j]? = _; simp [hj]) n) (by rw [List.length_replicate]; exact Nat.le_trans hn (by decide)) hs
  exact r_ifs (k := false) (r_cmp hc (r_bin (r_lst (r_evs (r_bi1 (r_v ht) (h.at_ _)) rfl)) rfl (hm _)) (ne_rep h.ok n)) rfl (fun z => nomatch z) fun _ => rfl
end
theorem range_mem : ∀ {n : Nat} {lo : Int} {x : Val}, x ∈ rangeV lo n → ∃ i, x = .int i ∧ lo ≤ i ∧ i < lo + n
  | 0, lo, x, h => by
    have h : x ∈ ([] : List Val) := h
    cases h
  | n + 1, lo, x, h => by
    rcases List.mem_cons.mp (show x ∈ .int lo :: rangeV (lo + 1) n from h) with rfl | h
    · exact ⟨lo, rfl, Int.le_refl _, by omega⟩
    · obtain ⟨i, e, h1, h2⟩ := range_mem h
      exact ⟨i, e, by omega, by omega⟩
end Ev

set_option Elab.async false
set_option linter.all false
set_option maxRecDepth 100000
set_option maxHeartbeats 0
namespace K20
open PySem PySem.Spec PyProof.Rows L2 Ev
def top (i : Nat) : Stmt := PySem.Challenge.pw_steadycalls_k20_errors.main.body.getD i (.Pass ⟨0, 0, 0, 0⟩)
def d0 : He.DefD := ⟨("BadLabel", some "__init__"), "__init__", "BadLabel.__init__", defArgs (inClass (top 2) 0), defBody (inClass (top 2) 0), defScope (inClass (top 2) 0), [], []⟩
def d1 : He.DefD := ⟨("BadCell", some "__init__"), "__init__", "BadCell.__init__", defArgs (inClass (top 3) 0), defBody (inClass (top 3) 0), defScope (inClass (top 3) 0), [], []⟩
def d2 : He.DefD := ⟨("BadPart", some "__init__"), "__init__", "BadPart.__init__", defArgs (inClass (top 4) 0), defBody (inClass (top 4) 0), defScope (inClass (top 4) 0), [], []⟩
def d3 : He.DefD := ⟨("BadTerm", some "__init__"), "__init__", "BadTerm.__init__", defArgs (inClass (top 5) 0), defBody (inClass (top 5) 0), defScope (inClass (top 5) 0), [], []⟩
def d4 : He.DefD := ⟨("BadFunction", some "__init__"), "__init__", "BadFunction.__init__", defArgs (inClass (top 6) 0), defBody (inClass (top 6) 0), defScope (inClass (top 6) 0), [], []⟩
def d5 : He.DefD := ⟨("BadState", some "__init__"), "__init__", "BadState.__init__", defArgs (inClass (top 7) 0), defBody (inClass (top 7) 0), defScope (inClass (top 7) 0), [], []⟩
def d6 : He.DefD := ⟨("BadArguments", some "__init__"), "__init__", "BadArguments.__init__", defArgs (inClass (top 8) 0), defBody (inClass (top 8) 0), defScope (inClass (top 8) 0), [], []⟩
def d7 : He.DefD := ⟨("BadTick", some "__init__"), "__init__", "BadTick.__init__", defArgs (inClass (top 9) 0), defBody (inClass (top 9) 0), defScope (inClass (top 9) 0), [], []⟩
def d8 : He.DefD := ⟨("BadCall", some "__init__"), "__init__", "BadCall.__init__", defArgs (inClass (top 10) 0), defBody (inClass (top 10) 0), defScope (inClass (top 10) 0), [], []⟩
def d9 : He.DefD := ⟨("BadTree", some "__init__"), "__init__", "BadTree.__init__", defArgs (inClass (top 11) 0), defBody (inClass (top 11) 0), defScope (inClass (top 11) 0), [], []⟩
def d10 : He.DefD := ⟨("BadOutput", some "__init__"), "__init__", "BadOutput.__init__", defArgs (inClass (top 12) 0), defBody (inClass (top 12) 0), defScope (inClass (top 12) 0), [], []⟩
def d11 : He.DefD := ⟨("BadOrder", some "__init__"), "__init__", "BadOrder.__init__", defArgs (inClass (top 13) 0), defBody (inClass (top 13) 0), defScope (inClass (top 13) 0), [], []⟩
def d12 : He.DefD := ⟨("BadMark", some "__init__"), "__init__", "BadMark.__init__", defArgs (inClass (top 14) 0), defBody (inClass (top 14) 0), defScope (inClass (top 14) 0), [], []⟩
def d13 : He.DefD := ⟨("BadTable", some "__init__"), "__init__", "BadTable.__init__", defArgs (inClass (top 15) 0), defBody (inClass (top 15) 0), defScope (inClass (top 15) 0), [], []⟩
def d14 : He.DefD := ⟨("BadPlan", some "__init__"), "__init__", "BadPlan.__init__", defArgs (inClass (top 16) 0), defBody (inClass (top 16) 0), defScope (inClass (top 16) 0), [], []⟩
def d15 : He.DefD := ⟨("BadToken", some "__init__"), "__init__", "BadToken.__init__", defArgs (inClass (top 17) 0), defBody (inClass (top 17) 0), defScope (inClass (top 17) 0), [], []⟩
def d16 : He.DefD := ⟨("BadText", some "__init__"), "__init__", "BadText.__init__", defArgs (inClass (top 18) 0), defBody (inClass (top 18) 0), defScope (inClass (top 18) 0), [], []⟩
def d17 : He.DefD := ⟨("BadLine", some "__init__"), "__init__", "BadLine.__init__", defArgs (inClass (top 19) 0), defBody (inClass (top 19) 0), defScope (inClass (top 19) 0), [], []⟩
def d18 : He.DefD := ⟨("BadChance", some "__init__"), "__init__", "BadChance.__init__", defArgs (inClass (top 20) 0), defBody (inClass (top 20) 0), defScope (inClass (top 20) 0), [], []⟩
def d19 : He.DefD := ⟨("BadMove", some "__init__"), "__init__", "BadMove.__init__", defArgs (inClass (top 21) 0), defBody (inClass (top 21) 0), defScope (inClass (top 21) 0), [], []⟩
def d20 : He.DefD := ⟨("BadRun", some "__init__"), "__init__", "BadRun.__init__", defArgs (inClass (top 22) 0), defBody (inClass (top 22) 0), defScope (inClass (top 22) 0), [], []⟩
def d21 : He.DefD := ⟨("BadMoment", some "__init__"), "__init__", "BadMoment.__init__", defArgs (inClass (top 23) 0), defBody (inClass (top 23) 0), defScope (inClass (top 23) 0), [], []⟩
def d22 : He.DefD := ⟨("UnknownName", some "__init__"), "__init__", "UnknownName.__init__", defArgs (inClass (top 24) 0), defBody (inClass (top 24) 0), defScope (inClass (top 24) 0), [], []⟩
def d23 : He.DefD := ⟨("TooMany", some "__init__"), "__init__", "TooMany.__init__", defArgs (inClass (top 25) 0), defBody (inClass (top 25) 0), defScope (inClass (top 25) 0), [], []⟩
def d24 : He.DefD := ⟨("NothingToUndo", some "__init__"), "__init__", "NothingToUndo.__init__", defArgs (inClass (top 26) 0), defBody (inClass (top 26) 0), defScope (inClass (top 26) 0), [], []⟩
def d25 : He.DefD := ⟨("_law_pool", none), "_law_pool", "_law_pool", defArgs (top 28), defBody (top 28), defScope (top 28), [], []⟩
def d26 : He.DefD := ⟨("_law_draw", none), "_law_draw", "_law_draw", defArgs (top 29), defBody (top 29), defScope (top 29), [], []⟩
def d27 : He.DefD := ⟨("_law_pick", none), "_law_pick", "_law_pick", defArgs (top 30), defBody (top 30), defScope (top 30), [], []⟩
def d28 : He.DefD := ⟨("_law_later_right", none), "_law_later_right", "_law_later_right", defArgs (top 31), defBody (top 31), defScope (top 31), [], []⟩
def d29 : He.DefD := ⟨("law", none), "law", "law", defArgs (top 32), defBody (top 32), defScope (top 32), [], []⟩
def ds : List He.DefD := ([d0, d1, d2, d3, d4, d5, d6, d7, d8, d9, d10, d11, d12, d13, d14, d15, d16, d17, d18, d19, d20, d21, d22, d23, d24, d25, d26, d27, d28, d29] : List He.DefD)
def f25 : Fn := ⟨2, 5, [.asg (.v 2) (.ite (.cmp .lt (.v 1) (.bi .len [(.v 0)])) (.ix (.v 0) (.v 1)) (.bin .add (.bin .mul (.c (.int 7)) (.bi .sum [(.sl (.v 0) [] [(.c (.int 63))])])) (.v 1))), .asg (.v 3) (.bi .abs [(.v 2)]), .asg (.v 4) (.bin .add (.bin .add (.bin .add (.bin .mod (.bi .int [(.v 3)]) (.c (.int 2147483629))) (.bin .mul (.bin .mul (.c (.int 7919)) (.v 1)) (.v 1))) (.bin .mul (.c (.int 31)) (.v 1))) (.c (.int 17))), .asg (.v 4) (.bin .mod (.bi .int [(.bin .mul (.v 4) (.c (.int 48271)))]) (.c (.int 2147483647))), .ret (.lst false [(.bin .mul (.v 3) (.bi .int [(.cmp .ge (.v 3) (.bin .pow (.c (.int 10)) (.c (.int 18))))])), (.bin .mod (.bi .int [(.bin .mul (.v 4) (.v 4))]) (.c (.int 2147483629)))])]⟩
def f26 : Fn := ⟨2, 3, [.ifs (.cmp .gt (.ix (.v 0) (.c (.int 0))) (.c (.int 0))) [.asg (.v 2) (.bin .mod (.bi .int [(.ix (.v 0) (.c (.int 0)))]) (.v 1)), .sets (.v 0) (.c (.int 0)) (.bin .fdiv (.ix (.v 0) (.c (.int 0))) (.v 1)), .ret (.v 2)] [], .sets (.v 0) (.c (.int 1)) (.bin .mod (.bi .int [(.bin .add (.bin .mul (.ix (.v 0) (.c (.int 1))) (.c (.int 48271))) (.c (.int 11)))]) (.c (.int 2147483647))), .ret (.bin .mod (.bi .int [(.bin .fdiv (.bin .mod (.bi .int [(.bin .mul (.ix (.v 0) (.c (.int 1))) (.ix (.v 0) (.c (.int 1))))]) (.c (.int 2147483629))) (.c (.int 16)))]) (.v 1))]⟩
def f27 : Fn := ⟨2, 2, [.ret (.ix (.v 1) (.call 2202184329901648211039 [(.v 0), (.bi .len [(.v 1)])]))]⟩
def f28 : Fn := ⟨1, 5, [.asg (.v 1) (.lst true [(.attr (.mkx 30518462483030338 true (.v 0)) 517097156201), (.attr (.mkx 28540514364318018 true (.v 0)) 1701147252), (.attr (.mkx 2148284704297329123650 true (.v 0)) 517097156201), (.attr (.mkx 8243105135092588866 true (.v 0)) 517097156201)]), .asg (.v 1) (.bin .add (.v 1) (.lst true [(.attr (.mkx 30243584743858498 true (.v 0)) 517097156201), (.attr (.mkx 7308324465482686786 true (.v 0)) 517097156201), (.attr (.mkx 31069365271290178 true (.v 0)) 1851878512), (.attr (.mkx 7954882442721255746 true (.v 0)) 474147942260)])), .asg (.v 1) (.bin .add (.v 1) (.lst true [(.attr (.mkx 32783473901330754 true (.v 0)) 517097156201), (.attr (.mkx 28550371180044610 true (.v 0)) 1701734764), (.attr (.mkx 1870285922602292896066 true (.v 0)) 517097156201), (.attr (.mkx 28559193059647810 true (.v 0)) 517097156201)])), .asg (.v 1) (.bin .add (.v 1) (.lst true [(.attr (.mkx 121450172539202 true (.v 0)) 517097156201), (.attr (.mkx 2147777197191935058242 true (.v 0)) 128017496895341)])), .ifs (.cmp .ne (.lc true .it [(.v 1)] (.v 3) [] (.bi .repr [(.v 3)])) (.bin .mul (.lst true [(.bi .repr [(.v 0)])]) (.c (.int 14)))) [.ret (.c (.bl false))] [], .asg (.v 2) (.lst true [(.mkx 30518462483030338 false (.v 0)), (.mkx 28540514364318018 false (.v 0)), (.mkx 2148284704297329123650 false (.v 0)), (.mkx 8243105135092588866 false (.v 0)), (.mkx 30243584743858498 false (.v 0)), (.mkx 7308324465482686786 false (.v 0)), (.mkx 31069365271290178 false (.v 0))]), .asg (.v 2) (.bin .add (.v 2) (.lst true [(.mkx 7954882442721255746 false (.v 0)), (.mkx 32783473901330754 false (.v 0)), (.mkx 28550371180044610 false (.v 0)), (.mkx 1870285922602292896066 false (.v 0)), (.mkx 28559193059647810 false (.v 0)), (.mkx 121450172539202 false (.v 0)), (.mkx 2147777197191935058242 false (.v 0))])), .ifs (.cmp .ne (.lc true .it [(.v 2)] (.v 4) [(.or [(.not (.isin (.v 4) (.c 540405614369490997310547))), (.not (.isin (.v 4) (.b .ve)))])] (.v 4)) (.lst true [])) [.ret (.c (.bl false))] [], .ifs (.or [(.isin (.ix (.v 2) (.c (.int 12))) (.c 7308324465482686786)), (.isin (.ix (.v 2) (.c (.int 9))) (.c 32783473901330754)), (.isin (.ix (.v 2) (.c (.int 2))) (.c 30518462483030338))]) [.ret (.c (.bl false))] [], .ifs (.or [(.isin (.ix (.v 2) (.c (.int 3))) (.c 30243584743858498)), (.isin (.ix (.v 2) (.c (.int 4))) (.c 8243105135092588866)), (.isin (.ix (.v 2) (.c (.int 11))) (.c 30243584743858498))]) [.ret (.c (.bl false))] [], .ret (.and [(.not (.isin (.ix (.v 2) (.c (.int 6))) (.c 30518462483030338))), (.not (.isin (.ix (.v 2) (.c (.int 13))) (.c 7954882442721255746))), (.not (.isin (.ix (.v 2) (.c (.int 10))) (.c 7308324465482686786)))])]⟩
def f29 : Fn := ⟨1, 9, [.for (.v 1) .range [(.bi .max [(.c (.int 1)), (.bi .min [(.bi .len [(.v 0)]), (.c (.int 2))])])] [.asg (.v 2) (.call 2000278120176583535711 [(.v 0), (.v 1)]), .for (.v 3) .it [(.lst true [(.call 2202184329901648211039 [(.v 2), (.bin .pow (.c (.int 10)) (.c (.int 9)))]), (.c (.str "x")), (.c .non), (.lst true [(.c (.int 1))]), (.tup []), (.c (.bl true))])] [.ifs (.not (.call 154732543826880782743800933828618447967 [(.v 3)])) [.ret (.c (.bl false))] [], .asg (.v 4) (.lst true [(.attr (.mkx 7810757298776990018 true (.v 3)) 465557414252), (.attr (.mkx 30518479662899522 true (.v 3)) 517097156201), (.attr (.mkx 32776859584586050 true (.v 3)) 1953653104), (.attr (.mkx 30806551994589506 true (.v 3)) 1836213620)]), .asg (.v 4) (.bin .add (.v 4) (.lst true [(.attr (.mkx 133507968132003860404527426 true (.v 3)) 517097156201), (.attr (.mkx 7310575247372345666 true (.v 3)) 1701667182), (.attr (.mkx 35731532855851571056084279618 true (.v 3)) 2129765323153231802977)])), .asg (.v 4) (.bin .add (.v 4) (.lst true [(.attr (.mkx 30227126546620738 true (.v 3)) 435761734006), (.attr (.mkx 122618040713471390674284117 true (.v 3)) 1701667182), (.attr (.mkx 34179836372021076 true (.v 3)) 499984984428), (.attr (.mkx 8825407925360455176287467892558 true (.v 3)) 1701667182)])), .ifs (.cmp .ne (.lc true .it [(.v 4)] (.v 8) [] (.bi .repr [(.v 8)])) (.bin .mul (.lst true [(.bi .repr [(.v 3)])]) (.c (.int 11)))) [.ret (.c (.bl false))] [], .asg (.v 5) (.lst true [(.mkx 7810757298776990018 false (.v 3)), (.mkx 30518479662899522 false (.v 3)), (.mkx 32776859584586050 false (.v 3)), (.mkx 30806551994589506 false (.v 3)), (.mkx 133507968132003860404527426 false (.v 3)), (.mkx 7310575247372345666 false (.v 3))]), .for (.v 6) .it [(.bin .add (.v 5) (.lst true [(.mkx 35731532855851571056084279618 false (.v 3)), (.mkx 30227126546620738 false (.v 3))]))] [.ifs (.or [(.not (.isin (.v 6) (.c 540405614369490997310547))), (.not (.isin (.v 6) (.b .ve)))]) [.ret (.c (.bl false))] []], .asg (.v 7) (.lst true [(.mkx 122618040713471390674284117 false (.v 3)), (.mkx 34179836372021076 false (.v 3)), (.mkx 8825407925360455176287467892558 false (.v 3))]), .ifs (.or [(.cmp .ne (.lc true .it [(.v 7)] (.v 6) [(.isin (.v 6) (.c 540405614369490997310547))] (.v 6)) (.lst true [])), (.not (.isin (.ix (.v 7) (.c (.int 0))) (.b .ke)))]) [.ret (.c (.bl false))] [], .ifs (.or [(.not (.isin (.ix (.v 7) (.c (.int 1))) (.b .oe))), (.not (.isin (.ix (.v 7) (.c (.int 2))) (.b .re)))]) [.ret (.c (.bl false))] [], .ifs (.or [(.isin (.ix (.v 5) (.c (.int 1))) (.c 133507968132003860404527426)), (.isin (.ix (.v 5) (.c (.int 4))) (.c 30518479662899522)), (.isin (.ix (.v 5) (.c (.int 2))) (.c 30806551994589506))]) [.ret (.c (.bl false))] []]], .ret (.c (.bl true))]⟩
def T : Tb where
  fns := ([(2000278120176583535711, 25, f25, ["_law_script", "_law_k", "_law_cell", "_law_size", "_law_mixed"]), (2202184329901648211039, 26, f26, ["_law_pool_here", "_law_many", "_law_found"]), (1980964996124558584927, 27, f27, ["_law_pool_here", "_law_row"]), (154732543826880782743800933828618447967, 28, f28, ["_law_thing", "_law_told", "_law_errors", "_law_one", "_law_error"]), (7823724, 29, f29, ["_law_script", "_law_k", "_law_pool_here", "_law_thing", "_law_told", "_law_errors", "_law_error", "_law_others", "_law_one"])] : List (Nat × Nat × Fn × List Str))
  gf := [2000278120176583535711, 2202184329901648211039, 154732543826880782743800933828618447967, 7823724]
  xi := ([(7810757298776990018, ⟨7810757298776990018, 465557414252, 465557414252, .ve, "StoreError", true, 0⟩), (30518479662899522, ⟨30518479662899522, 517097156201, 517097156201, .ve, "StoreError", true, 1⟩), (32776859584586050, ⟨32776859584586050, 1953653104, 1953653104, .ve, "StoreError", true, 2⟩), (30806551994589506, ⟨30806551994589506, 1836213620, 1836213620, .ve, "StoreError", true, 3⟩), (133507968132003860404527426, ⟨133507968132003860404527426, 517097156201, 517097156201, .ve, "StoreError", true, 4⟩), (7310575247372345666, ⟨7310575247372345666, 1701667182, 1701667182, .ve, "StoreError", true, 5⟩), (35731532855851571056084279618, ⟨35731532855851571056084279618, 2129765323153231802977, 2129765323153231802977, .ve, "StoreError", true, 6⟩), (30227126546620738, ⟨30227126546620738, 435761734006, 435761734006, .ve, "StoreError", true, 7⟩), (30518462483030338, ⟨30518462483030338, 517097156201, 517097156201, .ve, "StoreError", true, 8⟩), (28540514364318018, ⟨28540514364318018, 1701147252, 1701147252, .ve, "StoreError", true, 9⟩), (2148284704297329123650, ⟨2148284704297329123650, 517097156201, 517097156201, .ve, "StoreError", true, 10⟩), (8243105135092588866, ⟨8243105135092588866, 517097156201, 517097156201, .ve, "StoreError", true, 11⟩), (30243584743858498, ⟨30243584743858498, 517097156201, 517097156201, .ve, "StoreError", true, 12⟩), (7308324465482686786, ⟨7308324465482686786, 517097156201, 517097156201, .ve, "StoreError", true, 13⟩), (31069365271290178, ⟨31069365271290178, 1851878512, 1851878512, .ve, "StoreError", true, 14⟩), (7954882442721255746, ⟨7954882442721255746, 474147942260, 474147942260, .ve, "StoreError", true, 15⟩), (32783473901330754, ⟨32783473901330754, 517097156201, 517097156201, .ve, "StoreError", true, 16⟩), (28550371180044610, ⟨28550371180044610, 1701734764, 1701734764, .ve, "StoreError", true, 17⟩), (1870285922602292896066, ⟨1870285922602292896066, 517097156201, 517097156201, .ve, "StoreError", true, 18⟩), (28559193059647810, ⟨28559193059647810, 517097156201, 517097156201, .ve, "StoreError", true, 19⟩), (121450172539202, ⟨121450172539202, 517097156201, 517097156201, .ve, "StoreError", true, 20⟩), (2147777197191935058242, ⟨2147777197191935058242, 128017496895341, 128017496895341, .ve, "StoreError", true, 21⟩), (122618040713471390674284117, ⟨122618040713471390674284117, 1701667182, 1701667182, .ke, "KeyError", false, 22⟩), (34179836372021076, ⟨34179836372021076, 499984984428, 499984984428, .oe, "OverflowError", false, 23⟩), (8825407925360455176287467892558, ⟨8825407925360455176287467892558, 1701667182, 1701667182, .re, "RuntimeError", false, 24⟩)] : List (Nat × Xr))
  ist := ([(.c 7810757298776990018, .c 30518462483030338, false), (.c 7810757298776990018, .c 30518479662899522, false), (.c 7810757298776990018, .c 133507968132003860404527426, false), (.c 7810757298776990018, .c 30243584743858498, false), (.c 7810757298776990018, .c 8243105135092588866, false), (.c 7810757298776990018, .c 7308324465482686786, false), (.c 7810757298776990018, .c 30806551994589506, false), (.c 7810757298776990018, .c 32783473901330754, false), (.c 7810757298776990018, .c 7954882442721255746, false), (.c 7810757298776990018, .b .ke, false), (.c 7810757298776990018, .b .oe, false), (.c 7810757298776990018, .b .re, false), (.c 7810757298776990018, .c 540405614369490997310547, true), (.c 7810757298776990018, .b .ve, true), (.c 30518479662899522, .c 30518462483030338, false), (.c 30518479662899522, .c 30518479662899522, true), (.c 30518479662899522, .c 133507968132003860404527426, false), (.c 30518479662899522, .c 30243584743858498, false), (.c 30518479662899522, .c 8243105135092588866, false), (.c 30518479662899522, .c 7308324465482686786, false), (.c 30518479662899522, .c 30806551994589506, false), (.c 30518479662899522, .c 32783473901330754, false), (.c 30518479662899522, .c 7954882442721255746, false), (.c 30518479662899522, .b .ke, false), (.c 30518479662899522, .b .oe, false), (.c 30518479662899522, .b .re, false), (.c 30518479662899522, .c 540405614369490997310547, true), (.c 30518479662899522, .b .ve, true), (.c 32776859584586050, .c 30518462483030338, false), (.c 32776859584586050, .c 30518479662899522, false)] : List (Ty × Ty × Bool)) ++ ([(.c 32776859584586050, .c 133507968132003860404527426, false), (.c 32776859584586050, .c 30243584743858498, false), (.c 32776859584586050, .c 8243105135092588866, false), (.c 32776859584586050, .c 7308324465482686786, false), (.c 32776859584586050, .c 30806551994589506, false), (.c 32776859584586050, .c 32783473901330754, false), (.c 32776859584586050, .c 7954882442721255746, false), (.c 32776859584586050, .b .ke, false), (.c 32776859584586050, .b .oe, false), (.c 32776859584586050, .b .re, false), (.c 32776859584586050, .c 540405614369490997310547, true), (.c 32776859584586050, .b .ve, true), (.c 30806551994589506, .c 30518462483030338, false), (.c 30806551994589506, .c 30518479662899522, false), (.c 30806551994589506, .c 133507968132003860404527426, false), (.c 30806551994589506, .c 30243584743858498, false), (.c 30806551994589506, .c 8243105135092588866, false), (.c 30806551994589506, .c 7308324465482686786, false), (.c 30806551994589506, .c 30806551994589506, true), (.c 30806551994589506, .c 32783473901330754, false), (.c 30806551994589506, .c 7954882442721255746, false), (.c 30806551994589506, .b .ke, false), (.c 30806551994589506, .b .oe, false), (.c 30806551994589506, .b .re, false), (.c 30806551994589506, .c 540405614369490997310547, true), (.c 30806551994589506, .b .ve, true), (.c 133507968132003860404527426, .c 30518462483030338, false), (.c 133507968132003860404527426, .c 30518479662899522, false), (.c 133507968132003860404527426, .c 133507968132003860404527426, true), (.c 133507968132003860404527426, .c 30243584743858498, false)] : List (Ty × Ty × Bool)) ++ ([(.c 133507968132003860404527426, .c 8243105135092588866, false), (.c 133507968132003860404527426, .c 7308324465482686786, false), (.c 133507968132003860404527426, .c 30806551994589506, false), (.c 133507968132003860404527426, .c 32783473901330754, false), (.c 133507968132003860404527426, .c 7954882442721255746, false), (.c 133507968132003860404527426, .b .ke, false), (.c 133507968132003860404527426, .b .oe, false), (.c 133507968132003860404527426, .b .re, false), (.c 133507968132003860404527426, .c 540405614369490997310547, true), (.c 133507968132003860404527426, .b .ve, true), (.c 7310575247372345666, .c 30518462483030338, false), (.c 7310575247372345666, .c 30518479662899522, false), (.c 7310575247372345666, .c 133507968132003860404527426, false), (.c 7310575247372345666, .c 30243584743858498, false), (.c 7310575247372345666, .c 8243105135092588866, false), (.c 7310575247372345666, .c 7308324465482686786, false), (.c 7310575247372345666, .c 30806551994589506, false), (.c 7310575247372345666, .c 32783473901330754, false), (.c 7310575247372345666, .c 7954882442721255746, false), (.c 7310575247372345666, .b .ke, false), (.c 7310575247372345666, .b .oe, false), (.c 7310575247372345666, .b .re, false), (.c 7310575247372345666, .c 540405614369490997310547, true), (.c 7310575247372345666, .b .ve, true), (.c 35731532855851571056084279618, .c 30518462483030338, false), (.c 35731532855851571056084279618, .c 30518479662899522, false), (.c 35731532855851571056084279618, .c 133507968132003860404527426, false), (.c 35731532855851571056084279618, .c 30243584743858498, false), (.c 35731532855851571056084279618, .c 8243105135092588866, false), (.c 35731532855851571056084279618, .c 7308324465482686786, false)] : List (Ty × Ty × Bool)) ++ ([(.c 35731532855851571056084279618, .c 30806551994589506, false), (.c 35731532855851571056084279618, .c 32783473901330754, false), (.c 35731532855851571056084279618, .c 7954882442721255746, false), (.c 35731532855851571056084279618, .b .ke, false), (.c 35731532855851571056084279618, .b .oe, false), (.c 35731532855851571056084279618, .b .re, false), (.c 35731532855851571056084279618, .c 540405614369490997310547, true), (.c 35731532855851571056084279618, .b .ve, true), (.c 30227126546620738, .c 30518462483030338, false), (.c 30227126546620738, .c 30518479662899522, false), (.c 30227126546620738, .c 133507968132003860404527426, false), (.c 30227126546620738, .c 30243584743858498, false), (.c 30227126546620738, .c 8243105135092588866, false), (.c 30227126546620738, .c 7308324465482686786, false), (.c 30227126546620738, .c 30806551994589506, false), (.c 30227126546620738, .c 32783473901330754, false), (.c 30227126546620738, .c 7954882442721255746, false), (.c 30227126546620738, .b .ke, false), (.c 30227126546620738, .b .oe, false), (.c 30227126546620738, .b .re, false), (.c 30227126546620738, .c 540405614369490997310547, true), (.c 30227126546620738, .b .ve, true), (.c 30518462483030338, .c 30518462483030338, true), (.c 30518462483030338, .c 30518479662899522, false), (.c 30518462483030338, .c 133507968132003860404527426, false), (.c 30518462483030338, .c 30243584743858498, false), (.c 30518462483030338, .c 8243105135092588866, false), (.c 30518462483030338, .c 7308324465482686786, false), (.c 30518462483030338, .c 30806551994589506, false), (.c 30518462483030338, .c 32783473901330754, false)] : List (Ty × Ty × Bool)) ++ ([(.c 30518462483030338, .c 7954882442721255746, false), (.c 30518462483030338, .b .ke, false), (.c 30518462483030338, .b .oe, false), (.c 30518462483030338, .b .re, false), (.c 30518462483030338, .c 540405614369490997310547, true), (.c 30518462483030338, .b .ve, true), (.c 28540514364318018, .c 30518462483030338, false), (.c 28540514364318018, .c 30518479662899522, false), (.c 28540514364318018, .c 133507968132003860404527426, false), (.c 28540514364318018, .c 30243584743858498, false), (.c 28540514364318018, .c 8243105135092588866, false), (.c 28540514364318018, .c 7308324465482686786, false), (.c 28540514364318018, .c 30806551994589506, false), (.c 28540514364318018, .c 32783473901330754, false), (.c 28540514364318018, .c 7954882442721255746, false), (.c 28540514364318018, .b .ke, false), (.c 28540514364318018, .b .oe, false), (.c 28540514364318018, .b .re, false), (.c 28540514364318018, .c 540405614369490997310547, true), (.c 28540514364318018, .b .ve, true), (.c 2148284704297329123650, .c 30518462483030338, false), (.c 2148284704297329123650, .c 30518479662899522, false), (.c 2148284704297329123650, .c 133507968132003860404527426, false), (.c 2148284704297329123650, .c 30243584743858498, false), (.c 2148284704297329123650, .c 8243105135092588866, false), (.c 2148284704297329123650, .c 7308324465482686786, false), (.c 2148284704297329123650, .c 30806551994589506, false), (.c 2148284704297329123650, .c 32783473901330754, false), (.c 2148284704297329123650, .c 7954882442721255746, false), (.c 2148284704297329123650, .b .ke, false)] : List (Ty × Ty × Bool)) ++ ([(.c 2148284704297329123650, .b .oe, false), (.c 2148284704297329123650, .b .re, false), (.c 2148284704297329123650, .c 540405614369490997310547, true), (.c 2148284704297329123650, .b .ve, true), (.c 8243105135092588866, .c 30518462483030338, false), (.c 8243105135092588866, .c 30518479662899522, false), (.c 8243105135092588866, .c 133507968132003860404527426, false), (.c 8243105135092588866, .c 30243584743858498, false), (.c 8243105135092588866, .c 8243105135092588866, true), (.c 8243105135092588866, .c 7308324465482686786, false), (.c 8243105135092588866, .c 30806551994589506, false), (.c 8243105135092588866, .c 32783473901330754, false), (.c 8243105135092588866, .c 7954882442721255746, false), (.c 8243105135092588866, .b .ke, false), (.c 8243105135092588866, .b .oe, false), (.c 8243105135092588866, .b .re, false), (.c 8243105135092588866, .c 540405614369490997310547, true), (.c 8243105135092588866, .b .ve, true), (.c 30243584743858498, .c 30518462483030338, false), (.c 30243584743858498, .c 30518479662899522, false), (.c 30243584743858498, .c 133507968132003860404527426, false), (.c 30243584743858498, .c 30243584743858498, true), (.c 30243584743858498, .c 8243105135092588866, false), (.c 30243584743858498, .c 7308324465482686786, false), (.c 30243584743858498, .c 30806551994589506, false), (.c 30243584743858498, .c 32783473901330754, false), (.c 30243584743858498, .c 7954882442721255746, false), (.c 30243584743858498, .b .ke, false), (.c 30243584743858498, .b .oe, false), (.c 30243584743858498, .b .re, false)] : List (Ty × Ty × Bool)) ++ ([(.c 30243584743858498, .c 540405614369490997310547, true), (.c 30243584743858498, .b .ve, true), (.c 7308324465482686786, .c 30518462483030338, false), (.c 7308324465482686786, .c 30518479662899522, false), (.c 7308324465482686786, .c 133507968132003860404527426, false), (.c 7308324465482686786, .c 30243584743858498, false), (.c 7308324465482686786, .c 8243105135092588866, false), (.c 7308324465482686786, .c 7308324465482686786, true), (.c 7308324465482686786, .c 30806551994589506, false), (.c 7308324465482686786, .c 32783473901330754, false), (.c 7308324465482686786, .c 7954882442721255746, false), (.c 7308324465482686786, .b .ke, false), (.c 7308324465482686786, .b .oe, false), (.c 7308324465482686786, .b .re, false), (.c 7308324465482686786, .c 540405614369490997310547, true), (.c 7308324465482686786, .b .ve, true), (.c 31069365271290178, .c 30518462483030338, false), (.c 31069365271290178, .c 30518479662899522, false), (.c 31069365271290178, .c 133507968132003860404527426, false), (.c 31069365271290178, .c 30243584743858498, false), (.c 31069365271290178, .c 8243105135092588866, false), (.c 31069365271290178, .c 7308324465482686786, false), (.c 31069365271290178, .c 30806551994589506, false), (.c 31069365271290178, .c 32783473901330754, false), (.c 31069365271290178, .c 7954882442721255746, false), (.c 31069365271290178, .b .ke, false), (.c 31069365271290178, .b .oe, false), (.c 31069365271290178, .b .re, false), (.c 31069365271290178, .c 540405614369490997310547, true), (.c 31069365271290178, .b .ve, true)] : List (Ty × Ty × Bool)) ++ ([(.c 7954882442721255746, .c 30518462483030338, false), (.c 7954882442721255746, .c 30518479662899522, false), (.c 7954882442721255746, .c 133507968132003860404527426, false), (.c 7954882442721255746, .c 30243584743858498, false), (.c 7954882442721255746, .c 8243105135092588866, false), (.c 7954882442721255746, .c 7308324465482686786, false), (.c 7954882442721255746, .c 30806551994589506, false), (.c 7954882442721255746, .c 32783473901330754, false), (.c 7954882442721255746, .c 7954882442721255746, true), (.c 7954882442721255746, .b .ke, false), (.c 7954882442721255746, .b .oe, false), (.c 7954882442721255746, .b .re, false), (.c 7954882442721255746, .c 540405614369490997310547, true), (.c 7954882442721255746, .b .ve, true), (.c 32783473901330754, .c 30518462483030338, false), (.c 32783473901330754, .c 30518479662899522, false), (.c 32783473901330754, .c 133507968132003860404527426, false), (.c 32783473901330754, .c 30243584743858498, false), (.c 32783473901330754, .c 8243105135092588866, false), (.c 32783473901330754, .c 7308324465482686786, false), (.c 32783473901330754, .c 30806551994589506, false), (.c 32783473901330754, .c 32783473901330754, true), (.c 32783473901330754, .c 7954882442721255746, false), (.c 32783473901330754, .b .ke, false), (.c 32783473901330754, .b .oe, false), (.c 32783473901330754, .b .re, false), (.c 32783473901330754, .c 540405614369490997310547, true), (.c 32783473901330754, .b .ve, true), (.c 28550371180044610, .c 30518462483030338, false), (.c 28550371180044610, .c 30518479662899522, false)] : List (Ty × Ty × Bool)) ++ ([(.c 28550371180044610, .c 133507968132003860404527426, false), (.c 28550371180044610, .c 30243584743858498, false), (.c 28550371180044610, .c 8243105135092588866, false), (.c 28550371180044610, .c 7308324465482686786, false), (.c 28550371180044610, .c 30806551994589506, false), (.c 28550371180044610, .c 32783473901330754, false), (.c 28550371180044610, .c 7954882442721255746, false), (.c 28550371180044610, .b .ke, false), (.c 28550371180044610, .b .oe, false), (.c 28550371180044610, .b .re, false), (.c 28550371180044610, .c 540405614369490997310547, true), (.c 28550371180044610, .b .ve, true), (.c 1870285922602292896066, .c 30518462483030338, false), (.c 1870285922602292896066, .c 30518479662899522, false), (.c 1870285922602292896066, .c 133507968132003860404527426, false), (.c 1870285922602292896066, .c 30243584743858498, false), (.c 1870285922602292896066, .c 8243105135092588866, false), (.c 1870285922602292896066, .c 7308324465482686786, false), (.c 1870285922602292896066, .c 30806551994589506, false), (.c 1870285922602292896066, .c 32783473901330754, false), (.c 1870285922602292896066, .c 7954882442721255746, false), (.c 1870285922602292896066, .b .ke, false), (.c 1870285922602292896066, .b .oe, false), (.c 1870285922602292896066, .b .re, false), (.c 1870285922602292896066, .c 540405614369490997310547, true), (.c 1870285922602292896066, .b .ve, true), (.c 28559193059647810, .c 30518462483030338, false), (.c 28559193059647810, .c 30518479662899522, false), (.c 28559193059647810, .c 133507968132003860404527426, false), (.c 28559193059647810, .c 30243584743858498, false)] : List (Ty × Ty × Bool)) ++ ([(.c 28559193059647810, .c 8243105135092588866, false), (.c 28559193059647810, .c 7308324465482686786, false), (.c 28559193059647810, .c 30806551994589506, false), (.c 28559193059647810, .c 32783473901330754, false), (.c 28559193059647810, .c 7954882442721255746, false), (.c 28559193059647810, .b .ke, false), (.c 28559193059647810, .b .oe, false), (.c 28559193059647810, .b .re, false), (.c 28559193059647810, .c 540405614369490997310547, true), (.c 28559193059647810, .b .ve, true), (.c 121450172539202, .c 30518462483030338, false), (.c 121450172539202, .c 30518479662899522, false), (.c 121450172539202, .c 133507968132003860404527426, false), (.c 121450172539202, .c 30243584743858498, false), (.c 121450172539202, .c 8243105135092588866, false), (.c 121450172539202, .c 7308324465482686786, false), (.c 121450172539202, .c 30806551994589506, false), (.c 121450172539202, .c 32783473901330754, false), (.c 121450172539202, .c 7954882442721255746, false), (.c 121450172539202, .b .ke, false), (.c 121450172539202, .b .oe, false), (.c 121450172539202, .b .re, false), (.c 121450172539202, .c 540405614369490997310547, true), (.c 121450172539202, .b .ve, true), (.c 2147777197191935058242, .c 30518462483030338, false), (.c 2147777197191935058242, .c 30518479662899522, false), (.c 2147777197191935058242, .c 133507968132003860404527426, false), (.c 2147777197191935058242, .c 30243584743858498, false), (.c 2147777197191935058242, .c 8243105135092588866, false), (.c 2147777197191935058242, .c 7308324465482686786, false)] : List (Ty × Ty × Bool)) ++ ([(.c 2147777197191935058242, .c 30806551994589506, false), (.c 2147777197191935058242, .c 32783473901330754, false), (.c 2147777197191935058242, .c 7954882442721255746, false), (.c 2147777197191935058242, .b .ke, false), (.c 2147777197191935058242, .b .oe, false), (.c 2147777197191935058242, .b .re, false), (.c 2147777197191935058242, .c 540405614369490997310547, true), (.c 2147777197191935058242, .b .ve, true), (.c 122618040713471390674284117, .c 30518462483030338, false), (.c 122618040713471390674284117, .c 30518479662899522, false), (.c 122618040713471390674284117, .c 133507968132003860404527426, false), (.c 122618040713471390674284117, .c 30243584743858498, false), (.c 122618040713471390674284117, .c 8243105135092588866, false), (.c 122618040713471390674284117, .c 7308324465482686786, false), (.c 122618040713471390674284117, .c 30806551994589506, false), (.c 122618040713471390674284117, .c 32783473901330754, false), (.c 122618040713471390674284117, .c 7954882442721255746, false), (.c 122618040713471390674284117, .b .ke, true), (.c 122618040713471390674284117, .b .oe, false), (.c 122618040713471390674284117, .b .re, false), (.c 122618040713471390674284117, .c 540405614369490997310547, false), (.c 122618040713471390674284117, .b .ve, false), (.c 34179836372021076, .c 30518462483030338, false), (.c 34179836372021076, .c 30518479662899522, false), (.c 34179836372021076, .c 133507968132003860404527426, false), (.c 34179836372021076, .c 30243584743858498, false), (.c 34179836372021076, .c 8243105135092588866, false), (.c 34179836372021076, .c 7308324465482686786, false), (.c 34179836372021076, .c 30806551994589506, false), (.c 34179836372021076, .c 32783473901330754, false)] : List (Ty × Ty × Bool)) ++ ([(.c 34179836372021076, .c 7954882442721255746, false), (.c 34179836372021076, .b .ke, false), (.c 34179836372021076, .b .oe, true), (.c 34179836372021076, .b .re, false), (.c 34179836372021076, .c 540405614369490997310547, false), (.c 34179836372021076, .b .ve, false), (.c 8825407925360455176287467892558, .c 30518462483030338, false), (.c 8825407925360455176287467892558, .c 30518479662899522, false), (.c 8825407925360455176287467892558, .c 133507968132003860404527426, false), (.c 8825407925360455176287467892558, .c 30243584743858498, false), (.c 8825407925360455176287467892558, .c 8243105135092588866, false), (.c 8825407925360455176287467892558, .c 7308324465482686786, false), (.c 8825407925360455176287467892558, .c 30806551994589506, false), (.c 8825407925360455176287467892558, .c 32783473901330754, false), (.c 8825407925360455176287467892558, .c 7954882442721255746, false), (.c 8825407925360455176287467892558, .b .ke, false), (.c 8825407925360455176287467892558, .b .oe, false), (.c 8825407925360455176287467892558, .b .re, true), (.c 8825407925360455176287467892558, .c 540405614369490997310547, false), (.c 8825407925360455176287467892558, .b .ve, false)] : List (Ty × Ty × Bool))
  kls := [540405614369490997310547, 30518479662899522, 30806551994589506, 133507968132003860404527426, 30518462483030338, 8243105135092588866, 30243584743858498, 7308324465482686786, 7954882442721255746, 32783473901330754]
abbrev Rr : PySem.W.OpenRow := PySem.W.OpenLaw.row PySem.Challenge.rw_steadycalls_k20_errors
abbrev hk : PySem.W.Hook := hookQ 5 (qB ds T) ds
def ob (s : PySem.W.SharedT) : AlQ := obsQG 5 (qB ds T) ds (HandSHeadRun.getT s)
theorem ob_eq (s : PySem.W.SharedT) : ob s = hk.obs s.abs := obsQG_eq (HandSHeadRun.getT_eq s)
abbrev loose : List Str := (["StoreError", "BadLabel", "BadCell", "BadPart", "BadTerm", "BadFunction", "BadState", "BadArguments", "BadTick", "BadCall", "BadTree", "BadOutput", "BadOrder", "BadMark", "BadTable", "BadPlan", "BadToken", "BadText", "BadLine", "BadChance", "BadMove", "BadRun", "BadMoment", "UnknownName", "TooMany", "NothingToUndo", "_law_pool", "_law_draw", "_law_pick", "_law_later_right"] : List PySem.Str)
end K20
-- lawi 32

namespace K20
open PySem PySem.Spec PyProof.Rows L2 Ev
theorem st : sB ds T 0 = true := by kernel_rfl
end K20

set_option Elab.async false
set_option linter.all false
set_option maxRecDepth 100000
set_option maxHeartbeats 0
namespace K20
open PySem PySem.Spec PyProof.Rows L2 Ev
theorem run (w : World) : HandSHeadRun.RunEq Rr (PySem.W.view Rr.prog [32]) hk ob 20000 loose w := by
  intro os
  kernel_rfl
end K20

set_option Elab.async false
set_option linter.all false
set_option maxRecDepth 100000
set_option maxHeartbeats 0
namespace K20
open PySem PySem.Spec Ev
abbrev P : Prog := (T.data 0).P
def exs (l : List (Nat × Nat)) (v : Val) : List Val := l.map fun q => .exo q.1 q.2 v
def la : List (Nat × Nat) := [(30518462483030338, 517097156201), (28540514364318018, 1701147252), (2148284704297329123650, 517097156201), (8243105135092588866, 517097156201), (30243584743858498, 517097156201), (7308324465482686786, 517097156201), (31069365271290178, 1851878512), (7954882442721255746, 474147942260), (32783473901330754, 517097156201), (28550371180044610, 1701734764), (1870285922602292896066, 517097156201), (28559193059647810, 517097156201), (121450172539202, 517097156201), (2147777197191935058242, 128017496895341)]
def ot : List (Nat × Nat) := [(122618040713471390674284117, 1701667182), (34179836372021076, 499984984428), (8825407925360455176287467892558, 1701667182)]
abbrev I2 : S := .ifs (.cmp .ne (.lc true .it [(.v 2)] (.v 4) [(.or [(.not (.isin (.v 4) (.c 540405614369490997310547))), (.not (.isin (.v 4) (.b .ve)))])] (.v 4)) (.lst true [])) [.ret (.c (.bl false))] []
theorem e28 : f28.body = f28.body.take 4 ++ (I1 14 1 3 0 :: ((f28.body.drop 5).take 2 ++ (I2 :: f28.body.drop 8))) := rfl
theorem later_ok {m : Nat} {v : Val} {x : Str} {s : Ev.St} (h : Rp v x) (hs : Fresh s) : evF P (m + 1) 154732543826880782743800933828618447967 [v] s = .ok (.bl true) ⟨s.n + 2, s.m⟩ := by
  refine r_fn (F := f28) (by kernel_rfl) rfl ?_
  show evSs P.T (evF P m) P.w f28.body [some v, none, none, none, none] s = _
  rw [e28]
  refine r_app (e1 := [some v, some (.lst (List.replicate 14 v)), none, none, none]) (s1 := s) (by kernel_rfl) ?_
  have h1 : evS P.T (evF P m) P.w (I1 14 1 3 0) [some v, some (.lst (List.replicate 14 v)), none, none, none] s = .ok (.nx [some v, some (.lst (List.replicate 14 v)), none, none, none]) ⟨s.n + 1, s.m⟩ :=
    i1_ok (n := 14) h hs (by decide) (fun s => by kernel_rfl) rfl rfl (by show 3 < 5; decide)
  have h3 : evE P.T (evF P m) (.lc true .it [(.v 2)] (.v 4) [(.or [(.not (.isin (.v 4) (.c 540405614369490997310547))), (.not (.isin (.v 4) (.b .ve)))])] (.v 4)) [some v, some (.lst (List.replicate 14 v)), some (.lst (exs la v)), none, none] ⟨s.n + 1, s.m⟩ = .ok (.lst []) ⟨s.n + 1 + 1, s.m⟩ := by
    refine lc_ok (r_evs (r_v rfl) rfl) rfl (cp_none fun y hy => ?_) (by decide) (hs.next 1)
    obtain ⟨q, hq, rfl⟩ := List.mem_map.mp hy
    refine ⟨[some v, some (.lst (List.replicate 14 v)), some (.lst (exs la v)), none, some (.exo q.1 q.2 v)], rfl, fun s => ?_⟩
    simp only [la, List.mem_cons, List.not_mem_nil, or_false] at hq
    rcases hq with rfl | rfl | rfl | rfl | rfl | rfl | rfl | rfl | rfl | rfl | rfl | rfl | rfl | rfl <;> kernel_rfl
  refine r_hd (by simp) h1 ?_
  refine r_app (e1 := [some v, some (.lst (List.replicate 14 v)), some (.lst (exs la v)), none, none]) (s1 := ⟨s.n + 1, s.m⟩) (by kernel_rfl) ?_
  have h4 : evS P.T (evF P m) P.w I2 [some v, some (.lst (List.replicate 14 v)), some (.lst (exs la v)), none, none] ⟨s.n + 1, s.m⟩ = .ok (.nx [some v, some (.lst (List.replicate 14 v)), some (.lst (exs la v)), none, none]) ⟨s.n + 1 + 1, s.m⟩ :=
    r_ifs (k := false) (r_cmp (z := .bl false) (s3 := ⟨s.n + 1 + 1, s.m⟩) h3 (r_lst rfl) (by kernel_rfl)) rfl (fun z => nomatch z) fun _ => rfl
  refine r_hd (fun z => by cases z) h4 ?_
  kernel_rfl
/-! ### the law -/
abbrev I3 : S := .ifs (.not (.call 154732543826880782743800933828618447967 [(.v 3)])) [.ret (.c (.bl false))] []
abbrev I4 : S := .ifs (.or [(.cmp .ne (.lc true .it [(.v 7)] (.v 6) [(.isin (.v 6) (.c 540405614369490997310547))] (.v 6)) (.lst true [])), (.not (.isin (.ix (.v 7) (.c (.int 0))) (.b .ke)))]) [.ret (.c (.bl false))] []
def forE (s : S) : List E := match s with
  | .for _ _ es _ => es
  | _ => []
def forB (s : S) : List S := match s with
  | .for _ _ _ b => b
  | _ => []
def B1 : List S := forB (f29.body.getD 0 .pass)
def B2 : List S := forB (B1.getD 1 .pass)
theorem eB2 : B2 = I3 :: ((B2.drop 1).take 3 ++ (I1 11 4 8 3 :: ((B2.drop 5).take 3 ++ (I4 :: B2.drop 9)))) := rfl
theorem inner_ok {m : Nat} {v : Val} {x : Str} {s : Ev.St} {a b c o4 o5 o6 o7 o8 : Option Val} (h : Rp v x) (hs : Fresh s) : ∃ o4' o5' o6' o7',
    evSs P.T (evF P (m + 1)) P.w B2 [a, b, c, some v, o4, o5, o6, o7, o8] s = .ok (.nx [a, b, c, some v, o4', o5', o6', o7', o8]) ⟨s.n + 4, s.m⟩ := by
  generalize hE1 : (match evSs P.T (evF P (m + 1)) P.w ((B2.drop 5).take 3) [a, b, c, some v, some (.lst (List.replicate 11 v)), o5, o6, o7, o8] ⟨0, []⟩ with
    | .ok (.nx e) _ => e
    | _ => []) = E1
  refine ⟨some (.lst (List.replicate 11 v)), (E1[5]?).join, (E1[6]?).join, (E1[7]?).join, ?_⟩
  have q1 : evS P.T (evF P (m + 1)) P.w I3 [a, b, c, some v, o4, o5, o6, o7, o8] s = .ok (.nx [a, b, c, some v, o4, o5, o6, o7, o8]) ⟨s.n + 2, s.m⟩ :=
    r_ifs (k := false) (r_not (b := true) (r_call1 (r_v rfl) (later_ok h hs)) rfl) rfl (fun z => nomatch z) fun _ => rfl
  have q2 : evS P.T (evF P (m + 1)) P.w (I1 11 4 8 3) [a, b, c, some v, some (.lst (List.replicate 11 v)), o5, o6, o7, o8] ⟨s.n + 2, s.m⟩ = .ok (.nx [a, b, c, some v, some (.lst (List.replicate 11 v)), o5, o6, o7, o8]) ⟨s.n + 3, s.m⟩ :=
    i1_ok (n := 11) h (hs.next 2) (by decide) (fun s => by kernel_rfl) rfl rfl (by show 8 < 9; decide)
  have r3 : evSs P.T (evF P (m + 1)) P.w ((B2.drop 5).take 3) [a, b, c, some v, some (.lst (List.replicate 11 v)), o5, o6, o7, o8] ⟨s.n + 3, s.m⟩ = .ok (.nx [a, b, c, some v, some (.lst (List.replicate 11 v)), (E1[5]?).join, (E1[6]?).join, some (.lst (exs ot v)), o8]) ⟨s.n + 3, s.m⟩ := by
    rw [← hE1]
    kernel_rfl
  have r4 : (E1[7]?).join = some (.lst (exs ot v)) := by
    rw [← hE1]
    kernel_rfl
  have r5 : ∃ z, (E1[5]?).join = z ∧ ∀ s o4 o6, evSs P.T (evF P (m + 1)) P.w (B2.drop 9) [a, b, c, some v, o4, z, o6, some (.lst (exs ot v)), o8] s = .ok (.nx [a, b, c, some v, o4, z, o6, some (.lst (exs ot v)), o8]) s := by
    rw [← hE1]
    exact ⟨_, rfl, fun s o4 o6 => by kernel_rfl⟩
  obtain ⟨z5, r5, r6⟩ := r5
  rw [r5] at r3 ⊢
  rw [r4]
  generalize (E1[6]?).join = z6 at r3 ⊢
  have h3 : evE P.T (evF P (m + 1)) (.lc true .it [(.v 7)] (.v 6) [(.isin (.v 6) (.c 540405614369490997310547))] (.v 6)) [a, b, c, some v, some (.lst (List.replicate 11 v)), z5, z6, some (.lst (exs ot v)), o8] ⟨s.n + 3, s.m⟩ = .ok (.lst []) ⟨s.n + 3 + 1, s.m⟩ := by
    refine lc_ok (r_evs (r_v rfl) rfl) rfl (cp_none fun y hy => ?_) (by decide) (hs.next 3)
    obtain ⟨q, hq, rfl⟩ := List.mem_map.mp hy
    refine ⟨[a, b, c, some v, some (.lst (List.replicate 11 v)), z5, some (.exo q.1 q.2 v), some (.lst (exs ot v)), o8], rfl, fun s => ?_⟩
    simp only [ot, List.mem_cons, List.not_mem_nil, or_false] at hq
    rcases hq with rfl | rfl | rfl <;> kernel_rfl
  have q3 : evS P.T (evF P (m + 1)) P.w I4 [a, b, c, some v, some (.lst (List.replicate 11 v)), z5, z6, some (.lst (exs ot v)), o8] ⟨s.n + 3, s.m⟩ = .ok (.nx [a, b, c, some v, some (.lst (List.replicate 11 v)), z5, z6, some (.lst (exs ot v)), o8]) ⟨s.n + 4, s.m⟩ :=
    r_ifs (k := false) (r_or2 (r_cmp (z := .bl false) (s3 := ⟨s.n + 3 + 1, s.m⟩) h3 (r_lst rfl) (by kernel_rfl)) rfl (y := .bl false) (s2 := ⟨s.n + 3 + 1, s.m⟩) (by kernel_rfl)) rfl (fun z => nomatch z) fun _ => rfl
  rw [eB2]
  refine r_hd (by simp) q1 ?_
  refine r_app (e1 := [a, b, c, some v, some (.lst (List.replicate 11 v)), o5, o6, o7, o8]) (s1 := ⟨s.n + 2, s.m⟩) (by kernel_rfl) ?_
  refine r_hd (by simp) q2 ?_
  refine r_app r3 ?_
  refine r_hd (fun z => by cases z) q3 ?_
  exact r6 _ _ _
theorem loop6 {m : Nat} {a b c : Option Val} : ∀ {vs : List Val} {o3 o4 o5 o6 o7 o8 : Option Val} {s : Ev.St}, (∀ v ∈ vs, ∃ x, Rp v x) → Fresh s → ∃ o3' o4' o5' o6' o7' n,
    loopV (fun e t => evSs P.T (evF P (m + 1)) P.w B2 e t) (.v 3) vs [a, b, c, o3, o4, o5, o6, o7, o8] s = .ok (.nx [a, b, c, o3', o4', o5', o6', o7', o8]) ⟨s.n + n, s.m⟩
  | [], o3, o4, o5, o6, o7, o8, s, _, _ => ⟨o3, o4, o5, o6, o7, 0, rfl⟩
  | v :: vs, o3, o4, o5, o6, o7, o8, s, h, hs => by
    obtain ⟨x, hx⟩ := h v (List.mem_cons_self ..)
    obtain ⟨p4, p5, p6, p7, q⟩ := inner_ok (m := m) (a := a) (b := b) (c := c) (o4 := o4) (o5 := o5) (o6 := o6) (o7 := o7) (o8 := o8) hx hs
    obtain ⟨r3, r4, r5, r6, r7, n, r⟩ := loop6 (m := m) (a := a) (b := b) (c := c) (vs := vs) (o3 := some v) (o4 := p4) (o5 := p5) (o6 := p6) (o7 := p7) (o8 := o8) (s := ⟨s.n + 4, s.m⟩) (fun z hz => h z (List.mem_cons_of_mem _ hz)) (hs.next 4)
    refine ⟨r3, r4, r5, r6, r7, 4 + n, r_loop rfl q ?_⟩
    rw [r]
    show R.ok _ (⟨s.n + 4 + n, s.m⟩ : Ev.St) = _
    rw [Nat.add_assoc]
theorem rp_x : Rp (.str "x") (PySem.PyData.shown (.str "x")) := ⟨fun s => by kernel_rfl, by kernel_rfl⟩
theorem rp_n : Rp .non (PySem.PyData.shown .none) := ⟨fun s => by kernel_rfl, by kernel_rfl⟩
theorem rp_l : Rp (.lst [.int 1]) (PySem.PyData.shown (.list [.int 1])) := ⟨fun s => by kernel_rfl, by kernel_rfl⟩
theorem rp_t : Rp (.tup []) (PySem.PyData.shown (.tuple [])) := ⟨fun s => by kernel_rfl, by kernel_rfl⟩
theorem rp_b : Rp (.bl true) (PySem.PyData.shown (.bool true)) := ⟨fun s => by kernel_rfl, by kernel_rfl⟩
theorem eB1 : B1 = [.asg (.v 2) (.call 2000278120176583535711 [(.v 0), (.v 1)]), .for (.v 3) .it [(.lst true [(.call 2202184329901648211039 [(.v 2), (.bin .pow (.c (.int 10)) (.c (.int 9)))]), (.c (.str "x")), (.c .non), (.lst true [(.c (.int 1))]), (.tup []), (.c (.bl true))])] B2] := rfl
theorem cell_ok {m : Nat} {ns : List Int} {k : Int} {o2 o3 o4 o5 o6 o7 o8 : Option Val} {s : Ev.St} (h0 : 0 ≤ k) (h1 : k ≤ 1000) (hs : Fresh s) : ∃ o2' o3' o4' o5' o6' o7' s',
    evSs P.T (evF P (m + 2)) P.w B1 [some (.fr (ns.map Val.int)), some (.int k), o2, o3, o4, o5, o6, o7, o8] s = .ok (.nx [some (.fr (ns.map Val.int)), some (.int k), o2', o3', o4', o5', o6', o7', o8]) s' ∧ Fresh s' := by
  obtain ⟨a, b, hp⟩ := pool_ok (P := P) (m := m + 1) (c := 2000278120176583535711) (ns := ns) (k := k) (s := s) (by kernel_rfl) h0 h1
  have hg : (s.new (.lst [.int a, .int b])).get s.n = some (.lst [.int a, .int b]) := by
    show (match natEq s.n s.n with | true => some (Ob.lst [.int a, .int b]) | false => lookN s.n s.m) = _
    rw [natEq_iff.mpr rfl]
  obtain ⟨r, a', b', hr0, hr1, hd⟩ := draw_ok (P := P) (m := m + 1) (c := 2202184329901648211039) (n := 1000000000) (by kernel_rfl) hg (by decide) (by decide)
  have fr : Fresh ((s.new (.lst [.int a, .int b])).put s.n (.lst [.int a', .int b'])) := (hs.new _).put _ (Nat.lt_succ_self _)
  generalize hs2 : (s.new (.lst [.int a, .int b])).put s.n (.lst [.int a', .int b']) = s2 at hd fr
  obtain ⟨r3, r4, r5, r6, r7, n, q⟩ := loop6 (m := m + 1) (a := some (.fr (ns.map Val.int))) (b := some (.int k)) (c := some (.ref s.n)) (vs := [.int r, .str "x", .non, .lst [.int 1], .tup [], .bl true]) (o3 := o3) (o4 := o4) (o5 := o5) (o6 := o6) (o7 := o7) (o8 := o8) (s := s2)
    (fun v hv => by
      simp only [List.mem_cons, List.not_mem_nil, or_false] at hv
      rcases hv with rfl | rfl | rfl | rfl | rfl | rfl
      · exact ⟨_, rp_int hr0 hr1⟩
      · exact ⟨_, rp_x⟩
      · exact ⟨_, rp_n⟩
      · exact ⟨_, rp_l⟩
      · exact ⟨_, rp_t⟩
      · exact ⟨_, rp_b⟩) fr
  refine ⟨some (.ref s.n), r3, r4, r5, r6, r7, ⟨s2.n + n, s2.m⟩, ?_, fr.next n⟩
  rw [eB1]
  refine r_cons (r_asg (r_call2 (r_v rfl) (r_v rfl) hp) rfl) ?_
  refine r_for (xs := [.lst [.int r, .str "x", .non, .lst [.int 1], .tup [], .bl true]]) (s1 := s2) (r_evs (r_lst (r_evs (r_call2 (r_v rfl) (r_bin (z := .int 1000000000) (s3 := s.new (.lst [.int a, .int b])) rfl rfl (by kernel_rfl)) hd) (by kernel_rfl))) rfl) rfl ?_
  exact q
theorem loopK {m : Nat} {ns : List Int} : ∀ {vs : List Val} {o1 o2 o3 o4 o5 o6 o7 o8 : Option Val} {s : Ev.St}, (∀ v ∈ vs, ∃ i : Int, v = .int i ∧ 0 ≤ i ∧ i ≤ 1000) → Fresh s → ∃ e s',
    loopV (fun e t => evSs P.T (evF P (m + 2)) P.w B1 e t) (.v 1) vs [some (.fr (ns.map Val.int)), o1, o2, o3, o4, o5, o6, o7, o8] s = .ok (.nx e) s'
  | [], o1, o2, o3, o4, o5, o6, o7, o8, s, _, _ => ⟨_, _, rfl⟩
  | v :: vs, o1, o2, o3, o4, o5, o6, o7, o8, s, h, hs => by
    obtain ⟨i, rfl, h0, h1⟩ := h v (List.mem_cons_self ..)
    obtain ⟨p2, p3, p4, p5, p6, p7, s', q, fr⟩ := cell_ok (m := m) (ns := ns) (o2 := o2) (o3 := o3) (o4 := o4) (o5 := o5) (o6 := o6) (o7 := o7) (o8 := o8) h0 h1 hs
    obtain ⟨e, s'', r⟩ := loopK (m := m) (ns := ns) (vs := vs) (o1 := some (.int i)) (o2 := p2) (o3 := p3) (o4 := p4) (o5 := p5) (o6 := p6) (o7 := p7) (o8 := o8) (s := s') (fun z hz => h z (List.mem_cons_of_mem _ hz)) fr
    exact ⟨e, s'', r_loop rfl q r⟩
theorem eF : f29.body = [.for (.v 1) .range [(.bi .max [(.c (.int 1)), (.bi .min [(.bi .len [(.v 0)]), (.c (.int 2))])])] B1, .ret (.c (.bl true))] := rfl
theorem law_ok (ns : List Int) : ∃ st, evF P 3 7823724 [.fr (ns.map Val.int)] ⟨0, []⟩ = .ok (.bl true) st := by
  generalize hN : (if (if (2 : Int) < ((ns.map Val.int).length : Int) then 2 else ((ns.map Val.int).length : Int)) > 1 then (if (2 : Int) < ((ns.map Val.int).length : Int) then 2 else ((ns.map Val.int).length : Int)) else 1) = N
  have hb : 0 ≤ N ∧ N ≤ 2 := by
    rw [← hN]
    split <;> split <;> omega
  have sm : smallB N = true := by
    unfold smallB
    rw [decide_eq_true (by omega), decide_eq_true (by omega)]
    rfl
  obtain ⟨e, s', q⟩ := loopK (m := 0) (ns := ns) (vs := rangeV 0 N.toNat) (o1 := none) (o2 := none) (o3 := none) (o4 := none) (o5 := none) (o6 := none) (o7 := none) (o8 := none) (s := ⟨0, []⟩) (fun v hv => by
    obtain ⟨i, e, h1, h2⟩ := range_mem hv
    exact ⟨i, e, h1, by omega⟩) (fun y hy => by cases hy)
  refine ⟨s', r_fn (F := f29) (by kernel_rfl) rfl ?_⟩
  show evSs P.T (evF P 2) P.w f29.body [some (.fr (ns.map Val.int)), none, none, none, none, none, none, none, none] ⟨0, []⟩ = _
  rw [eF]
  refine r_cons (r_for (xs := [.int N]) (items := rangeV 0 N.toNat) (r_evs (r_bi2 (x := .int 1) rfl (r_bi2 (r_bi1 (r_v rfl) rfl) rfl rfl) (by rw [← hN]; rfl)) rfl) ?_ q) (r_ret rfl)
  show (match smallB N with | true => some (rangeV 0 N.toNat) | false => none) = _
  rw [sm]
def cLaw : Nat := 7823724
theorem law_at {K : PySem.W.Frag} {h : Heap} {mg : Str → Option Value} (X : K.In h) (G : h.Ns mainGlobals mg) (hq : qB ds T K = true) : mg "law" = some (.ref ((gmOf ds T K).ga cLaw)) := by
  obtain ⟨_, hq⟩ := dec2 hq
  obtain ⟨q2, _⟩ := dec2 hq
  have e : nt cLaw = "law" := by decide +kernel
  rw [← e]
  exact isMg_ok X G (List.all_eq_true.mp q2 cLaw (by decide +kernel))
end K20

set_option Elab.async false
set_option linter.all false
set_option maxRecDepth 100000
set_option maxHeartbeats 0
open PySem PySem.W PySem.Calls PyProof.Rows
theorem PySem.Challenge.cw_steadycalls_k20_errors_holds : PySem.Challenge.rw_steadycalls_k20_errors.Holds := by
  w_on; o_law
  refine HandSHeadRun.head_any (r := OpenLaw.row PySem.Challenge.rw_steadycalls_k20_errors) (q := view (OpenLaw.row PySem.Challenge.rw_steadycalls_k20_errors).prog [32]) (H := K20.hk) (ob := K20.ob) (M := 20000) (loose := K20.loose) (d := HandSHeadRun.topDef (OpenLaw.row PySem.Challenge.rw_steadycalls_k20_errors).prog 32) (kwd := []) K20.ob_eq
    (by kernel_rfl) (fun s => by kernel_rfl) K20.run (by kernel_rfl) (by kernel_rfl) (by kernel_rfl) (by rfl) (by first | assumption | decide +kernel) (by decide +kernel) ⟨rfl, rfl, rfl, rfl, rfl, by decide +kernel⟩ ?hw ?hc
  case hw => w_witness2
  case hc =>
    refine Ev.walk_ev (l := PySem.Challenge.rw_steadycalls_k20_errors) (n := 63) (m := 3) (f := K20.cLaw) (F := K20.f29) rfl (by decide) (by kernel_rfl) ⟨rfl, by decide, by decide⟩ ?F
    intro w mg fa h Y G hmg0
    obtain ⟨K, KX, c⟩ := Y
    obtain ⟨c1, c2⟩ := Ev.saysQ c
    refine ⟨K20.T.data 0, Ev.gmOf K20.ds K20.T K, KX, Ev.fx_of KX G c1 K20.st c2, by kernel_rfl, rfl, ?_, fun ns _ => K20.law_ok ns⟩
    have hmg : mg ("law" : PySem.Str) = some (.ref fa) := by
      have e : (HandSHeadRun.topDef (OpenLaw.row PySem.Challenge.rw_steadycalls_k20_errors).prog 32).name = ("law" : PySem.Str) := by kernel_rfl
      rw [← e]
      exact hmg0
    have hl := K20.law_at KX G c1
    rw [hmg] at hl
    exact (Value.ref.inj (Option.some.inj hl)).symm
