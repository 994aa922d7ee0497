import PyProof.Rows.All
import Wide.All
import OpenK.AllK
import Wide.FinOn
import HandS.ForMost
import HandS.Exc
import HandS.Deep
import HandS.Style
import HandS.IsInst
import HandS.WordsDict
import KE.KExcStr
import KE.KExcIs
import HandS.ExcInit
import HandS.Property
import HandS.Comp
import HandS.Iter
import HandS.ExcField
import HandS.Dict
import HandS.ExcSuper
import KE.KExcSuper
import HandS.ExcValue
import HandS.Ends
import HandS.ForDict
import PySem.Challenge.RW_secondhands_k01_errors_made
set_option Elab.async false
set_option linter.all false
set_option maxRecDepth 100000
/-! Lt0: a small language of values, objects and trees, with an evaluator: what the programs of this house are run in. -/
namespace Lt
open PySem L2

/-- values: tuples stand for themselves, all that may change stands in the store -/
inductive D where
  | non | bl (b : Bool) | int (i : Int) | str (s : Str) | tup (l : List D) | rol (l : List D) | ref (i : Nat)

/-- objects of the store -/
inductive O where
  | lst (xs : List D)
  | dct (kvs : List (Key × D))
  | ins (c : Nat) (fs : List (Str × D))
  | exc (c : Nat) (fs : List (Str × D)) (msg : Option Str)

abbrev Mu := List O
abbrev Fr := List (Option D)

inductive R (α : Type) where
  | ok (a : α) (m : Mu)
  | exc (c : Nat) (fs : List (Str × D)) (m : Mu)
  | no

def R.bind {α β : Type} (r : R α) (f : α → Mu → R β) : R β := match r with
  | .ok a m => f a m
  | .exc c fs m => .exc c fs m
  | .no => .no

/-- what a statement comes to -/
inductive RS where
  | nx (r : Fr) (m : Mu)
  | ret (d : D) (r : Fr) (m : Mu)
  | brk (r : Fr) (m : Mu)
  | ct (r : Fr) (m : Mu)
  | exc (c : Nat) (fs : List (Str × D)) (r : Fr) (m : Mu)
  | no

/-- a class that isinstance asks for -/
inductive Ty where
  | py (n : String)
  | cls (c : Nat)
  deriving DecidableEq

/-- built-in functions -/
inductive BI where
  | len | abs | int | min2 | max2 | repr | str | list | tuple | all | any | sorted
  deriving DecidableEq

/-- what a for's or a comprehension's target is: a name, or names -/
inductive LG where
  | nm (i : Nat)
  | tp (is : List Nat)

mutual
inductive LE where
  | var (i : Nat)
  | cst (d : D)
  | bin (op : Operator) (a b : LE)
  | neg (a : LE)
  | cmp (op : CmpOp) (a b : LE)
  | chain (op op' : CmpOp) (a b c : LE)
  | and (a b : LE)
  | or (a b : LE)
  | not (a : LE)
  | ite (c a b : LE)
  | tup (as : LA)
  | lst (as : LA)
  | dct (as : LA)
  | ix (a i : LE)
  | sl (a lo hi : LE)
  | attr (a : LE) (f : Str)
  | fn (f : Nat) (as : LA)
  | mk (c : Nat) (as : LA)
  | bi (b : BI) (as : LA)
  | isi (a : LE) (ts : List Ty)
  | meth (a : LE) (m : Str) (as : LA)
  | comp (own : List Nat) (tg : LG) (it : LI) (c : LA) (e : LE)
inductive LA where
  | nil
  | cons (e : LE) (as : LA)
inductive LI where
  | exp (e : LE)
  | rng (a : LE)
  | enum (a : LE)
end

inductive LT where
  | nm (i : Nat)
  | tp (is : List Nat)
  | sub (o k : LE)
  | at (o : LE) (f : Str)

mutual
inductive LS where
  | asg (t : LT) (e : LE)
  | par (is : List Nat) (es : LA)
  | expr (e : LE)
  | ret (e : LE)
  | retN
  | ite (c : LE) (a b : LB)
  | for (tg : LG) (it : LI) (b : LB)
  | while (c : LE) (b : LB)
  | raise (c : Nat) (as : LA)
  | pass
  | brk
  | cont
inductive LB where
  | nil
  | cons (s : LS) (r : LB)
end

structure LFn where
  np : Nat
  ns : Nat
  body : LB

structure LCls where
  exc : Bool
  bases : List Nat
  init : Option Nat
  field : Option Str
  fields : List Str
  meths : List (Str × Nat)
  props : List (Str × Nat)

structure Pg where
  fns : List LFn
  cls : List LCls
  fuel : Nat

/-! ### the store -/
/-- a list's items -/
def lst? (μ : Mu) (d : D) : Option (List D) := match d with
  | .ref i => (match μ[i]? with
    | some (.lst xs) => some xs
    | _ => none)
  | .rol xs => some xs
  | _ => none
def wl? (μ : Mu) (i : Nat) : Option (List D) := match μ[i]? with
  | some (.lst xs) => some xs
  | _ => none
def dct? (μ : Mu) (i : Nat) : Option (List (Key × D)) := match μ[i]? with
  | some (.dct kvs) => some kvs
  | _ => none
def new (μ : Mu) (o : O) : R D := .ok (.ref μ.length) (μ ++ [o])
/-- a dict's look-up -/
def kLook (kvs : List (Key × D)) (k : Key) : Option D := (kvs.find? fun kv => decide (kv.1 = k)).map (·.2)
def key? : D → Option Key
  | .int i => some (.inl i)
  | .str s => some (.inr s)
  | _ => none

/-- a value read as plain data -/
def toP : Nat → Mu → D → Option PyData
  | 0, _, _ => none
  | _ + 1, _, .non => some .none
  | _ + 1, _, .bl b => some (.bool b)
  | _ + 1, _, .int i => some (.int i)
  | _ + 1, _, .str s => some (.str s)
  | n + 1, μ, .tup l => (l.mapM (toP n μ)).map .tuple
  | n + 1, μ, .rol l => (l.mapM (toP n μ)).map .list
  | n + 1, μ, .ref i => match μ[i]? with
    | some (.lst xs) => (xs.mapM (toP n μ)).map .list
    | some (.dct kvs) => (kvs.mapM fun kv => (toP n μ kv.2).map fun v => ((match kv.1 with
        | .inl i => PyData.int i
        | .inr s => PyData.str s), v)).map .dict
    | _ => none


/-! ### operators -/
/-- two values as data, both of a shape that == can read -/
def shaped2 (μ : Mu) (x y : D) : Option (PyData × PyData) := match toP 60 μ x, toP 60 μ y with
  | some p, some q => if SeqAt.shaped p && SeqAt.shaped q then some (p, q) else none
  | _, _ => none

def opD (op : Operator) (x y : D) (μ : Mu) : R D := match op, x, y with
  | .Add, .int i, .int j => .ok (.int (i + j)) μ
  | .Sub, .int i, .int j => .ok (.int (i - j)) μ
  | .Mult, .int i, .int j => if (-(2 ^ 64) < i ∧ i < 2 ^ 64) ∨ (-(2 ^ 64) < j ∧ j < 2 ^ 64) then .ok (.int (i * j)) μ else .no
  | .FloorDiv, .int i, .int j => if 0 < j ∧ j < 1073741824 then .ok (.int (i / j)) μ else .no
  | .Mod, .int i, .int j => if 0 < j then .ok (.int (i % j)) μ else .no
  | .Pow, .int i, .int j => if 0 ≤ j ∧ j ≤ 1000000 ∧ i.natAbs < 2 ^ 64 then .ok (.int (i ^ j.toNat)) μ else .no
  | .Add, .str a, .str b => if a.length + b.length ≤ sizeLine then .ok (.str (a ++ b)) μ else .no
  | .Add, .ref i, .ref j => match wl? μ i, wl? μ j with
    | some xs, some ys => if xs.length + ys.length ≤ sizeLine then new μ (.lst (xs ++ ys)) else .no
    | _, _ => .no
  | .Mult, .ref i, .int k => match wl? μ i with
    | some xs => if -(2 ^ 63) ≤ k ∧ k < 2 ^ 63 ∧ xs.length * k.toNat ≤ sizeLine then new μ (.lst (List.replicate k.toNat xs).flatten) else .no
    | _ => .no
  | _, _, _ => .no

def blR (o : Option Bool) (μ : Mu) : R D := match o with
  | some b => .ok (.bl b) μ
  | none => .no

def ordD (op : CmpOp) (x y : D) : Option Bool := match op, x, y with
  | .Lt, .int i, .int j => some (decide (i < j))
  | .LtE, .int i, .int j => some (decide (i ≤ j))
  | .Gt, .int i, .int j => some (decide (j < i))
  | .GtE, .int i, .int j => some (decide (j ≤ i))
  | _, _, _ => none

def eqD (x y : D) (μ : Mu) : Option Bool := (shaped2 μ x y).map fun p => PyData.eqv p.1 p.2

def inD (x y : D) (μ : Mu) : Option Bool := match y with
  | .ref j => match μ[j]? with
    | some (.lst _) => (match shaped2 μ x y with
      | some (d, .list ds) => some (ds.any fun z => PyData.eqv z d)
      | _ => none)
    | some (.dct kvs) => (key? x).map fun k => (kLook kvs k).isSome
    | _ => none
  | .tup _ => (match shaped2 μ x y with
      | some (d, .tuple ds) => some (ds.any fun z => PyData.eqv z d)
      | _ => none)
  | .str t => (match x with
      | .str s => some (!(Builtin.Str.occurrences t s 0 t.length 1).isEmpty)
      | _ => none)
  | _ => none

def isD (x y : D) : Option Bool := match x, y with
  | .non, .non => some true
  | .bl _, .non => some false
  | .int _, .non => some false
  | .str _, .non => some false
  | .tup _, .non => some false
  | .rol _, .non => some false
  | .ref _, .non => some false
  | .bl a, .bl b => some (decide (a = b))
  | _, _ => none

def cmpD (op : CmpOp) (x y : D) (μ : Mu) : Option Bool := match op with
  | .Eq => eqD x y μ
  | .NotEq => (eqD x y μ).map (!·)
  | .In => inD x y μ
  | .NotIn => (inD x y μ).map (!·)
  | .Is => isD x y
  | .IsNot => (isD x y).map (!·)
  | _ => ordD op x y

/-! ### subscripts -/
def ixD (x i : D) (μ : Mu) : R D := match x, i with
  | .tup ds, .int k => (match atI ds k with
    | some d => .ok d μ
    | none => .no)
  | .rol ds, .int k => (match atI ds k with
    | some d => .ok d μ
    | none => .no)
  | .ref j, k => (match μ[j]?, k with
    | some (.lst ds), .int k => (match atI ds k with
      | some d => .ok d μ
      | none => .no)
    | some (.dct kvs), _ => (match (key? k).bind fun k => kLook kvs k with
      | some d => .ok d μ
      | none => .no)
    | _, _ => .no)
  | _, _ => .no

def putD (kvs : List (Key × D)) (k : Key) (v : D) : List (Key × D) :=
  if (kLook kvs k).isSome then kvs.map fun kv => if kv.1 = k then (kv.1, v) else kv else kvs ++ [(k, v)]
def putFD (fs : List (Str × D)) (k : Str) (v : D) : List (Str × D) :=
  match fs with
  | [] => [(k, v)]
  | p :: r => if p.1 = k then (k, v) :: r else p :: putFD r k v

/-! ### classes -/
def Pg.sub (P : Pg) : Nat → Nat → Nat → Bool
  | 0, _, _ => false
  | n + 1, c, b => c == b || match P.cls[c]? with
    | some k => k.bases.any fun a => P.sub n a b
    | none => false
def Pg.isExc (P : Pg) (c : Nat) : Bool := match P.cls[c]? with
  | some k => k.exc
  | none => false
def Pg.isIns (P : Pg) (c : Nat) : Bool := match P.cls[c]? with
  | some k => !k.exc
  | none => false
/-- the class of a value -/
def clsD (P : Pg) (μ : Mu) (d : D) : Option Ty := match d with
  | .non => some (.py "NoneType")
  | .bl _ => some (.py "bool")
  | .int _ => some (.py "int")
  | .str _ => some (.py "str")
  | .tup _ => some (.py "tuple")
  | .rol _ => some (.py "list")
  | .ref i => match μ[i]? with
    | some (.lst _) => some (.py "list")
    | some (.dct _) => some (.py "dict")
    | some (.ins c _) => if P.isIns c then some (.cls c) else none
    | some (.exc c _ _) => if P.isExc c then some (.cls c) else none
    | none => none
/-- is one class below another one -/
def subT (P : Pg) (a b : Ty) : Bool := match a, b with
  | .py a, .py b => a == b || (a == "bool" && b == "int")
  | .py _, .cls _ => false
  | .cls c, .py n => (match P.cls[c]? with
    | some k => k.exc && n == "ValueError"
    | none => false)
  | .cls c, .cls b => P.sub 9 c b
/-- isinstance(d, t) -/
def isiD (P : Pg) (μ : Mu) (d : D) (t : Ty) : Option Bool := (clsD P μ d).map (subT P · t)
def isiDs (P : Pg) (μ : Mu) (d : D) : List Ty → Option Bool
  | [] => some false
  | t :: ts => match isiD P μ d t with
    | some true => some true
    | some false => isiDs P μ d ts
    | none => none

/-! ### built-in functions and methods -/
def blsOf : List D → Option (List Bool)
  | [] => some []
  | .bl b :: r => (blsOf r).map (b :: ·)
  | _ => none
def biD (P : Pg) (b : BI) (ds : List D) (μ : Mu) : R D := match b, ds with
  | .len, [.str s] => if s.length ≤ sizeLine then .ok (.int s.length) μ else .no
  | .len, [.tup l] => .ok (.int l.length) μ
  | .len, [.rol l] => .ok (.int l.length) μ
  | .len, [.ref i] => (match μ[i]? with
    | some (.lst xs) => .ok (.int xs.length) μ
    | some (.dct kvs) => .ok (.int kvs.length) μ
    | _ => .no)
  | .abs, [.int i] => .ok (.int (if i < 0 then -i else i)) μ
  | .int, [.int i] => .ok (.int i) μ
  | .int, [.bl b] => .ok (.int (if b then 1 else 0)) μ
  | .min2, [.int i, .int j] => .ok (.int (if j < i then j else i)) μ
  | .max2, [.int i, .int j] => .ok (.int (if j > i then j else i)) μ
  | .all, [d] => (match (lst? μ d).bind blsOf with
    | some bs => .ok (.bl (bs.all id)) μ
    | none => .no)
  | .any, [d] => (match (lst? μ d).bind blsOf with
    | some bs => .ok (.bl (bs.any id)) μ
    | none => .no)
  | .repr, [d] => (match toP 60 μ d with
    | some p => if p.showable && decide (p.depth ≤ 64) && decide (p.shown.length ≤ sizeLine) then .ok (.str p.shown) μ else .no
    | none => .no)
  | .str, [.ref i] => (match μ[i]? with
    | some (.exc c _ (some s)) => if P.isExc c then .ok (.str s) μ else .no
    | _ => .no)
  | .list, [.tup l] => new μ (.lst l)
  | .list, [d] => (match lst? μ d with
    | some xs => new μ (.lst xs)
    | none => .no)
  | .tuple, [.tup l] => .ok (.tup l) μ
  | .tuple, [d] => (match lst? μ d with
    | some xs => .ok (.tup xs) μ
    | none => .no)
  | _, _ => .no

/-- the methods of lists -/
def lstMs : List Str := ["append", "pop"]
def methL (x : D) (m : Str) (ds : List D) (μ : Mu) : R D := match x with
  | .ref i => (match μ[i]? with
    | some (.lst xs) =>
      if m = "append" then (match ds with
        | [d] => if xs.length < sizeLine then .ok .non (μ.set i (.lst (xs ++ [d]))) else .no
        | _ => .no)
      else if m = "pop" then (match ds with
        | [.int k] => if -(2 ^ 63) ≤ k ∧ k < 2 ^ 63 then (match seqIndex? k xs.length with
            | some j => (match xs[j]? with
              | some y => .ok y (μ.set i (.lst (xs.eraseIdx j)))
              | none => .no)
            | none => .no) else .no
        | _ => .no)
      else .no
    | _ => .no)
  | _ => .no
/-- what x.m is -/
inductive MK where
  | fn (f : Nat)
  | lst

/-! ### what is walked -/
inductive Src where
  | live (d : D)
  | fix (xs : List D)
  | enum (d : D)
def Src.all (μ : Mu) : Src → Option (List D)
  | .live d => lst? μ d
  | .fix xs => some xs
  | .enum d => (lst? μ d).map fun xs => xs.mapIdx fun k d => .tup [.int k, d]
def Src.next (s : Src) (μ : Mu) (k : Nat) : Option (Option D) := (s.all μ).map (·[k]?)

def setFr : Fr → List Nat → List D → Option Fr
  | ρ, [], [] => some ρ
  | ρ, i :: is, d :: ds => setFr (ρ.set i (some d)) is ds
  | _, _, _ => none
def bindG (g : LG) (d : D) (ρ : Fr) : Option Fr := match g, d with
  | .nm i, d => some (ρ.set i (some d))
  | .tp is, .tup ds => setFr ρ is ds
  | _, _ => none
def wipeF (ρ : Fr) : List Nat → Fr
  | [] => ρ
  | v :: vs => (wipeF ρ vs).set v none

def compN (src : Src) (step : D → Mu → R (Option D)) : Nat → Nat → List D → Mu → R (List D)
  | 0, k, acc, μ => match src.next μ k with
    | some none => .ok acc μ
    | _ => .no
  | n + 1, k, acc, μ => match src.next μ k with
    | some (some d) => (match step d μ with
      | .ok (some x) μ' => if acc.length < sizeLine then compN src step n (k + 1) (acc ++ [x]) μ' else .no
      | .ok none μ' => compN src step n (k + 1) acc μ'
      | _ => .no)
    | _ => .no
def forN (src : Src) (body : D → Fr → Mu → RS) : Nat → Nat → Fr → Mu → RS
  | 0, k, ρ, μ => match src.next μ k with
    | some none => .nx ρ μ
    | _ => .no
  | n + 1, k, ρ, μ => match src.next μ k with
    | some (some d) => (match body d ρ μ with
      | .nx ρ' μ' => forN src body n (k + 1) ρ' μ'
      | .ct ρ' μ' => forN src body n (k + 1) ρ' μ'
      | .brk ρ' μ' => .nx ρ' μ'
      | .ret d ρ' μ' => .ret d ρ' μ'
      | .exc c fs ρ' μ' => .exc c fs ρ' μ'
      | .no => .no)
    | _ => .no
def whileN (test : Fr → Mu → R D) (body : Fr → Mu → RS) : Nat → Fr → Mu → RS
  | 0, _, _ => .no
  | n + 1, ρ, μ => match test ρ μ with
    | .ok (.bl true) μ1 => (match body ρ μ1 with
      | .nx ρ' μ' => whileN test body n ρ' μ'
      | .ct ρ' μ' => whileN test body n ρ' μ'
      | .brk ρ' μ' => .nx ρ' μ'
      | .ret d ρ' μ' => .ret d ρ' μ'
      | .exc c fs ρ' μ' => .exc c fs ρ' μ'
      | .no => .no)
    | .ok (.bl false) μ1 => .nx ρ μ1
    | .exc c fs μ1 => .exc c fs ρ μ1
    | _ => .no

def mkKv : List D → Option (List (Key × D))
  | [] => some []
  | k :: v :: r => match key? k, mkKv r with
    | some k, some r => some ((k, v) :: r)
    | _, _ => none
  | _ => none

/-! ### the evaluator -/
section
variable (P : Pg) (F : Nat → List D → Mu → R D)
/-- what stands behind the arguments of C(..) of an exception class -/
def excArgs (c : Nat) (ds : List D) : Option (List (Str × D) × Option Str) := match P.cls[c]? with
  | some k => if k.exc then (match k.field, ds with
      | some f, [d] => some ([(f, d)], none)
      | none, [.str s] => some ([], some s)
      | _, _ => none) else none
  | none => none
def attrD (d : D) (f : Str) (μ : Mu) : R D := match d with
  | .ref i => (match μ[i]? with
    | some (.ins c fs) => (match P.cls[c]? with
      | some k => if k.exc then .no else (match k.props.lookup f with
        | some p => (match F p [d] μ with
          | .ok v μ => .ok v μ
          | _ => .no)
        | none => if f ∈ k.fields then (match fs.lookup f with
          | some v => .ok v μ
          | none => .no) else .no)
      | none => .no)
    | some (.exc c fs _) => (match P.cls[c]? with
      | some k => if k.exc = true ∧ f ∈ k.fields then (match fs.lookup f with
        | some v => .ok v μ
        | none => .no) else .no
      | none => .no)
    | _ => .no)
  | _ => .no
def mkD (c : Nat) (ds : List D) (μ : Mu) : R D := match P.cls[c]? with
  | some k => if k.exc then (match excArgs P c ds with
      | some (fs, m) => new μ (.exc c fs m)
      | none => .no)
    else (match k.init with
      | some f => (F f (.ref μ.length :: ds) (μ ++ [.ins c []])).bind fun d μ' => match d with
        | .non => .ok (.ref μ.length) μ'
        | _ => .no
      | none => .no)
  | none => .no
/-- what x.m is: a def of the object's class, or a built-in method -/
def methK (x : D) (m : Str) (μ : Mu) : Option MK := match x with
  | .ref i => (match μ[i]? with
    | some (.lst _) => if m ∈ lstMs then some .lst else none
    | some (.ins c fs) => (match P.cls[c]? with
      | some k => if k.exc then none else (match k.meths.lookup m, fs.lookup m with
        | some f, none => some (.fn f)
        | _, _ => none)
      | none => none)
    | _ => none)
  | _ => none

mutual
def evE : LE → Fr → Mu → R D
  | .var i, ρ, μ => match ρ[i]? with
    | some (some d) => .ok d μ
    | _ => .no
  | .cst d, _, μ => .ok d μ
  | .bin op a b, ρ, μ => (evE a ρ μ).bind fun x μ => (evE b ρ μ).bind fun y μ => opD op x y μ
  | .neg a, ρ, μ => (evE a ρ μ).bind fun x μ => match x with
    | .int i => .ok (.int (-i)) μ
    | _ => .no
  | .cmp op a b, ρ, μ => (evE a ρ μ).bind fun x μ => (evE b ρ μ).bind fun y μ => blR (cmpD op x y μ) μ
  | .chain op op' a b c, ρ, μ => (evE a ρ μ).bind fun x μ => (evE b ρ μ).bind fun y μ => match cmpD op x y μ with
    | some true => (evE c ρ μ).bind fun z μ => blR (cmpD op' y z μ) μ
    | some false => .ok (.bl false) μ
    | none => .no
  | .and a b, ρ, μ => (evE a ρ μ).bind fun x μ => match x with
    | .bl true => evE b ρ μ
    | .bl false => .ok (.bl false) μ
    | _ => .no
  | .or a b, ρ, μ => (evE a ρ μ).bind fun x μ => match x with
    | .bl true => .ok (.bl true) μ
    | .bl false => evE b ρ μ
    | _ => .no
  | .not a, ρ, μ => (evE a ρ μ).bind fun x μ => match x with
    | .bl b => .ok (.bl (!b)) μ
    | _ => .no
  | .ite c a b, ρ, μ => (evE c ρ μ).bind fun x μ => match x with
    | .bl true => evE a ρ μ
    | .bl false => evE b ρ μ
    | _ => .no
  | .tup as, ρ, μ => (evA as ρ μ).bind fun ds μ => if ds.length ≤ sizeLine then .ok (.tup ds) μ else .no
  | .lst as, ρ, μ => (evA as ρ μ).bind fun ds μ => if ds.length ≤ sizeLine then new μ (.lst ds) else .no
  | .dct as, ρ, μ => (evA as ρ μ).bind fun ds μ => match mkKv ds with
    | some kvs => if kvs.length ≤ 15 then new μ (.dct (kvs.foldl (fun acc kv => putD acc kv.1 kv.2) [])) else .no
    | none => .no
  | .ix a i, ρ, μ => (evE a ρ μ).bind fun x μ => (evE i ρ μ).bind fun y μ => ixD x y μ
  | .sl a lo hi, ρ, μ => .no
  | .attr a f, ρ, μ => (evE a ρ μ).bind fun x μ => attrD P F x f μ
  | .fn f as, ρ, μ => (evA as ρ μ).bind fun ds μ => F f ds μ
  | .mk c as, ρ, μ => (evA as ρ μ).bind fun ds μ => mkD P F c ds μ
  | .bi b as, ρ, μ => (evA as ρ μ).bind fun ds μ => biD P b ds μ
  | .isi a ts, ρ, μ => (evE a ρ μ).bind fun x μ => blR (isiDs P μ x ts) μ
  | .meth a m as, ρ, μ => (evE a ρ μ).bind fun x μ => match methK P x m μ with
    | some (.fn f) => (evA as ρ μ).bind fun ds μ => F f (x :: ds) μ
    | some .lst => (evA as ρ μ).bind fun ds μ => methL x m ds μ
    | none => .no
  | .comp own tg it c e, ρ, μ => match evI it ρ μ with
    | .ok src μ => (match src.all μ with
      | some xs => (match compN src (fun d μ => match bindG tg d (wipeF ρ own) with
          | some ρ' => (evC c ρ' μ).bind fun b μ => if b then (evE e ρ' μ).bind fun x μ => .ok (some x) μ else .ok none μ
          | none => .no) xs.length 0 [] μ with
        | .ok ys μ' => new μ' (.lst ys)
        | _ => .no)
      | none => .no)
    | .exc c fs m => .exc c fs m
    | .no => .no
def evA : LA → Fr → Mu → R (List D)
  | .nil, _, μ => .ok [] μ
  | .cons e as, ρ, μ => (evE e ρ μ).bind fun d μ => (evA as ρ μ).bind fun ds μ => .ok (d :: ds) μ
/-- a comprehension's tests: none, or one -/
def evC : LA → Fr → Mu → R Bool
  | .nil, _, μ => .ok true μ
  | .cons e .nil, ρ, μ => (evE e ρ μ).bind fun d μ => match d with
    | .bl b => .ok b μ
    | _ => .no
  | _, _, _ => .no
def evI : LI → Fr → Mu → R Src
  | .exp e, ρ, μ => (evE e ρ μ).bind fun d μ => match d with
    | .tup ds => .ok (.fix ds) μ
    | d => (match lst? μ d with
      | some _ => .ok (.live d) μ
      | none => .no)
  | .rng e, ρ, μ => (evE e ρ μ).bind fun d μ => match d with
    | .int n => if -(2 ^ 62) ≤ n ∧ n < 2 ^ 62 then .ok (.fix ((List.range n.toNat).map fun (k : Nat) => D.int (k : Int))) μ else .no
    | _ => .no
  | .enum e, ρ, μ => (evE e ρ μ).bind fun d μ => match lst? μ d with
    | some _ => .ok (.enum d) μ
    | none => .no
end

def asgT (t : LT) (d : D) (ρ : Fr) (μ : Mu) : RS := match t with
  | .nm i => .nx (ρ.set i (some d)) μ
  | .tp is => (match d with
    | .tup ds => (match setFr ρ is ds with
      | some ρ' => .nx ρ' μ
      | none => .no)
    | _ => .no)
  | .sub o k => (match evE P F o ρ μ with
    | .ok x μ => (match evE P F k ρ μ with
      | .ok y μ => (match x with
        | .ref j => (match μ[j]?, y with
          | some (.lst xs), .int i => (match ixN xs.length i with
            | some n => .nx ρ (μ.set j (.lst (xs.set n d)))
            | none => .no)
          | some (.dct kvs), y => (match key? y with
            | some k => if kvs.length < sizeLine then .nx ρ (μ.set j (.dct (putD kvs k d))) else .no
            | none => .no)
          | _, _ => .no)
        | _ => .no)
      | .exc c fs μ => .exc c fs ρ μ
      | .no => .no)
    | .exc c fs μ => .exc c fs ρ μ
    | .no => .no)
  | .at o f => (match evE P F o ρ μ with
    | .ok x μ => (match x with
      | .ref j => (match μ[j]? with
        | some (.ins c fs) => (match P.cls[c]? with
          | some k => if k.exc = false ∧ f ∈ k.fields ∧ fs.length < 900 then .nx ρ (μ.set j (.ins c (putFD fs f d))) else .no
          | none => .no)
        | _ => .no)
      | _ => .no)
    | .exc c fs μ => .exc c fs ρ μ
    | .no => .no)

def RS.thn (r : RS) (f : Fr → Mu → RS) : RS := match r with
  | .nx ρ μ => f ρ μ
  | r => r
def R.toS {α : Type} (r : R α) (ρ : Fr) (f : α → Mu → RS) : RS := match r with
  | .ok a μ => f a μ
  | .exc c fs μ => .exc c fs ρ μ
  | .no => .no

mutual
def evS : LS → Fr → Mu → RS
  | .asg t e, ρ, μ => (evE P F e ρ μ).toS ρ fun d μ => asgT P F t d ρ μ
  | .par is es, ρ, μ => (evA P F es ρ μ).toS ρ fun ds μ => match setFr ρ is ds with
    | some ρ' => .nx ρ' μ
    | none => .no
  | .expr e, ρ, μ => (evE P F e ρ μ).toS ρ fun _ μ => .nx ρ μ
  | .ret e, ρ, μ => (evE P F e ρ μ).toS ρ fun d μ => .ret d ρ μ
  | .retN, ρ, μ => .ret .non ρ μ
  | .ite c a b, ρ, μ => (evE P F c ρ μ).toS ρ fun d μ => match d with
    | .bl true => evB a ρ μ
    | .bl false => evB b ρ μ
    | _ => .no
  | .for g it b, ρ, μ => (evI P F it ρ μ).toS ρ fun src μ => match src.all μ with
    | some xs => forN src (fun d ρ μ => match bindG g d ρ with
      | some ρ' => evB b ρ' μ
      | none => .no) xs.length 0 ρ μ
    | none => .no
  | .while c b, ρ, μ => whileN (evE P F c) (evB b) P.fuel ρ μ
  | .raise c as, ρ, μ => (evA P F as ρ μ).toS ρ fun ds μ => match excArgs P c ds with
    | some (fs, _) => .exc c fs ρ μ
    | none => .no
  | .pass, ρ, μ => .nx ρ μ
  | .brk, ρ, μ => .brk ρ μ
  | .cont, ρ, μ => .ct ρ μ
def evB : LB → Fr → Mu → RS
  | .nil, ρ, μ => .nx ρ μ
  | .cons s r, ρ, μ => (evS s ρ μ).thn fun ρ μ => evB r ρ μ
end
end

/-- a call of the f-th def, at most n calls deep -/
def call (P : Pg) : Nat → Nat → List D → Mu → R D
  | 0, _, _, _ => .no
  | n + 1, f, ds, μ => match P.fns[f]? with
    | some g => if ds.length = g.np then (match evB P (call P n) g.body (ds.map some ++ List.replicate (g.ns - g.np) none) μ with
        | .nx _ μ => .ok .non μ
        | .ret d _ μ => .ok d μ
        | .exc c fs _ μ => .exc c fs μ
        | _ => .no) else .no
    | none => .no
end Lt

set_option Elab.async false
set_option linter.all false
set_option maxRecDepth 100000
/-! Lt1: from the text's trees to the small language's. -/
namespace Lt
open PySem L2

/-- what a global name of the text is -/
inductive GV where
  | fn (f : Nat) (ps : List Str)
  | cls (c : Nat) (ps : List Str) (kn : Bool)
  | cst (d : D)
abbrev GT := List (Str × GV)

/-- no call of a name without arguments -/
def plainBase (e : Expr) : Bool := match e with
  | .Call _ [] _ _ => false
  | _ => true
def ix? (N : List Str) (x : Str) : Option Nat := N.findIdx? (· == x)

def visB (sc : Scope) (x : Str) : Bool := match sc.names.lookup x with
  | some .local => true
  | some .cell => true
  | some .free => true
  | _ => false
def locB (sc : Scope) (x : Str) : Bool := match sc.names.lookup x with
  | some .local => true
  | some .cell => true
  | _ => false
def gloB (sc : Scope) (x : Str) : Bool := match sc.names.lookup x with
  | some .globalImplicit => true
  | _ => false
def badN (x : Str) : Bool := (x == ("__debug__" : Str)) || (x == ("__classdict__" : Str)) || (x == ("__name__" : Str))

/-- built-in names that no text of this house binds -/
def bltNames : List Str := ["len", "abs", "int", "min", "max", "repr", "str", "list", "tuple", "all", "any", "sorted", "isinstance", "range", "enumerate", "super", "bool", "dict", "ValueError"]
def biOf (x : Str) (n : Nat) : Option BI :=
  if x = "len" ∧ n = 1 then some .len
  else if x = "abs" ∧ n = 1 then some .abs
  else if x = "int" ∧ n = 1 then some .int
  else if x = "min" ∧ n = 2 then some .min2
  else if x = "max" ∧ n = 2 then some .max2
  else if x = "repr" ∧ n = 1 then some .repr
  else if x = "str" ∧ n = 1 then some .str
  else if x = "all" ∧ n = 1 then some .all
  else if x = "any" ∧ n = 1 then some .any
  else if x = "list" ∧ n = 1 then some .list
  else if x = "tuple" ∧ n = 1 then some .tuple
  else none

section
variable (N : List Str) (G : GT) (T : List Ty)

/-- a name that is seen here: its place -/
def trV (sc : Scope) (x : Str) : Option Nat := if visB sc x && !badN x then ix? N x else none
def trG (sc : Scope) (x : Str) : Option GV := if gloB sc x && !badN x then G.lookup x else none
/-- a built-in name -/
def trB (sc : Scope) (x : Str) : Bool := gloB sc x && !badN x && bltNames.contains x

def trNm (raw sc : Scope) (e : Expr) : Option Nat := match e with
  | .Name x _ => if locB raw x && locB sc x && !badN x then ix? N x else none
  | _ => none
def trTg (raw sc : Scope) (e : Expr) : Option LG := match e with
  | .Name x _ => if locB raw x && locB sc x && !badN x then (ix? N x).map .nm else none
  | .Tuple es _ _ => (es.mapM (trNm N raw sc)).map .tp
  | _ => none
/-- a class by its name -/
def tyB (x : Str) : Option String :=
  if x = "int" then some "int" else if x = "bool" then some "bool" else if x = "str" then some "str" else if x = "list" then some "list" else if x = "tuple" then some "tuple" else if x = "dict" then some "dict" else if x = "ValueError" then some "ValueError" else none
def inT (t : Ty) : Option Ty := if t ∈ T then some t else none
def tyOf (sc : Scope) (e : Expr) : Option Ty := match e with
  | .Name x _ => match trG G sc x with
    | some (.cls c _ _) => inT T (.cls c)
    | some _ => none
    | none => if trB sc x then (tyB x).bind fun n => inT T (.py n) else none
  | _ => none
def tysOf (sc : Scope) (e : Expr) : Option (List Ty) := match e with
  | .Tuple es _ _ => es.mapM (tyOf G T sc)
  | e => (tyOf G T sc e).map ([·])

def notIf (e : Expr) : Bool := match e with
  | .IfExp _ _ _ _ => false
  | _ => true
def isTupE (e : Expr) : Bool := match e with
  | .Tuple _ _ _ => true
  | _ => false
def LG.ixs : LG → List Nat
  | .nm i => [i]
  | .tp is => is
/-- a block's own names -/
def ownOf (scope : Scope) : List (Str × Nat) := scope.names.filterMap fun y => match y.2 with
  | .local => (ix? N y.1).map fun i => (y.1, i)
  | .cell => (ix? N y.1).map fun i => (y.1, i)
  | _ => none
mutual
def trE : Nat → Scope → Expr → Option LE
  | 0, _, _ => none
  | n + 1, sc, e => match e with
    | .Name x _ => match trV N sc x with
      | some i => some (.var i)
      | none => match trG G sc x with
        | some (.cst d) => some (.cst d)
        | _ => none
    | .Constant c _ _ => match c with
      | .none => some (.cst .non)
      | .bool b => some (.cst (.bl b))
      | .int i => some (.cst (.int i))
      | .str s => some (.cst (.str s))
      | _ => none
    | .BinOp a op b _ => match trE n sc a, trE n sc b with
      | some a, some b => some (.bin op a b)
      | _, _ => none
    | .UnaryOp .Not a _ => (trC n sc a).map .not
    | .UnaryOp .USub a _ => (trE n sc a).map .neg
    | .BoolOp op es _ => trBo n sc op es
    | .Compare a [op] [b] _ => match trE n sc a, trE n sc b with
      | some a, some b => some (.cmp op a b)
      | _, _ => none
    | .Compare a [op, op'] [b, c] _ => match trE n sc a, trE n sc b, trE n sc c with
      | some a, some b, some c => if (op != .In && op != .NotIn && op' != .In && op' != .NotIn) then some (.chain op op' a b c) else none
      | _, _, _ => none
    | .IfExp c a b _ => match trC n sc c, trE n sc a, trE n sc b with
      | some c, some a, some b => some (.ite c a b)
      | _, _, _ => none
    | .Tuple es _ _ => (trA n sc es).map .tup
    | .List es _ => (trA n sc es).map .lst
    | .Dict [] [] _ => some (.dct .nil)
    | .Dict ks vs _ => if ks.length = vs.length ∧ ks ≠ [] ∧ ks.length ≤ 15 then (trKv n sc ks vs).map .dct else none
    | .Subscript a i _ => match trE n sc a, trE n sc i with
      | some a, some i => some (.ix a i)
      | _, _ => none
    | .Attribute a f _ => if plainBase a then (trE n sc a).map (.attr · f) else none
    | .Call (.Name x _) as [] _ => match trG G sc x with
      | some (.fn f ps) => if as.length = ps.length then (trA n sc as).map (.fn f) else none
      | some (.cls c ps _) => if as.length = ps.length then (trA n sc as).map (.mk c) else none
      | some (.cst _) => none
      | none => if trB sc x then
          (if x = "isinstance" then (match as with
            | [a, t] => match trE n sc a, tysOf G T sc t with
              | some a, some ts => if ts.isEmpty || decide (100 < ts.length) then none else some (.isi a ts)
              | _, _ => none
            | _ => none)
          else match biOf x as.length with
            | some b => (trA n sc as).map (.bi b)
            | none => none)
        else none
    | .Call (.Name x _) [] [⟨some a, e, _⟩] _ => match trG G sc x with
      | some (.cls c [a'] true) => if a = a' then (trE n sc e).map fun e => .mk c (.cons e .nil) else none
      | _ => none
    | .Call (.Attribute o m p) as [] pos => if plainBase o && p.endLine == pos.line && decide (as.length ≤ 5) then (match trE n sc o, trA n sc as with
      | some o, some as => some (.meth o m as)
      | _, _ => none) else none
    | .ListComp elt [⟨tg, it, ifs, as⟩] scope _ =>
      if as == 0 && blkC N sc scope (ownOf N scope) then match trTg N scope (relS scope sc) tg, trI n sc tg it, trF n (relS scope sc) ifs, trE n (relS scope sc) elt with
        | some g, some it, some c, some e => if g.ixs.all ((ownOf N scope).map (·.2)).contains then some (.comp ((ownOf N scope).map (·.2)) g it c e) else none
        | _, _, _, _ => none
      else none
    | _ => none
/-- a test -/
def trC : Nat → Scope → Expr → Option LE
  | 0, _, _ => none
  | n + 1, sc, e => if notIf e then trE n sc e else none
/-- a comprehension's tests -/
def trF : Nat → Scope → List Expr → Option LA
  | 0, _, _ => none
  | _ + 1, _, [] => some .nil
  | n + 1, sc, [e] => (trC n sc e).map fun e => .cons e .nil
  | _, _, _ => none
def trA : Nat → Scope → List Expr → Option LA
  | 0, _, _ => none
  | _ + 1, _, [] => some .nil
  | n + 1, sc, e :: es => match trE n sc e, trA n sc es with
    | some e, some es => some (.cons e es)
    | _, _ => none
def trBo : Nat → Scope → PySem.BoolOp → List Expr → Option LE
  | 0, _, _, _ => none
  | _ + 1, _, _, [] => none
  | n + 1, sc, _, [e] => trC n sc e
  | n + 1, sc, op, e :: es => match trC n sc e, trBo n sc op es with
    | some a, some b => some (match op with | .And => .and a b | .Or => .or a b)
    | _, _ => none
def trKv : Nat → Scope → List (Option Expr) → List Expr → Option LA
  | 0, _, _, _ => none
  | _ + 1, _, [], [] => some .nil
  | n + 1, sc, some k :: ks, v :: vs => match trE n sc k, trE n sc v, trKv n sc ks vs with
    | some k, some v, some r => some (.cons k (.cons v r))
    | _, _, _ => none
  | _, _, _, _ => none
def trI : Nat → Scope → Expr → Expr → Option LI
  | 0, _, _, _ => none
  | n + 1, sc, tg, e => match e with
    | .Call (.Name x _) [a] [] _ =>
      if trB sc x && x == ("range" : Str) then (trE n sc a).map .rng
      else if trB sc x && x == ("enumerate" : Str) then (if isTupE tg then (trE n sc a).map .enum else none)
      else (trE n sc e).map .exp
    | e => (trE n sc e).map .exp
end

/-- a comprehension that is handed on within its block -/
def swB (sc : Scope) (y : Str) (py : Pos) (scope : Scope) (pos : Pos) : Bool :=
  (match sc.kind with | .function => true | _ => false) && (match sc.names.lookup y with | some .local => true | _ => false) && (py.line == pos.line) && !(scope.names.any fun (n, k) => n == y && (k == .local || k == .cell))
def isComp (e : Expr) : Bool := match e with
  | .ListComp _ _ _ _ => true
  | .SetComp _ _ _ _ => true
  | .DictComp _ _ _ _ _ => true
  | _ => false
def lcl (sc : Scope) (y : Str) : Bool := match sc.names.lookup y with | some .local => true | _ => false
mutual
def trS : Nat → Scope → Stmt → Option LS
  | 0, _, _ => none
  | n + 1, sc, s => match s with
    | .Assign [.Tuple [.Name x p1, .Name y p2] k1 p3] (.Tuple [a, b] k2 p4) _ => if lcl sc x && lcl sc y && !badN x && !badN y && (p2.line == p1.line) && !([a, b].all (foldedForSure 8)) && !([a, b].all (constantsAlone 8)) then (match ix? N x, ix? N y, trA N G T n sc [a, b] with
      | some i, some j, some es => if i != j then some (.par [i, j] es) else none
      | _, _, _ => none) else none
    | .Assign [.Name y py] (.ListComp elt gs scope pos) _ => if swB sc y py scope pos && !badN y then (match ix? N y, trE N G T n sc (.ListComp elt gs scope pos) with
      | some i, some e => some (.asg (.nm i) e)
      | _, _ => none) else none
    | .Assign [.Name y _] e _ => if isComp e then none else (if locB sc y && !badN y then (match ix? N y, trE N G T n sc e with
      | some i, some e => some (.asg (.nm i) e)
      | _, _ => none) else none)
    | .Assign [.Tuple ts _ _] e _ => if isComp e || isTupE e then none else (match ts.mapM (trNm N sc sc), trE N G T n sc e with
      | some is, some e => some (.asg (.tp is) e)
      | _, _ => none)
    | .Assign [.Subscript o k _] e _ => match trE N G T n sc o, trE N G T n sc k, trE N G T n sc e with
      | some o, some k, some e => some (.asg (.sub o k) e)
      | _, _, _ => none
    | .Assign [.Attribute o f _] e _ => match trE N G T n sc o, trE N G T n sc e with
      | some o, some e => some (.asg (.at o f) e)
      | _, _ => none
    | .Expr e _ => if isComp e then none else (trE N G T n sc e).map .expr
    | .Return (some e) _ => (trE N G T n sc e).map .ret
    | .Return none _ => some .retN
    | .If c a b _ => match trC N G T n sc c, trL n sc a, trL n sc b with
      | some c, some a, some b => some (.ite c a b)
      | _, _, _ => none
    | .For t it b [] _ => match trTg N sc sc t, trI N G T n sc t it, trL n sc b with
      | some g, some it, some b => some (.for g it b)
      | _, _, _ => none
    | .While c b [] _ => match trC N G T n sc c, trL n sc b with
      | some c, some b => some (.while c b)
      | _, _ => none
    | .Pass _ => some .pass
    | .Break _ => some .brk
    | .Continue _ => some .cont
    | _ => none
def trL : Nat → Scope → List Stmt → Option LB
  | 0, _, _ => none
  | _ + 1, _, [] => some .nil
  | n + 1, sc, s :: r => match trS n sc s, trL n sc r with
    | some s, some r => some (.cons s r)
    | _, _ => none
end
end
end Lt

set_option Elab.async false
set_option linter.all false
set_option maxRecDepth 100000
set_option maxHeartbeats 4000000
/-! Lt2: how the store lies in the heap. -/
namespace Lt
open PySem L2 PySem.Spec
open PyProof.Rows hiding St

/-- a list that nobody writes: it is told of the heap, or stands in the written part -/
def SqR (K : PySem.W.Frag) (H : Hp) (a : Addr) (xs : List V) : Prop := (∃ o, H a = some (.frz o (.lst xs))) ∨ ∀ H' : Hp, SqL K H' a xs
theorem SqR.sq {K : PySem.W.Frag} {H : Hp} {a : Addr} {xs : List V} (h : SqR K H a xs) : SqL K H a xs := by
  rcases h with ⟨o, h⟩ | h
  · exact .inl (.inr ⟨o, h⟩)
  · exact h H

mutual
def RepV (K : PySem.W.Frag) (φ : List Addr) (H : Hp) : D → V → Prop
  | .non, v => v = .non
  | .bl b, v => v = .bl b
  | .int i, v => v = .int i
  | .str s, v => v = .str s
  | .tup l, v => ∃ a xs, v = .ref a ∧ SqT K H a xs ∧ RepVs K φ H l xs
  | .rol l, v => ∃ a xs, v = .ref a ∧ SqR K H a xs ∧ RepVs K φ H l xs
  | .ref i, v => ∃ a, φ[i]? = some a ∧ v = .ref a
def RepVs (K : PySem.W.Frag) (φ : List Addr) (H : Hp) : List D → List V → Prop
  | [], vs => vs = []
  | d :: ds, vs => ∃ v r, vs = v :: r ∧ RepV K φ H d v ∧ RepVs K φ H ds r
end
def RepK (K : PySem.W.Frag) (φ : List Addr) (H : Hp) : List (Key × D) → List (Key × V) → Prop
  | [], vs => vs = []
  | d :: ds, vs => ∃ v r, vs = (d.1, v) :: r ∧ RepV K φ H d.2 v ∧ RepK K φ H ds r
def RepF (K : PySem.W.Frag) (φ : List Addr) (H : Hp) : List (Str × D) → List (Str × V) → Prop
  | [], vs => vs = []
  | d :: ds, vs => ∃ v r, vs = (d.1, v) :: r ∧ RepV K φ H d.2 v ∧ RepF K φ H ds r

/-- an exception object at a: its class, its dict, its arguments' tuple -/
def exX (C a : Addr) (dd : Option Addr) (t0 : Addr) : HO := .ext fun h => ∃ fv : Array Value, h.get? a = some ({ cls := .ref C, dict := dd, data := .fields fv } : Obj) ∧ fv[0]? = some (.ref t0) ∧ fv[1]? = some .none ∧ fv[2]? = some .none ∧ 4 < fv.size

/-- what the store's objects are in the heap; ca: the classes' addresses -/
def RepO (K : PySem.W.Frag) (ca : Nat → Addr) (φ : List Addr) (H : Hp) (a : Addr) : O → Prop
  | .lst ds => ∃ xs, H a = some (.lst xs) ∧ RepVs K φ H ds xs
  | .dct kvs => ∃ ks, H a = some (.dK ks) ∧ RepK K φ H kvs ks
  | .ins c fs => ∃ dx fv, H a = some (.ins (ca c) dx fv) ∧ RepF K φ H fs fv
  | .exc c fs m => ∃ dd t0, H a = some (exX (ca c) a dd t0) ∧ ((fs = [] ∧ dd = none) ∨ ∃ dx fv, dd = some dx ∧ H dx = some (.xd fv) ∧ RepF K φ H fs fv) ∧ ∀ s, m = some s → H t0 = some (.tup [.str s])

structure Sim (K : PySem.W.Frag) (ca : Nat → Addr) (φ : List Addr) (H : Hp) (μ : Mu) : Prop where
  len : φ.length = μ.length
  nd : φ.Nodup
  ob : ∀ (i : Nat) (a : Addr) (o : O), φ[i]? = some a → μ[i]? = some o → RepO K ca φ H a o

structure SimF (K : PySem.W.Frag) (φ : List Addr) (H : Hp) (ρ : Fr) (σ : St) : Prop where
  len : ρ.length = σ.length
  get : ∀ (i : Nat) (d : D), ρ[i]? = some (some d) → ∃ v, σ[i]? = some (some v) ∧ RepV K φ H d v

def isTbl : HO → Prop
  | .tbl _ => True
  | _ => False
/-- from one store to a later one -/
structure Evo (φ : List Addr) (H : Hp) (φ' : List Addr) (H' : Hp) : Prop where
  pre : φ <+: φ'
  fresh : ∀ p ∈ φ', p ∈ φ ∨ H p = none
  keep : ∀ b o, H b = some o → b ∉ φ → ¬ isTbl o → H' b = some o
  tup : ∀ b xs, H b = some (.tup xs) → H' b = some (.tup xs)
  frz : ∀ b o u, H b = some (.frz o u) → H' b = some (.frz o u)
  xd : ∀ b fs, H b = some (.xd fs) → H' b = some (.xd fs)
  tbl : ∀ b ps, H b = some (.tbl ps) → ∃ more, H' b = some (.tbl (ps ++ more))

section
variable {K : PySem.W.Frag} {ca : Nat → Addr} {φ φ' φ1 φ2 : List Addr} {H H' H1 H2 : Hp} {μ : Mu} {ρ : Fr} {σ : St}
theorem Evo.refl (φ : List Addr) (H : Hp) : Evo φ H φ H := ⟨List.prefix_rfl, fun _ h => .inl h, fun _ _ h _ _ => h, fun _ _ h => h, fun _ _ _ h => h, fun _ _ h => h, fun _ ps h => ⟨#[], by rw [h]; simp⟩⟩
theorem Evo.gone (a : Evo φ H φ1 H1) {p : Addr} (h : H1 p = none) (hp : p ∉ φ) : H p = none := by
  cases e : H p with
  | none => rfl
  | some o =>
    exfalso
    by_cases ht : isTbl o
    · cases o with
      | tbl ps =>
        obtain ⟨m, q⟩ := a.tbl p ps e
        rw [h] at q
        cases q
      | _ => exact ht
    · have := a.keep p o e hp ht
      rw [h] at this
      cases this
theorem Evo.trans (a : Evo φ H φ1 H1) (b : Evo φ1 H1 φ2 H2) : Evo φ H φ2 H2 where
  pre := a.pre.trans b.pre
  fresh := fun p hp => by
    rcases b.fresh p hp with h | h
    · exact a.fresh p h
    · by_cases hq : p ∈ φ
      · exact .inl hq
      · exact .inr (a.gone h hq)
  keep := fun c o e hc ht => by
    have h1 := a.keep c o e hc ht
    refine b.keep c o h1 (fun hm => ?_) ht
    rcases a.fresh c hm with h | h
    · exact hc h
    · rw [e] at h
      cases h
  tup := fun c xs e => b.tup c xs (a.tup c xs e)
  frz := fun c o u e => b.frz c o u (a.frz c o u e)
  xd := fun c o e => b.xd c o (a.xd c o e)
  tbl := fun c ps e => by
    obtain ⟨m, q⟩ := a.tbl c ps e
    obtain ⟨m', q'⟩ := b.tbl c _ q
    exact ⟨m ++ m', by rw [q', Array.append_assoc]⟩
theorem Evo.ix (a : Evo φ H φ' H') {i : Nat} {p : Addr} (h : φ[i]? = some p) : φ'[i]? = some p := by
  obtain ⟨t, rfl⟩ := a.pre
  rw [List.getElem?_append_left (by
    rcases Nat.lt_or_ge i φ.length with h' | h'
    · exact h'
    · rw [List.getElem?_eq_none h'] at h
      cases h)]
  exact h
/-- what readings lean on -/
structure Ev0 (φ : List Addr) (H : Hp) (φ' : List Addr) (H' : Hp) : Prop where
  pre : φ <+: φ'
  tup : ∀ b xs, H b = some (.tup xs) → H' b = some (.tup xs)
  frz : ∀ b o u, H b = some (.frz o u) → H' b = some (.frz o u)
  xd : ∀ b fs, H b = some (.xd fs) → H' b = some (.xd fs)
theorem Evo.to0 (a : Evo φ H φ' H') : Ev0 φ H φ' H' := ⟨a.pre, a.tup, a.frz, a.xd⟩
theorem Ev0.ix (a : Ev0 φ H φ' H') {i : Nat} {p : Addr} (h : φ[i]? = some p) : φ'[i]? = some p := by
  obtain ⟨t, rfl⟩ := a.pre
  rw [List.getElem?_append_left (by
    rcases Nat.lt_or_ge i φ.length with h' | h'
    · exact h'
    · rw [List.getElem?_eq_none h'] at h
      cases h)]
  exact h
theorem SqT_ev0 {a : Addr} {xs : List V} (h : SqT K H a xs) (e : Ev0 φ H φ' H') : SqT K H' a xs := by
  rcases h with (h | ⟨o, h⟩) | h
  · exact .inl (.inl (e.tup _ _ h))
  · exact .inl (.inr ⟨o, e.frz _ _ _ h⟩)
  · exact .inr h
theorem SqR_ev0 {a : Addr} {xs : List V} (h : SqR K H a xs) (e : Ev0 φ H φ' H') : SqR K H' a xs := by
  rcases h with ⟨o, h⟩ | h
  · exact .inl ⟨o, e.frz _ _ _ h⟩
  · exact .inr h
mutual
theorem RepV.ev0 (e : Ev0 φ H φ' H') : ∀ (d : D) (v : V), RepV K φ H d v → RepV K φ' H' d v
  | .non, _, h => h
  | .bl _, _, h => h
  | .int _, _, h => h
  | .str _, _, h => h
  | .tup l, v, h => by
    obtain ⟨a, xs, rfl, hs, hr⟩ := h
    exact ⟨a, xs, rfl, SqT_ev0 hs e, RepVs.ev0 e l xs hr⟩
  | .rol l, v, h => by
    obtain ⟨a, xs, rfl, hs, hr⟩ := h
    exact ⟨a, xs, rfl, SqR_ev0 hs e, RepVs.ev0 e l xs hr⟩
  | .ref i, v, h => by
    obtain ⟨a, ha, rfl⟩ := h
    exact ⟨a, e.ix ha, rfl⟩
theorem RepVs.ev0 (e : Ev0 φ H φ' H') : ∀ (ds : List D) (vs : List V), RepVs K φ H ds vs → RepVs K φ' H' ds vs
  | [], _, h => h
  | d :: ds, vs, h => by
    obtain ⟨v, r, rfl, h1, h2⟩ := h
    exact ⟨v, r, rfl, RepV.ev0 e d v h1, RepVs.ev0 e ds r h2⟩
end
theorem RepK.ev0 (e : Ev0 φ H φ' H') : ∀ (ds : List (Key × D)) (vs : List (Key × V)), RepK K φ H ds vs → RepK K φ' H' ds vs
  | [], _, h => h
  | d :: ds, vs, h => by
    obtain ⟨v, r, rfl, h1, h2⟩ := h
    exact ⟨v, r, rfl, RepV.ev0 e _ v h1, RepK.ev0 e ds r h2⟩
theorem RepF.ev0 (e : Ev0 φ H φ' H') : ∀ (ds : List (Str × D)) (vs : List (Str × V)), RepF K φ H ds vs → RepF K φ' H' ds vs
  | [], _, h => h
  | d :: ds, vs, h => by
    obtain ⟨v, r, rfl, h1, h2⟩ := h
    exact ⟨v, r, rfl, RepV.ev0 e _ v h1, RepF.ev0 e ds r h2⟩
theorem SimF.ev0 (h : SimF K φ H ρ σ) (e : Ev0 φ H φ' H') : SimF K φ' H' ρ σ := ⟨h.len, fun i d q => by
  obtain ⟨v, h1, h2⟩ := h.get i d q
  exact ⟨v, h1, RepV.ev0 e d v h2⟩⟩
/-- an object whose place is as it was -/
theorem RepO.ev0 {a : Addr} (e : Ev0 φ H φ' H') (ha : ∀ u, H a = some u → H' a = some u) : ∀ (o : O), RepO K ca φ H a o → RepO K ca φ' H' a o
  | .lst ds, h => by
    obtain ⟨xs, h1, h2⟩ := h
    exact ⟨xs, ha _ h1, RepVs.ev0 e ds xs h2⟩
  | .dct kvs, h => by
    obtain ⟨xs, h1, h2⟩ := h
    exact ⟨xs, ha _ h1, RepK.ev0 e kvs xs h2⟩
  | .ins c fs, h => by
    obtain ⟨dx, xs, h1, h2⟩ := h
    exact ⟨dx, xs, ha _ h1, RepF.ev0 e fs xs h2⟩
  | .exc c fs m, h => by
    obtain ⟨dd, t0, h1, h2, h3⟩ := h
    refine ⟨dd, t0, ha _ h1, ?_, fun s q => e.tup _ _ (h3 s q)⟩
    rcases h2 with h2 | ⟨dx, fv, h4, h5, h6⟩
    · exact .inl h2
    · exact .inr ⟨dx, fv, h4, e.xd _ _ h5, RepF.ev0 e fs fv h6⟩
theorem SqT_evo {a : Addr} {xs : List V} (h : SqT K H a xs) (e : Evo φ H φ' H') : SqT K H' a xs := SqT_ev0 h e.to0
theorem SqR_evo {a : Addr} {xs : List V} (h : SqR K H a xs) (e : Evo φ H φ' H') : SqR K H' a xs := SqR_ev0 h e.to0
theorem RepV.evo (e : Evo φ H φ' H') (d : D) (v : V) (h : RepV K φ H d v) : RepV K φ' H' d v := RepV.ev0 e.to0 d v h
theorem RepVs.evo (e : Evo φ H φ' H') (d : List D) (v : List V) (h : RepVs K φ H d v) : RepVs K φ' H' d v := RepVs.ev0 e.to0 d v h
theorem RepK.evo (e : Evo φ H φ' H') (d : List (Key × D)) (v : List (Key × V)) (h : RepK K φ H d v) : RepK K φ' H' d v := RepK.ev0 e.to0 d v h
theorem RepF.evo (e : Evo φ H φ' H') (d : List (Str × D)) (v : List (Str × V)) (h : RepF K φ H d v) : RepF K φ' H' d v := RepF.ev0 e.to0 d v h
theorem SimF.evo (h : SimF K φ H ρ σ) (e : Evo φ H φ' H') : SimF K φ' H' ρ σ := h.ev0 e.to0
theorem RepO.evo {a : Addr} (e : Evo φ H φ' H') (ha : ∀ u, H a = some u → H' a = some u) (o : O) (h : RepO K ca φ H a o) : RepO K ca φ' H' a o := RepO.ev0 e.to0 ha o h
theorem RepO.has {a : Addr} : ∀ {o : O}, RepO K ca φ H a o → ∃ u, H a = some u ∧ (∀ xs, u ≠ .tup xs) ∧ (∀ o z, u ≠ .frz o z) ∧ (∀ z, u ≠ .xd z) ∧ (∀ z, u ≠ .tbl z) ∧ (∀ z, u ≠ .own z)
  | .lst ds, h => by
    obtain ⟨xs, h1, _⟩ := h
    exact ⟨_, h1, (fun _ z => by cases z), (fun _ _ z => by cases z), (fun _ z => by cases z), (fun _ z => by cases z), (fun _ z => by cases z)⟩
  | .dct kvs, h => by
    obtain ⟨xs, h1, _⟩ := h
    exact ⟨_, h1, (fun _ z => by cases z), (fun _ _ z => by cases z), (fun _ z => by cases z), (fun _ z => by cases z), (fun _ z => by cases z)⟩
  | .ins c fs, h => by
    obtain ⟨dx, xs, h1, _⟩ := h
    exact ⟨_, h1, (fun _ z => by cases z), (fun _ _ z => by cases z), (fun _ z => by cases z), (fun _ z => by cases z), (fun _ z => by cases z)⟩
  | .exc c fs m, h => by
    obtain ⟨dd, t0, h1, _⟩ := h
    exact ⟨_, h1, (fun _ z => by have z' : HO.ext _ = HO.tup _ := z; cases z'), (fun _ _ z => by have z' : HO.ext _ = HO.frz _ _ := z; cases z'), (fun _ z => by have z' : HO.ext _ = HO.xd _ := z; cases z'), (fun _ z => by have z' : HO.ext _ = HO.tbl _ := z; cases z'), (fun _ z => by have z' : HO.ext _ = HO.own _ := z; cases z')⟩
theorem Sim.at (S : Sim K ca φ H μ) {i : Nat} {o : O} (h : μ[i]? = some o) : ∃ a, φ[i]? = some a ∧ RepO K ca φ H a o := by
  have hi : i < μ.length := (List.getElem?_eq_some_iff.mp h).1
  have hp : i < φ.length := by rw [S.len]; exact hi
  exact ⟨φ[i], List.getElem?_eq_getElem hp, S.ob i _ o (List.getElem?_eq_getElem hp) h⟩
theorem Sim.has (S : Sim K ca φ H μ) {p : Addr} (hp : p ∈ φ) : ∃ u, H p = some u ∧ (∀ xs, u ≠ .tup xs) ∧ (∀ o z, u ≠ .frz o z) ∧ (∀ z, u ≠ .xd z) ∧ (∀ z, u ≠ .tbl z) ∧ (∀ z, u ≠ .own z) := by
  obtain ⟨i, hi, rfl⟩ := List.getElem_of_mem hp
  have hm : i < μ.length := by rw [← S.len]; exact hi
  exact (S.ob i _ μ[i] (List.getElem?_eq_getElem hi) (List.getElem?_eq_getElem hm)).has
theorem Sim.nin (S : Sim K ca φ H μ) {p : Addr} (h : H p = none) : p ∉ φ := fun hp => by
  obtain ⟨u, q, _⟩ := S.has hp
  rw [h] at q
  cases q
/-- a new object of the heap -/
theorem evo_new {p : Addr} {ho : HO} (φ' : List Addr) (hp : H p = none) (hφ : φ' = φ ∨ φ' = φ ++ [p]) : Evo φ H φ' (upd H p ho) where
  pre := by rcases hφ with rfl | rfl; exact List.prefix_rfl; exact List.prefix_append _ _
  fresh := fun q hq => by
    rcases hφ with rfl | rfl
    · exact .inl hq
    · rcases List.mem_append.mp hq with h | h
      · exact .inl h
      · rw [List.mem_singleton.mp h]
        exact .inr hp
  keep := fun b o e _ _ => by rw [upd_ne (ne_of_none e hp)]; exact e
  tup := fun b o e => by rw [upd_ne (ne_of_none e hp)]; exact e
  frz := fun b o u e => by rw [upd_ne (ne_of_none e hp)]; exact e
  xd := fun b o e => by rw [upd_ne (ne_of_none e hp)]; exact e
  tbl := fun b ps e => ⟨#[], by rw [upd_ne (ne_of_none e hp), e]; simp⟩
/-- .. that is none of the store's -/
theorem Sim.lay {p : Addr} {ho : HO} (S : Sim K ca φ H μ) (hp : H p = none) : Sim K ca φ (upd H p ho) μ ∧ Evo φ H φ (upd H p ho) := by
  have e := evo_new (φ := φ) (ho := ho) φ hp (.inl rfl)
  exact ⟨⟨S.len, S.nd, fun i a o h1 h2 => RepO.evo e (fun u q => by rw [upd_ne (ne_of_none q hp)]; exact q) o (S.ob i a o h1 h2)⟩, e⟩
/-- .. the store's next one -/
theorem Sim.new {p : Addr} {ho : HO} {o : O} (S : Sim K ca φ H μ) (hp : H p = none) (h : Evo φ H (φ ++ [p]) (upd H p ho) → RepO K ca (φ ++ [p]) (upd H p ho) p o) :
    Sim K ca (φ ++ [p]) (upd H p ho) (μ ++ [o]) ∧ Evo φ H (φ ++ [p]) (upd H p ho) ∧ (φ ++ [p])[μ.length]? = some p := by
  have e := evo_new (φ := φ) (ho := ho) (φ ++ [p]) hp (.inr rfl)
  have hn := S.nin hp
  refine ⟨⟨by simp [S.len], List.nodup_append.mpr ⟨S.nd, by simp, fun a ha b hb => ?_⟩, fun i a o' h1 h2 => ?_⟩, e, by rw [← S.len]; simp⟩
  · rw [List.mem_singleton.mp hb]
    exact fun z => hn (z ▸ ha)
  · rcases Nat.lt_trichotomy i φ.length with hi | hi | hi
    · rw [List.getElem?_append_left hi] at h1
      rw [List.getElem?_append_left (by rw [← S.len]; exact hi)] at h2
      exact RepO.evo e (fun u q => by rw [upd_ne (ne_of_none q hp)]; exact q) o' (S.ob i a o' h1 h2)
    · subst hi
      rw [List.getElem?_append_right (Nat.le_refl _)] at h1
      rw [List.getElem?_append_right (by rw [S.len]; exact Nat.le_refl _), S.len] at h2
      simp only [Nat.sub_self, List.getElem?_cons_zero, Option.some.injEq] at h1 h2
      subst h1 h2
      exact h e
    · rw [List.getElem?_eq_none (by simp; omega)] at h1
      cases h1
/-- an object of the store is written -/
theorem Sim.set {i : Nat} {a : Addr} {ho : HO} {o o' : O} (S : Sim K ca φ H μ) (hi : φ[i]? = some a) (hm : μ[i]? = some o) (h : Evo φ H φ (upd H a ho) → RepO K ca φ (upd H a ho) a o') :
    Sim K ca φ (upd H a ho) (μ.set i o') ∧ Evo φ H φ (upd H a ho) := by
  obtain ⟨u, hu, n1, n2, n3, n4, n5⟩ := (S.ob i a o hi hm).has
  have hin : a ∈ φ := List.mem_of_getElem? hi
  have ne : ∀ {b z}, H b = some z → z ≠ u → b ≠ a := fun {b z} e d q => by
    subst q
    rw [hu] at e
    cases e
    exact d rfl
  have e : Evo φ H φ (upd H a ho) := {
    pre := List.prefix_rfl
    fresh := fun _ h => .inl h
    keep := fun b o e hb _ => by
      have hba : b ≠ a := fun q => hb (by rw [q]; exact hin)
      rw [upd_ne hba]
      exact e
    tup := fun b o e => by rw [upd_ne (ne e (fun q => n1 _ q.symm))]; exact e
    frz := fun b o z e => by rw [upd_ne (ne e (fun q => n2 _ _ q.symm))]; exact e
    xd := fun b o e => by rw [upd_ne (ne e (fun q => n3 _ q.symm))]; exact e
    tbl := fun b ps e => ⟨#[], by rw [upd_ne (ne e (fun q => n4 _ q.symm)), e]; simp⟩ }
  refine ⟨⟨by simp [S.len], S.nd, fun j b o1 h1 h2 => ?_⟩, e⟩
  by_cases hj : j = i
  · subst hj
    rw [hi] at h1
    cases h1
    rw [List.getElem?_set_self (List.getElem?_eq_some_iff.mp hm).1] at h2
    cases h2
    exact h e
  · rw [List.getElem?_set_ne (Ne.symm hj)] at h2
    have hb : b ≠ a := fun q => by
      subst q
      exact hj (nodup_ixN S.nd h1 hi)
    exact RepO.evo e (fun u q => by rw [upd_ne hb]; exact q) o1 (S.ob j b o1 h1 h2)
where
  nodup_ixN {N : List Addr} (hN : N.Nodup) {i j : Nat} {x : Addr} (a : N[i]? = some x) (b : N[j]? = some x) : i = j := by
    obtain ⟨h1, e1⟩ := List.getElem?_eq_some_iff.mp a
    obtain ⟨h2, e2⟩ := List.getElem?_eq_some_iff.mp b
    exact (List.getElem_inj hN).mp (e1.trans e2.symm)
/-- an object that is none of the store's is written -/
theorem Sim.poke {p : Addr} {u ho : HO} (S : Sim K ca φ H μ) (hp : p ∉ φ) (hu : H p = some u) (n1 : ∀ xs, u ≠ .tup xs) (n2 : ∀ o z, u ≠ .frz o z) (n3 : ∀ z, u ≠ .xd z) : Sim K ca φ (upd H p ho) μ ∧ Ev0 φ H φ (upd H p ho) := by
  have ne : ∀ {b z}, H b = some z → z ≠ u → b ≠ p := fun {b z} e d q => by
    subst q
    rw [hu] at e
    cases e
    exact d rfl
  have e : Ev0 φ H φ (upd H p ho) := {
    pre := List.prefix_rfl
    tup := fun b o e => by rw [upd_ne (ne e (fun q => n1 _ q.symm))]; exact e
    frz := fun b o z e => by rw [upd_ne (ne e (fun q => n2 _ _ q.symm))]; exact e
    xd := fun b o e => by rw [upd_ne (ne e (fun q => n3 _ q.symm))]; exact e }
  exact ⟨⟨S.len, S.nd, fun i a o h1 h2 => RepO.ev0 e (fun v q => by
    have hne : a ≠ p := fun z => hp (by rw [← z]; exact List.mem_of_getElem? h1)
    rw [upd_ne hne]
    exact q) o (S.ob i a o h1 h2)⟩, e⟩
/-- .. is taken into the store -/
theorem Sim.adopt {p : Addr} {o : O} (S : Sim K ca φ H μ) (hp : p ∉ φ) (h : Ev0 φ H (φ ++ [p]) H → RepO K ca (φ ++ [p]) H p o) : Sim K ca (φ ++ [p]) H (μ ++ [o]) ∧ Ev0 φ H (φ ++ [p]) H ∧ (φ ++ [p])[μ.length]? = some p := by
  have e : Ev0 φ H (φ ++ [p]) H := ⟨List.prefix_append _ _, fun _ _ h => h, fun _ _ _ h => h, fun _ _ h => h⟩
  refine ⟨⟨by simp [S.len], List.nodup_append.mpr ⟨S.nd, by simp, fun a ha b hb => ?_⟩, fun i a o' h1 h2 => ?_⟩, e, by rw [← S.len]; simp⟩
  · rw [List.mem_singleton.mp hb]
    exact fun z => hp (z ▸ ha)
  · rcases Nat.lt_trichotomy i φ.length with hi | hi | hi
    · rw [List.getElem?_append_left hi] at h1
      rw [List.getElem?_append_left (by rw [← S.len]; exact hi)] at h2
      exact RepO.ev0 e (fun u q => q) o' (S.ob i a o' h1 h2)
    · subst hi
      rw [List.getElem?_append_right (Nat.le_refl _)] at h1
      rw [List.getElem?_append_right (by rw [S.len]; exact Nat.le_refl _), S.len] at h2
      simp only [Nat.sub_self, List.getElem?_cons_zero, Option.some.injEq] at h1 h2
      subst h1 h2
      exact h e
    · rw [List.getElem?_eq_none (by simp; omega)] at h1
      cases h1
theorem Evo.poke {p : Addr} {ho : HO} (e : Evo φ1 H1 φ H) (hp : H1 p = none) : Evo φ1 H1 φ (upd H p ho) where
  pre := e.pre
  fresh := e.fresh
  keep := fun b o h1 h2 h3 => by rw [upd_ne (ne_of_none h1 hp)]; exact e.keep b o h1 h2 h3
  tup := fun b o h => by rw [upd_ne (ne_of_none h hp)]; exact e.tup b o h
  frz := fun b o u h => by rw [upd_ne (ne_of_none h hp)]; exact e.frz b o u h
  xd := fun b o h => by rw [upd_ne (ne_of_none h hp)]; exact e.xd b o h
  tbl := fun b o h => by rw [upd_ne (ne_of_none h hp)]; exact e.tbl b o h
theorem Evo.adopt {p : Addr} (e : Evo φ1 H1 φ H) (hp : H1 p = none) : Evo φ1 H1 (φ ++ [p]) H where
  pre := e.pre.trans (List.prefix_append _ _)
  fresh := fun q hq => by
    rcases List.mem_append.mp hq with h | h
    · exact e.fresh q h
    · rw [List.mem_singleton.mp h]
      exact .inr hp
  keep := e.keep
  tup := e.tup
  frz := e.frz
  xd := e.xd
  tbl := e.tbl
/-- what is none of the store's stays so -/
theorem Evo.out {p : Addr} {u : HO} (e : Evo φ H φ' H') (hp : p ∉ φ) (hu : H p = some u) : p ∉ φ' := fun h => by
  rcases e.fresh p h with q | q
  · exact hp q
  · rw [hu] at q
    cases q
end
end Lt

set_option Elab.async false
set_option linter.all false
set_option maxRecDepth 100000
set_option maxHeartbeats 4000000
/-! Lt3: readings that follow the evaluator. -/
namespace Lt
open PySem L2 PySem.Spec
open PyProof.Rows hiding St

theorem PE_imp {X : Cx} {e : Expr} {t t' : TE} (h : PE X e t) (i : ∀ σ H Q, t' σ H Q → t σ H Q) : PE X e t' := ⟨fun pins s σ H Q I q => h.run pins s σ H Q I (i _ _ _ q)⟩
theorem PT_imp {X : Cx} {e : Expr} {t t' : TT} (h : PT X e t) (i : ∀ σ H Q, t' σ H Q → t σ H Q) : PT X e t' := ⟨fun pins s σ H Q I q => h.run pins s σ H Q I (i _ _ _ q)⟩
theorem PA_imp {X : Cx} {e : List Expr} {t t' : TA} (h : PA X e t) (i : ∀ σ H Q, t' σ H Q → t σ H Q) : PA X e t' := ⟨fun pos pins s σ H Q I q => h.run pos pins s σ H Q I (i _ _ _ q)⟩
theorem PS_imp {X : Cx} {e : Stmt} {t t' : TS} (h : PS X e t) (i : ∀ D σ H, t' D σ H → t D σ H) : PS X e t' := ⟨fun pins s σ H D I q => h.run pins s σ H D I (i _ _ _ q)⟩
theorem PSs_imp {X : Cx} {e : List Stmt} {t t' : TS} (h : PSs X e t) (i : ∀ D σ H, t' D σ H → t D σ H) : PSs X e t' := ⟨fun pins s σ H D I q => h.run pins s σ H D I (i _ _ _ q)⟩
theorem PE_any {ι : Sort _} {X : Cx} {e : Expr} {t : ι → TE} (h : ∀ i, PE X e (t i)) : PE X e (fun σ H Q => ∃ i, t i σ H Q) := ⟨fun pins s σ H Q I ⟨i, q⟩ => (h i).run pins s σ H Q I q⟩

section
variable (K : PySem.W.Frag) (ca : Nat → Addr)
/-- an exception as the heap has it -/
def ExR (φ : List Addr) (H : Hp) (c : Nat) (fs : List (Str × D)) (cls : Value) (dd : Option Addr) : Prop :=
  cls = .ref (ca c) ∧ ((fs = [] ∧ dd = none) ∨ ∃ dx fv, dd = some dx ∧ H dx = some (.xd fv) ∧ RepF K φ H fs fv)
/-- the result r, from the store at φ and H on -/
def Post {α β : Type} (Rel : List Addr → Hp → α → β → Prop) (W : WX) (σ : St) (φ : List Addr) (H : Hp) (r : R α) (Q : β → Hp → Prop) : Prop := match r with
  | .ok d μ' => ∀ φ' H' v, Evo φ H φ' H' → Sim K ca φ' H' μ' → Rel φ' H' d v → Q v H'
  | .exc c fs μ' => ∀ φ' H' cls dd, Evo φ H φ' H' → Sim K ca φ' H' μ' → ExR K ca φ' H' c fs cls dd → W cls dd σ H'
  | .no => False
def TL {α β : Type} (Rel : List Addr → Hp → α → β → Prop) (W : WX) (f : Fr → Mu → R α) : St → Hp → (β → Hp → Prop) → Prop := fun σ H Q =>
  ∃ φ μ ρ, Sim K ca φ H μ ∧ SimF K φ H ρ σ ∧ Post K ca Rel W σ φ H (f ρ μ) Q
abbrev rlV : List Addr → Hp → D → V → Prop := RepV K
abbrev rlA : List Addr → Hp → List D → List V → Prop := RepVs K
/-- a truth -/
def rlB : List Addr → Hp → D → Bool → Prop := fun _ _ d b => d = .bl b
end

section
variable {K : PySem.W.Frag} {ca : Nat → Addr} {α β γ δ : Type} {Rel : List Addr → Hp → α → β → Prop} {Rel' : List Addr → Hp → γ → δ → Prop} {W : WX} {σ : St} {φ φ' φ1 : List Addr} {H H' H1 : Hp} {μ μ' : Mu} {r : R α}
theorem Post.from {Q : β → Hp → Prop} (e : Evo φ H φ1 H1) (h : Post K ca Rel W σ φ H r Q) : Post K ca Rel W σ φ1 H1 r Q := by
  cases r with
  | ok d m => exact fun φ' H' v e' S q => h φ' H' v (e.trans e') S q
  | exc c fs m => exact fun φ' H' cls dd e' S q => h φ' H' cls dd (e.trans e') S q
  | no => exact h
theorem Post.imp {Q Q' : β → Hp → Prop} (h : Post K ca Rel W σ φ H r Q) (i : ∀ v H', Q v H' → Q' v H') : Post K ca Rel W σ φ H r Q' := by
  cases r with
  | ok d m => exact fun φ' H' v e' S q => i _ _ (h φ' H' v e' S q)
  | exc c fs m => exact h
  | no => exact h
/-- the first of two -/
theorem Post.bind {f : α → Mu → R γ} {Q : δ → Hp → Prop} (h : Post K ca Rel' W σ φ H (r.bind f) Q) :
    Post K ca Rel W σ φ H r (fun x H1 => ∃ φ1 d μ1, r = .ok d μ1 ∧ Evo φ H φ1 H1 ∧ Sim K ca φ1 H1 μ1 ∧ Rel φ1 H1 d x ∧ Post K ca Rel' W σ φ1 H1 (f d μ1) Q) := by
  cases r with
  | ok d m => exact fun φ' H' v e S q => ⟨φ', d, m, rfl, e, S, q, Post.from e h⟩
  | exc c fs m => exact h
  | no => exact h
theorem Post.ok {d : α} {v : β} {Q : β → Hp → Prop} (h : Post K ca Rel W σ φ H (.ok d μ) Q) (S : Sim K ca φ H μ) (r : Rel φ H d v) : Q v H := h φ H v (Evo.refl _ _) S r
theorem Post.new {o : O} {ho : HO} {p : Addr} {Q : VK} (h : Post K ca (rlV K) W σ φ H (new μ o) Q) (S : Sim K ca φ H μ) (hp : H p = none) (r : Evo φ H (φ ++ [p]) (upd H p ho) → RepO K ca (φ ++ [p]) (upd H p ho) p o) : Q (.ref p) (upd H p ho) := by
  obtain ⟨S', e, g⟩ := S.new hp r
  exact h _ _ _ e S' ⟨p, g, rfl⟩
theorem TL.mk {f : Fr → Mu → R α} {ρ : Fr} {Q : β → Hp → Prop} (S : Sim K ca φ H μ) (SF : SimF K φ H ρ σ) (h : Post K ca Rel W σ φ H (f ρ μ) Q) : TL K ca Rel W f σ H Q := ⟨φ, μ, ρ, S, SF, h⟩
end

/-! ### values -/
section
variable {K : PySem.W.Frag} {ca : Nat → Addr} {φ : List Addr} {H : Hp} {μ : Mu}
theorem RepVs.length : ∀ {ds : List D} {vs : List V}, RepVs K φ H ds vs → ds.length = vs.length
  | [], _, h => by rw [show _ = [] from h]; rfl
  | d :: ds, vs, h => by
    obtain ⟨v, r, rfl, _, h2⟩ := h
    simp [RepVs.length h2]
theorem RepVs.append : ∀ {ds es : List D} {vs ws : List V}, RepVs K φ H ds vs → RepVs K φ H es ws → RepVs K φ H (ds ++ es) (vs ++ ws)
  | [], _, _, _, h, g => by rw [show _ = [] from h]; exact g
  | d :: ds, es, vs, ws, h, g => by
    obtain ⟨v, r, rfl, h1, h2⟩ := h
    exact ⟨v, r ++ ws, rfl, h1, RepVs.append h2 g⟩
theorem RepVs.get : ∀ {ds : List D} {vs : List V} {i : Nat} {d : D}, RepVs K φ H ds vs → ds[i]? = some d → ∃ v, vs[i]? = some v ∧ RepV K φ H d v
  | [], _, _, _, _, h => by simp at h
  | d :: ds, vs, 0, e, h, q => by
    obtain ⟨v, r, rfl, h1, h2⟩ := h
    simp at q
    subst q
    exact ⟨v, rfl, h1⟩
  | d :: ds, vs, i + 1, e, h, q => by
    obtain ⟨v, r, rfl, h1, h2⟩ := h
    obtain ⟨w, h3, h4⟩ := RepVs.get (i := i) h2 (by simpa using q)
    exact ⟨w, by simpa using h3, h4⟩
theorem RepVs.getV {ds : List D} {vs : List V} {i : Nat} {v : V} (h : RepVs K φ H ds vs) (q : vs[i]? = some v) : ∃ d, ds[i]? = some d ∧ RepV K φ H d v := by
  have hi : i < ds.length := by rw [h.length]; exact (List.getElem?_eq_some_iff.mp q).1
  obtain ⟨w, h1, h2⟩ := h.get (List.getElem?_eq_getElem hi)
  rw [q] at h1
  cases h1
  exact ⟨_, List.getElem?_eq_getElem hi, h2⟩
theorem RepVs.set {d : D} {v : V} (g : RepV K φ H d v) : ∀ {ds : List D} {vs : List V} (i : Nat), RepVs K φ H ds vs → RepVs K φ H (ds.set i d) (vs.set i v)
  | [], _, _, h => by rw [show _ = [] from h]; rfl
  | e :: ds, vs, 0, h => by
    obtain ⟨w, r, rfl, h1, h2⟩ := h
    exact ⟨v, r, rfl, g, h2⟩
  | e :: ds, vs, i + 1, h => by
    obtain ⟨w, r, rfl, h1, h2⟩ := h
    exact ⟨w, _, rfl, h1, RepVs.set g i h2⟩
theorem RepVs.erase : ∀ {ds : List D} {vs : List V} (i : Nat), RepVs K φ H ds vs → RepVs K φ H (ds.eraseIdx i) (vs.eraseIdx i)
  | [], _, _, h => by rw [show _ = [] from h]; rfl
  | e :: ds, vs, 0, h => by
    obtain ⟨w, r, rfl, h1, h2⟩ := h
    exact h2
  | e :: ds, vs, i + 1, h => by
    obtain ⟨w, r, rfl, h1, h2⟩ := h
    exact ⟨w, _, rfl, h1, RepVs.erase i h2⟩
theorem RepVs.rep {ds : List D} {vs : List V} (h : RepVs K φ H ds vs) : ∀ k : Nat, RepVs K φ H (List.replicate k ds).flatten (List.replicate k vs).flatten
  | 0 => rfl
  | k + 1 => by
    rw [List.replicate_succ, List.replicate_succ, List.flatten_cons, List.flatten_cons]
    exact h.append (RepVs.rep h k)
theorem RepVs.at {ds : List D} {vs : List V} {i : Int} {d : D} (h : RepVs K φ H ds vs) (q : atI ds i = some d) : ∃ v, atI vs i = some v ∧ RepV K φ H d v := by
  unfold atI at q ⊢
  rw [← h.length]
  cases e : ixN ds.length i with
  | none =>
    rw [e] at q
    cases q
  | some j =>
    rw [e] at q
    exact h.get (by simpa using q)
theorem RepV.int {i : Int} {v : V} (h : RepV K φ H (.int i) v) : v = .int i := h
theorem RepV.str {i : Str} {v : V} (h : RepV K φ H (.str i) v) : v = .str i := h
theorem RepV.bl {i : Bool} {v : V} (h : RepV K φ H (.bl i) v) : v = .bl i := h
/-- a list of the store -/
theorem wl_at {i : Nat} {xs : List D} (S : Sim K ca φ H μ) (h : wl? μ i = some xs) : ∃ a vs, φ[i]? = some a ∧ H a = some (.lst vs) ∧ RepVs K φ H xs vs ∧ μ[i]? = some (.lst xs) := by
  unfold wl? at h
  split at h
  · rename_i ys e
    cases h
    obtain ⟨a, h1, vs, h2, h3⟩ := S.at e
    exact ⟨a, vs, h1, h2, h3, e⟩
  · cases h
theorem lst_at {d : D} {v : V} {xs : List D} (S : Sim K ca φ H μ) (h : lst? μ d = some xs) (r : RepV K φ H d v) : ∃ a vs, v = .ref a ∧ SqL K H a vs ∧ RepVs K φ H xs vs := by
  unfold lst? at h
  split at h
  · rename_i i
    split at h
    · rename_i ys e
      cases h
      obtain ⟨a, h1, vs, h2, h3⟩ := S.at e
      obtain ⟨b, h4, rfl⟩ := r
      rw [h1] at h4
      cases h4
      exact ⟨a, vs, rfl, SqL.of h2, h3⟩
    · cases h
  · cases h
    obtain ⟨a, vs, rfl, h1, h2⟩ := r
    exact ⟨a, vs, rfl, h1.sq, h2⟩
  · cases h
end

/-! ### data -/
section
variable {K : PySem.W.Frag} {ca : Nat → Addr} {φ : List Addr} {H : Hp} {μ : Mu}
theorem mapM_cons_some {α β : Type} {f : α → Option β} {x : α} {xs : List α} {ys : List β} (h : (x :: xs).mapM f = some ys) : ∃ y r, f x = some y ∧ xs.mapM f = some r ∧ ys = y :: r := by
  rw [List.mapM_cons] at h
  cases e : f x with
  | none =>
    rw [e] at h
    cases h
  | some y =>
    rw [e] at h
    cases e2 : xs.mapM f with
    | none =>
      rw [e2] at h
      cases h
    | some r =>
      rw [e2] at h
      cases h
      exact ⟨y, r, rfl, rfl, rfl⟩
theorem dpAll_of {n : Nat} (ih : ∀ d v p, toP n μ d = some p → PyData.hasDict p = false → RepV K φ H d v → Dp K H v p) : ∀ {ds : List D} {vs : List V} {ps : List PyData}, ds.mapM (toP n μ) = some ps → PyData.hasDictAll ps = false → RepVs K φ H ds vs → DpAll K H vs ps
  | [], vs, ps, h, _, r => by
    cases h
    rw [show vs = [] from r]
    exact .nil
  | d :: ds, vs, ps, h, hd, r => by
    obtain ⟨y, q, h1, h2, rfl⟩ := mapM_cons_some h
    obtain ⟨v, w, rfl, r1, r2⟩ := r
    simp only [PyData.hasDictAll, Bool.or_eq_false_iff] at hd
    exact .cons (ih d v y h1 hd.1 r1) (dpAll_of ih h2 hd.2 r2)
theorem dp_of (S : Sim K ca φ H μ) : ∀ (n : Nat) (d : D) (v : V) (p : PyData), toP n μ d = some p → PyData.hasDict p = false → RepV K φ H d v → Dp K H v p
  | 0, _, _, _, h, _, _ => by cases h
  | n + 1, .non, v, p, h, _, r => by cases h; rw [show v = .non from r]; exact .non
  | n + 1, .bl b, v, p, h, _, r => by cases h; rw [show v = .bl b from r]; exact .bl b
  | n + 1, .int b, v, p, h, _, r => by cases h; rw [show v = .int b from r]; exact .int b
  | n + 1, .str b, v, p, h, _, r => by cases h; rw [show v = .str b from r]; exact .str b
  | n + 1, .tup l, v, p, h, hd, r => by
    obtain ⟨a, xs, rfl, h1, h2⟩ := r
    simp only [toP, Option.map_eq_some_iff] at h
    obtain ⟨ps, h3, rfl⟩ := h
    simp only [PyData.hasDict] at hd
    exact .tup h1 (dpAll_of (dp_of S n) h3 hd h2)
  | n + 1, .rol l, v, p, h, hd, r => by
    obtain ⟨a, xs, rfl, h1, h2⟩ := r
    simp only [toP, Option.map_eq_some_iff] at h
    obtain ⟨ps, h3, rfl⟩ := h
    simp only [PyData.hasDict] at hd
    exact .lst h1.sq (dpAll_of (dp_of S n) h3 hd h2)
  | n + 1, .ref i, v, p, h, hd, r => by
    obtain ⟨a, ha, rfl⟩ := r
    simp only [toP] at h
    split at h
    · rename_i xs e
      obtain ⟨b, h1, vs, h2, h3⟩ := S.at e
      rw [ha] at h1
      cases h1
      rw [Option.map_eq_some_iff] at h
      obtain ⟨ps, h4, rfl⟩ := h
      simp only [PyData.hasDict] at hd
      exact .lst (SqL.of h2) (dpAll_of (dp_of S n) h4 hd h3)
    · rename_i kvs e
      rw [Option.map_eq_some_iff] at h
      obtain ⟨ps, h4, rfl⟩ := h
      simp [PyData.hasDict] at hd
    · cases h
theorem nodict_of_shaped {p : PyData} (h : SeqAt.shaped p = true) : PyData.hasDict p = false := PyData.hasDict_of_canLay p (SeqAt.canLay_of_shaped h)
theorem shaped2_dp {x y : D} {v w : V} {p q : PyData} (S : Sim K ca φ H μ) (h : shaped2 μ x y = some (p, q)) (rx : RepV K φ H x v) (ry : RepV K φ H y w) :
    Dp K H v p ∧ Dp K H w q ∧ SeqAt.shaped p = true ∧ SeqAt.shaped q = true := by
  unfold shaped2 at h
  split at h
  · rename_i p' q' h1 h2
    split at h
    · rename_i h3
      cases h
      rw [Bool.and_eq_true] at h3
      exact ⟨dp_of S _ _ _ _ h1 (nodict_of_shaped h3.1) rx, dp_of S _ _ _ _ h2 (nodict_of_shaped h3.2) ry, h3.1, h3.2⟩
    · cases h
  · cases h
end
end Lt

set_option Elab.async false
set_option linter.all false
set_option maxRecDepth 100000
set_option maxHeartbeats 4000000
/-! Lt4: the operations by values. -/
namespace Lt
open PySem L2 PySem.Spec
open PyProof.Rows hiding St

section
variable {X : Cx} {ca : Nat → Addr} {W : WX} {σ' : St}

/-- two values of the store and what comes of them -/
def tBin (K : PySem.W.Frag) (ca : Nat → Addr) (W : WX) (σ' : St) (f : D → D → Mu → R D) : R2 := fun x y H Q =>
  ∃ φ μ dx dy, Sim K ca φ H μ ∧ RepV K φ H dx x ∧ RepV K φ H dy y ∧ Post K ca (rlV K) W σ' φ H (f dx dy μ) Q

theorem op_sound (op : Operator) : OpR X (binaryOp op) (tBin X.K ca W σ' (opD op)) := by
  intro pins s σ H x y v u Q I rx ry h
  obtain ⟨φ, μ, dx, dy, S, hx, hy, h⟩ := h
  unfold opD at h
  split at h
  · -- int + int
    exact op_add pins s σ H x y v u Q I rx ry ⟨_, _, hx, hy, h.ok S rfl⟩
  · exact op_sub pins s σ H x y v u Q I rx ry ⟨_, _, hx, hy, h.ok S rfl⟩
  · split at h
    · rename_i c
      exact op_mul pins s σ H x y v u Q I rx ry ⟨_, _, hx, hy, c, h.ok S rfl⟩
    · exact h.elim
  · split at h
    · rename_i c
      exact op_fdiv pins s σ H x y v u Q I rx ry ⟨_, _, hx, hy, c, h.ok S rfl⟩
    · exact h.elim
  · split at h
    · rename_i c
      exact op_mod pins s σ H x y v u Q I rx ry ⟨_, _, hx, hy, c, h.ok S rfl⟩
    · exact h.elim
  · split at h
    · rename_i c
      exact op_pow pins s σ H x y v u Q I rx ry ⟨_, _, hx, hy, c, h.ok S rfl⟩
    · exact h.elim
  · split at h
    · rename_i c
      exact op_add_str pins s σ H x y v u Q I rx ry ⟨_, _, hx, hy, c, h.ok S rfl⟩
    · exact h.elim
  · -- lists
    split at h
    · rename_i i j xs ys e1 e2
      obtain ⟨a, vs, ha, hl, hr, _⟩ := wl_at S e1
      obtain ⟨b, ws, hb, hl2, hr2, _⟩ := wl_at S e2
      obtain ⟨a', ha', rfl⟩ := hx
      rw [ha] at ha'
      cases ha'
      obtain ⟨b', hb', rfl⟩ := hy
      rw [hb] at hb'
      cases hb'
      split at h
      · rename_i c
        refine op_cat pins s σ H _ _ v u Q I rx ry ⟨a, b, vs, ws, rfl, rfl, hl, hl2, by rw [← hr.length, ← hr2.length]; exact c, fun p hp => h.new S hp fun e => ⟨_, upd_same, RepVs.evo e _ _ (hr.append hr2)⟩⟩
      · exact h.elim
    · exact h.elim
  · split at h
    · rename_i i k xs e1
      obtain ⟨a, vs, ha, hl, hr, _⟩ := wl_at S e1
      obtain ⟨a', ha', rfl⟩ := hx
      rw [ha] at ha'
      cases ha'
      split at h
      · rename_i c
        refine op_rep pins s σ H _ _ v u Q I rx ry ⟨a, _, vs, rfl, hy, hl, c.1, c.2.1, by rw [← hr.length]; exact c.2.2, fun p hp => h.new S hp fun e => ⟨_, upd_same, RepVs.evo e _ _ (hr.rep _)⟩⟩
      · exact h.elim
    · exact h.elim
  · exact h.elim

/-! ### comparisons -/
def tCp (K : PySem.W.Frag) (ca : Nat → Addr) (W : WX) (σ' : St) (f : D → D → Mu → Option Bool) : R2 := tBin K ca W σ' fun x y μ => blR (f x y μ) μ

theorem blR_ok {K : PySem.W.Frag} {φ : List Addr} {H : Hp} {μ : Mu} {o : Option Bool} {Q : VK} (S : Sim K ca φ H μ) (h : Post K ca (rlV K) W σ' φ H (blR o μ) Q) : ∃ b, o = some b ∧ Q (.bl b) H := by
  cases o with
  | none => exact h.elim
  | some b => exact ⟨b, rfl, h.ok S rfl⟩

theorem eq_sound (hu : X.A.units + 64 < cLine) : OpR X (compareOp .Eq) (tCp X.K ca W σ' eqD) := by
  intro pins s σ H x y v u Q I rx ry h
  obtain ⟨φ, μ, dx, dy, S, hx, hy, h⟩ := h
  obtain ⟨b, e, q⟩ := blR_ok S h
  unfold eqD at e
  rw [Option.map_eq_some_iff] at e
  obtain ⟨⟨p, p'⟩, e, rfl⟩ := e
  obtain ⟨d1, d2, s1, s2⟩ := shaped2_dp S e hx hy
  exact op_eqD hu pins s σ H x y v u Q I rx ry ⟨p, p', d1, d2, s1, s2, q⟩
theorem ne_sound (hu : X.A.units + 64 < cLine) : OpR X (compareOp .NotEq) (tCp X.K ca W σ' fun x y μ => (eqD x y μ).map (!·)) := by
  intro pins s σ H x y v u Q I rx ry h
  obtain ⟨φ, μ, dx, dy, S, hx, hy, h⟩ := h
  obtain ⟨b, e, q⟩ := blR_ok S h
  unfold eqD at e
  rw [Option.map_eq_some_iff] at e
  obtain ⟨b', e, rfl⟩ := e
  rw [Option.map_eq_some_iff] at e
  obtain ⟨⟨p, p'⟩, e, rfl⟩ := e
  obtain ⟨d1, d2, s1, s2⟩ := shaped2_dp S e hx hy
  exact op_neD hu pins s σ H x y v u Q I rx ry ⟨p, p', d1, d2, s1, s2, q⟩
theorem ord_sound (op : CmpOp) (hop : op = .Lt ∨ op = .LtE ∨ op = .Gt ∨ op = .GtE) : OpR X (compareOp op) (tCp X.K ca W σ' fun x y μ => ordD op x y) := by
  intro pins s σ H x y v u Q I rx ry h
  obtain ⟨φ, μ, dx, dy, S, hx, hy, h⟩ := h
  obtain ⟨b, e, q⟩ := blR_ok S h
  dsimp only [ordD] at e
  split at e
  · cases e; exact op_lt pins s σ H x y v u Q I rx ry ⟨_, _, hx, hy, q⟩
  · cases e; exact op_le pins s σ H x y v u Q I rx ry ⟨_, _, hx, hy, q⟩
  · cases e; exact op_gt pins s σ H x y v u Q I rx ry ⟨_, _, hx, hy, q⟩
  · cases e; exact op_ge pins s σ H x y v u Q I rx ry ⟨_, _, hx, hy, q⟩
  · cases e
theorem isD_sound (neg : Bool) : OpR X (compareOp (if neg then .IsNot else .Is)) (tCp X.K ca W σ' fun x y μ => (isD x y).map fun b => if neg then !b else b) := by
  intro pins s σ H x y v u Q I rx ry h
  obtain ⟨φ, μ, dx, dy, S, hx, hy, h⟩ := h
  obtain ⟨b, e, q⟩ := blR_ok S h
  rw [Option.map_eq_some_iff] at e
  obtain ⟨b', e, rfl⟩ := e
  have nn : ∀ c : Bool, y = .non → decide (x = .non) = c → b' = c → wpAny (model X.prog X.w) X.A (compareOp (if neg then .IsNot else .Is) v u) (EP X pins σ Q) X.xe s := by
    intro c hy' hc hb
    subst hb
    cases neg with
    | false => exact op_isN pins s σ H x y v u Q I rx ry ⟨hy', by rw [hc]; exact q⟩
    | true => exact op_notN pins s σ H x y v u Q I rx ry ⟨hy', by rw [hc]; exact q⟩
  unfold isD at e
  split at e
  · cases e; exact nn true hy (by rw [show x = .non from hx]; rfl) rfl
  · cases e; exact nn false hy (by rw [show x = .bl _ from hx]; rfl) rfl
  · cases e; exact nn false hy (by rw [show x = .int _ from hx]; rfl) rfl
  · cases e; exact nn false hy (by rw [show x = .str _ from hx]; rfl) rfl
  · cases e
    obtain ⟨a, xs, e1, _⟩ := hx
    exact nn false hy (by rw [e1]; rfl) rfl
  · cases e
    obtain ⟨a, xs, e1, _⟩ := hx
    exact nn false hy (by rw [e1]; rfl) rfl
  · cases e
    obtain ⟨a, _, e1⟩ := hx
    exact nn false hy (by rw [e1]; rfl) rfl
  · cases e
    cases neg with
    | false => exact op_isBl pins s σ H x y v u Q I rx ry ⟨_, _, hx, hy, q⟩
    | true => exact op_notBl pins s σ H x y v u Q I rx ry ⟨_, _, hx, hy, q⟩
  · cases e

/-! ### dicts -/
theorem repK_look {K : PySem.W.Frag} {φ : List Addr} {H : Hp} (k : Key) : ∀ {kvs : List (Key × D)} {ks : List (Key × V)}, RepK K φ H kvs ks →
    (kLook kvs k = none ∧ valV ks k = none) ∨ ∃ d v, kLook kvs k = some d ∧ valV ks k = some v ∧ RepV K φ H d v
  | [], ks, h => by
    rw [show ks = [] from h]
    exact .inl ⟨rfl, rfl⟩
  | p :: r, ks, h => by
    obtain ⟨v, w, rfl, h1, h2⟩ := h
    by_cases e : p.1 = k
    · refine .inr ⟨p.2, v, ?_, valV_pos e, h1⟩
      simp [kLook, List.find?_cons, e]
    · have e1 : kLook (p :: r) k = kLook r k := by simp [kLook, List.find?_cons, e]
      rw [e1, valV_neg (p := (p.1, v)) e]
      exact repK_look k h2
theorem repK_map {K : PySem.W.Frag} {φ : List Addr} {H : Hp} {k : Key} {d : D} {v : V} (g : RepV K φ H d v) : ∀ {kvs : List (Key × D)} {ks : List (Key × V)}, RepK K φ H kvs ks →
    RepK K φ H (kvs.map fun kv => if kv.1 = k then (kv.1, d) else kv) (ks.map fun kv => if kv.1 = k then (kv.1, v) else kv)
  | [], ks, h => by
    rw [show ks = [] from h]
    rfl
  | p :: r, ks, h => by
    obtain ⟨w, q, rfl, h1, h2⟩ := h
    by_cases e : p.1 = k
    · refine ⟨v, _, ?_, ?_, repK_map g h2⟩
      · simp [e]
      · simp [e, g]
    · refine ⟨w, _, ?_, ?_, repK_map g h2⟩
      · simp [e]
      · simp [e, h1]
theorem repK_snoc {K : PySem.W.Frag} {φ : List Addr} {H : Hp} {k : Key} {d : D} {v : V} (g : RepV K φ H d v) : ∀ {kvs : List (Key × D)} {ks : List (Key × V)}, RepK K φ H kvs ks → RepK K φ H (kvs ++ [(k, d)]) (ks ++ [(k, v)])
  | [], ks, h => by
    rw [show ks = [] from h]
    exact ⟨v, [], rfl, g, rfl⟩
  | p :: r, ks, h => by
    obtain ⟨w, q, rfl, h1, h2⟩ := h
    exact ⟨w, _, rfl, h1, repK_snoc g h2⟩
theorem repK_put {K : PySem.W.Frag} {φ : List Addr} {H : Hp} {k : Key} {d : D} {v : V} {kvs : List (Key × D)} {ks : List (Key × V)} (h : RepK K φ H kvs ks) (g : RepV K φ H d v) : RepK K φ H (putD kvs k d) (putK ks k v) := by
  unfold putD putK
  rcases repK_look k h with ⟨e1, e2⟩ | ⟨_, _, e1, e2, _⟩
  · rw [e1, valV_any, e2]
    exact repK_snoc g h
  · rw [e1, valV_any, e2]
    exact repK_map g h
theorem repK_length {K : PySem.W.Frag} {φ : List Addr} {H : Hp} : ∀ {kvs : List (Key × D)} {ks : List (Key × V)}, RepK K φ H kvs ks → kvs.length = ks.length
  | [], ks, h => by
    rw [show ks = [] from h]
    rfl
  | p :: r, ks, h => by
    obtain ⟨w, q, rfl, h1, h2⟩ := h
    simp [repK_length h2]
theorem key_kV {K : PySem.W.Frag} {φ : List Addr} {H : Hp} {d : D} {v : V} {k : Key} (e : key? d = some k) (r : RepV K φ H d v) : v = kV k := by
  unfold key? at e
  split at e
  · cases e; exact r
  · cases e; exact r
  · cases e
theorem repF_look {K : PySem.W.Frag} {φ : List Addr} {H : Hp} (k : Str) : ∀ {kvs : List (Str × D)} {ks : List (Str × V)}, RepF K φ H kvs ks →
    (kvs.lookup k = none ∧ ks.lookup k = none) ∨ ∃ d v, kvs.lookup k = some d ∧ ks.lookup k = some v ∧ RepV K φ H d v
  | [], ks, h => by
    rw [show ks = [] from h]
    exact .inl ⟨rfl, rfl⟩
  | (f, d) :: r, ks, h => by
    obtain ⟨v, w, rfl, h1, h2⟩ := h
    rw [List.lookup_cons, List.lookup_cons]
    cases e : k == f with
    | true => exact .inr ⟨d, v, rfl, rfl, h1⟩
    | false => exact repF_look k h2
theorem repF_put {K : PySem.W.Frag} {φ : List Addr} {H : Hp} {k : Str} {d : D} {v : V} (g : RepV K φ H d v) : ∀ {kvs : List (Str × D)} {ks : List (Str × V)}, RepF K φ H kvs ks → RepF K φ H (putFD kvs k d) (putF k v ks)
  | [], ks, h => by
    rw [show ks = [] from h]
    exact ⟨v, [], rfl, g, rfl⟩
  | (f, c) :: r, ks, h => by
    obtain ⟨w, q, rfl, h1, h2⟩ := h
    unfold putFD putF
    by_cases e : f = k
    · rw [if_pos e, if_pos e]
      exact ⟨v, q, by rw [e], g, h2⟩
    · rw [if_neg e, if_neg e]
      exact ⟨w, _, rfl, h1, repF_put g h2⟩
theorem repF_length {K : PySem.W.Frag} {φ : List Addr} {H : Hp} : ∀ {kvs : List (Str × D)} {ks : List (Str × V)}, RepF K φ H kvs ks → kvs.length = ks.length
  | [], ks, h => by
    rw [show ks = [] from h]
    rfl
  | p :: r, ks, h => by
    obtain ⟨w, q, rfl, h1, h2⟩ := h
    simp [repF_length h2]

/-! ### in -/
theorem in_sound (hu : X.A.units + 65 < cLine) (neg : Bool) : OpR X (compareOp (if neg then .NotIn else .In)) (tCp X.K ca W σ' fun x y μ => (inD x y μ).map fun b => if neg then !b else b) := by
  intro pins s σ H x y v u Q I rx ry h
  obtain ⟨φ, μ, dx, dy, S, hx, hy, h⟩ := h
  obtain ⟨b, e, q⟩ := blR_ok S h
  rw [Option.map_eq_some_iff] at e
  obtain ⟨b', e, rfl⟩ := e
  unfold inD at e
  split at e
  · rename_i j
    split at e
    · rename_i xs em
      split at e
      · rename_i p ds es
        cases e
        obtain ⟨d1, d2, s1, s2⟩ := shaped2_dp S es hx hy
        cases neg with
        | false => exact op_inD hu pins s σ H x y v u Q I rx ry ⟨p, ds, d1, d2, s1, s2, q⟩
        | true => exact op_notInD hu pins s σ H x y v u Q I rx ry ⟨p, ds, d1, d2, s1, s2, q⟩
      · cases e
    · rename_i kvs em
      rw [Option.map_eq_some_iff] at e
      obtain ⟨k, ek, rfl⟩ := e
      obtain ⟨a, h1, ks, h2, h3⟩ := S.at em
      obtain ⟨a', h4, rfl⟩ := hy
      rw [h1] at h4
      cases h4
      have hk := key_kV ek hx
      subst hk
      obtain rfl : u = Value.ref a := ry
      have hs : (kLook kvs k).isSome = (valV ks k).isSome := by
        rcases repK_look k h3 with ⟨e1, e2⟩ | ⟨_, _, e1, e2, _⟩ <;> (rw [e1, e2]; rfl)
      rw [hs] at q
      cases neg with
      | false => exact d_in (by omega) I (DGet.k h2) rx fun s' I' => ⟨.bl _, H, I', rfl, q⟩
      | true => exact d_notIn (by omega) I (DGet.k h2) rx fun s' I' => ⟨.bl _, H, I', rfl, q⟩
    · cases e
  · split at e
    · rename_i p ds es
      cases e
      obtain ⟨d1, d2, s1, s2⟩ := shaped2_dp S es hx hy
      obtain ⟨as, r1⟩ := Dp.reads I p x v d1 rx
      obtain ⟨bs, r2⟩ := Dp.reads I (.tuple ds) y u d2 ry
      have hsd : ∀ {xs : List PyData} {d : PyData}, SeqAt.shaped d = true → X.A.units + 1 + min (PyData.depthAll xs) d.depth < cLine := fun {xs d} hd => by
        have h1 := SeqAt.depth_of_shaped hd
        have h2 : min (PyData.depthAll xs) d.depth ≤ d.depth := Nat.min_le_right _ _
        omega
      cases neg with
      | false => exact SeqAt.in_tuple_reads r2 r1 (SeqAt.canLay_of_shaped s2) (SeqAt.canLay_of_shaped s1) (hsd s1) ⟨.bl _, H, I, rfl, q⟩
      | true => exact SeqAt.notIn_tuple_reads r2 r1 (SeqAt.canLay_of_shaped s2) (SeqAt.canLay_of_shaped s1) (hsd s1) ⟨.bl _, H, I, rfl, q⟩
    · cases e
  · split at e
    · cases e
      cases neg with
      | false => exact op_in_str pins s σ H x y v u Q I rx ry ⟨_, _, hx, hy, q⟩
      | true => exact op_notin_str pins s σ H x y v u Q I rx ry ⟨_, _, hx, hy, q⟩
    · cases e
  · cases e

theorem cmp_sound (hu : X.A.units + 65 < cLine) (op : CmpOp) : OpR X (compareOp op) (tCp X.K ca W σ' (cmpD op)) := by
  cases op with
  | Eq => exact eq_sound (by omega)
  | NotEq => exact ne_sound (by omega)
  | Lt => exact ord_sound .Lt (.inl rfl)
  | LtE => exact ord_sound .LtE (.inr (.inl rfl))
  | Gt => exact ord_sound .Gt (.inr (.inr (.inl rfl)))
  | GtE => exact ord_sound .GtE (.inr (.inr (.inr rfl)))
  | Is =>
    have h := isD_sound (X := X) (ca := ca) (W := W) (σ' := σ') false
    intro pins s σ H x y v u Q I rx ry hq
    refine h pins s σ H x y v u Q I rx ry ?_
    obtain ⟨φ, μ, dx, dy, S, hx, hy, hq⟩ := hq
    exact ⟨φ, μ, dx, dy, S, hx, hy, by simpa [cmpD] using hq⟩
  | IsNot =>
    have h := isD_sound (X := X) (ca := ca) (W := W) (σ' := σ') true
    intro pins s σ H x y v u Q I rx ry hq
    refine h pins s σ H x y v u Q I rx ry ?_
    obtain ⟨φ, μ, dx, dy, S, hx, hy, hq⟩ := hq
    exact ⟨φ, μ, dx, dy, S, hx, hy, by simpa [cmpD] using hq⟩
  | In =>
    have h := in_sound (X := X) (ca := ca) (W := W) (σ' := σ') hu false
    intro pins s σ H x y v u Q I rx ry hq
    refine h pins s σ H x y v u Q I rx ry ?_
    obtain ⟨φ, μ, dx, dy, S, hx, hy, hq⟩ := hq
    exact ⟨φ, μ, dx, dy, S, hx, hy, by simpa [cmpD] using hq⟩
  | NotIn =>
    have h := in_sound (X := X) (ca := ca) (W := W) (σ' := σ') hu true
    intro pins s σ H x y v u Q I rx ry hq
    refine h pins s σ H x y v u Q I rx ry ?_
    obtain ⟨φ, μ, dx, dy, S, hx, hy, hq⟩ := hq
    exact ⟨φ, μ, dx, dy, S, hx, hy, by simpa [cmpD] using hq⟩

/-! ### subscripts -/
theorem ix_dict (hu : X.A.units + 1 < cLine) : IxR X (fun x y H Q => ∃ a v, x = .ref a ∧ DGet H a y (some v) ∧ Q v H) := by
  intro value slice pins s σ H x y v u Q I rx ry h hs
  obtain ⟨a, z, rfl, g, q⟩ := h
  obtain rfl : v = Value.ref a := rx
  have hT := dict_typeIs I g
  unfold subscriptTail
  refine wpAny_bind ?_
  rw [getitemInPython_of_ne hT.not_modules]
  refine wpAny_bind (wpAny_specialOf hT PySem.F.slot_dict_getitem.lookup ?_)
  have fin : wpAny (model X.prog X.w) X.A (subscripted slice false (.ref a) u) (fun r s₃ => wpAny (model X.prog X.w) X.A (letTemporaryGo value (.ref a) r >>= fun _ => pure r) (EP X pins σ Q) X.xe s₃) X.xe s := by
    rw [hs]
    exact wpAny_operating (d_getItem hu I g ry fun w' s3 I3 rw' => wpAny_bind (wpAny_letTemporaryGo (wpAny_pure ⟨z, H, I3, rw', q⟩)))
  first
    | exact wpAny_pure (wpAny_bind fin)
    | exact wpAny_bind (wpAny_pure (wpAny_bind fin))
    | exact wpAny_bind fin
theorem ix_sound (hu : X.A.units + 1 < cLine) : IxR X (tBin X.K ca W σ' ixD) := by
  intro value slice pins s σ H x y v u Q I rx ry h hs
  obtain ⟨φ, μ, dx, dy, S, hx, hy, h⟩ := h
  unfold ixD at h
  split at h
  · rename_i ds k
    split at h
    · rename_i d e
      obtain ⟨a, xs, rfl, h1, h2⟩ := hx
      obtain ⟨z, h3, h4⟩ := h2.at e
      exact ix_tup value slice pins s σ H _ y v u Q I rx ry ⟨a, xs, k, z, rfl, hy, h1, h3, h.ok S h4⟩ hs
    · exact h.elim
  · rename_i ds k
    split at h
    · rename_i d e
      obtain ⟨a, xs, rfl, h1, h2⟩ := hx
      obtain ⟨z, h3, h4⟩ := h2.at e
      exact ix_list value slice pins s σ H _ y v u Q I rx ry ⟨a, xs, k, z, rfl, hy, h1.sq, h3, h.ok S h4⟩ hs
    · exact h.elim
  · rename_i j
    split at h
    · rename_i ds k em
      split at h
      · rename_i d e
        obtain ⟨a, h1, xs, h2, h3⟩ := S.at em
        obtain ⟨a', h4, rfl⟩ := hx
        rw [h1] at h4
        cases h4
        obtain ⟨z, h5, h6⟩ := h3.at e
        exact ix_list value slice pins s σ H _ y v u Q I rx ry ⟨a, xs, k, z, rfl, hy, SqL.of h2, h5, h.ok S h6⟩ hs
      · exact h.elim
    · rename_i kvs em
      split at h
      · rename_i d e
        obtain ⟨k, ek, ed⟩ := Option.bind_eq_some_iff.mp e
        obtain ⟨a, h1, ks, h2, h3⟩ := S.at em
        obtain ⟨a', h4, rfl⟩ := hx
        rw [h1] at h4
        cases h4
        have hk := key_kV ek hy
        subst hk
        rcases repK_look k h3 with ⟨e1, _⟩ | ⟨d', z, e1, e2, r⟩
        · rw [e1] at ed
          cases ed
        · rw [e1] at ed
          cases ed
          exact ix_dict hu value slice pins s σ H _ _ v u Q I rx ry ⟨a, z, rfl, by rw [← e2]; exact DGet.k h2, h.ok S r⟩ hs
      · exact h.elim
    · exact h.elim
  · exact h.elim
end
end Lt

set_option Elab.async false
set_option linter.all false
set_option maxRecDepth 100000
set_option maxHeartbeats 4000000
/-! Lt5: built-in functions and methods by values. -/
namespace Lt
open PySem L2 PySem.Spec
open PyProof.Rows hiding St

/-! ### reading data off the heap -/
section
variable {X : Cx} {ca : Nat → Addr} {pins : List (Addr × Obj)} {σ : St} {H : Hp} {s : Shared} {φ : List Addr} {μ : Mu}
/-- sys.modules stands in the base -/
def Sys (X : Cx) : Prop := ∃ o es ep, X.base.get? sysModules = some o ∧ o.data = .dict es ep
theorem not_sys {a : Addr} (hs : Sys X) (I : Inv X pins σ H s) {xs : List V} (h : SqL X.K H a xs) : a ≠ sysModules := by
  obtain ⟨o, es, ep, h1, h2⟩ := hs
  rintro rfl
  have hn := (I.bs _ _ h1).2
  rcases h with h | ⟨o', its, n, hk, hc, hd, hsq, _⟩
  · rcases h with h | ⟨_, h⟩ <;> rw [hn] at h <;> cases h
  · have e := I.mod.kin _ _ hk
    rw [h1] at e
    cases e
    rw [h2] at hsq
    cases hsq
theorem readsAll_of {n : Nat} (ih : ∀ d v p u, toP n μ d = some p → RepV X.K φ H d v → RelV v u → ∃ as, Reads s.heap u p as ∧ sysModules ∉ as) :
    ∀ {ds : List D} {vs : List V} {ps : List PyData} {us : List Value}, ds.mapM (toP n μ) = some ps → RepVs X.K φ H ds vs → Vals vs us → ∃ as, ReadsAll s.heap us ps as ∧ sysModules ∉ as
  | [], vs, ps, us, h, r, q => by
    cases h
    rw [show vs = [] from r] at q
    cases q
    exact ⟨[], .nil, by simp⟩
  | d :: ds, vs, ps, us, h, r, q => by
    obtain ⟨y, z, h1, h2, rfl⟩ := mapM_cons_some h
    obtain ⟨v, w, rfl, r1, r2⟩ := r
    cases q with
    | cons q1 q2 =>
      obtain ⟨as, e1, n1⟩ := ih d v y _ h1 r1 q1
      obtain ⟨bs, e2, n2⟩ := readsAll_of ih h2 r2 q2
      exact ⟨as ++ bs, .cons e1 e2, by simp [n1, n2]⟩
theorem reads_kv {n : Nat} (ih : ∀ d v p u, toP n μ d = some p → RepV X.K φ H d v → RelV v u → ∃ as, Reads s.heap u p as ∧ sysModules ∉ as) :
    ∀ {kvs : List (Key × D)} {ks : List (Key × V)} {vs : List (Key × Value)} {es : List DictEntry} {ps : List (PyData × PyData)},
      (kvs.mapM fun kv => (toP n μ kv.2).map fun v => ((match kv.1 with | .inl i => PyData.int i | .inr s => PyData.str s), v)) = some ps → RepK X.K φ H kvs ks → KV ks vs → Pairs (mixKind X.prog X.w) es vs →
      ∃ as bs, ReadsAll s.heap (es.map (·.key)) (ps.map (·.1)) as ∧ ReadsAll s.heap (es.map (·.val)) (ps.map (·.2)) bs ∧ sysModules ∉ as ∧ sysModules ∉ bs
  | [], ks, vs, es, ps, h, r, q, e => by
    cases h
    rw [show ks = [] from r] at q
    cases q
    cases e
    exact ⟨[], [], .nil, .nil, by simp, by simp⟩
  | kv :: kvs, ks, vs, es, ps, h, r, q, e => by
    obtain ⟨y, z, h1, h2, rfl⟩ := mapM_cons_some h
    obtain ⟨v, w, rfl, r1, r2⟩ := r
    rw [Option.map_eq_some_iff] at h1
    obtain ⟨p, h1, rfl⟩ := h1
    cases q with
    | @cons _ kv' _ vs' q1 q2 =>
      cases e with
      | @cons en _ es' _ e1 e2 e3 =>
        obtain ⟨q1a, q1b⟩ := q1
        obtain ⟨as, b1, n1⟩ := ih kv.2 v p _ h1 r1 q1b
        obtain ⟨cs, bs, b2, b3, n2, n3⟩ := reads_kv ih h2 r2 q2 e3
        have hk : Reads s.heap en.key (match kv.1 with | .inl i => PyData.int i | .inr s => PyData.str s) [] := by
          have q1a' : kv.1 = kv'.1 := q1a
          rw [q1a']
          have r' := relV_key (k := kv'.1) (u := en.key) e1
          cases hkk : kv'.1 with
          | inl i =>
            rw [hkk] at r'
            obtain ⟨t, ht⟩ := r'
            rw [ht]
            exact .int i t
          | inr x =>
            rw [hkk] at r'
            obtain ⟨t, ht⟩ := r'
            rw [ht]
            exact .str x t
        refine ⟨[] ++ cs, as ++ bs, .cons hk b2, .cons ?_ b3, by simpa using n2, by simp [n1, n3]⟩
        show Reads s.heap en.val p as
        rw [e2]
        exact b1
theorem reads_of (hs : Sys X) (I : Inv X pins σ H s) (S : Sim X.K ca φ H μ) : ∀ (n : Nat) (d : D) (v : V) (p : PyData) (u : Value), toP n μ d = some p → RepV X.K φ H d v → RelV v u → ∃ as, Reads s.heap u p as ∧ sysModules ∉ as
  | 0, _, _, _, _, h, _, _ => by cases h
  | n + 1, .non, v, p, u, h, r, q => by
    cases h
    rw [show v = .non from r] at q
    cases q
    exact ⟨_, .none, by simp⟩
  | n + 1, .bl b, v, p, u, h, r, q => by
    cases h
    rw [show v = .bl b from r] at q
    cases q
    exact ⟨_, .bool b, by simp⟩
  | n + 1, .int b, v, p, u, h, r, q => by
    cases h
    rw [show v = .int b from r] at q
    obtain ⟨t, rfl⟩ := q
    exact ⟨_, .int b t, by simp⟩
  | n + 1, .str b, v, p, u, h, r, q => by
    cases h
    rw [show v = .str b from r] at q
    obtain ⟨t, rfl⟩ := q
    exact ⟨_, .str b t, by simp⟩
  | n + 1, .tup l, v, p, u, h, r, q => by
    obtain ⟨a, xs, rfl, h1, h2⟩ := r
    obtain rfl : u = Value.ref a := q
    simp only [toP, Option.map_eq_some_iff] at h
    obtain ⟨ps, h3, rfl⟩ := h
    obtain ⟨its, rv, ⟨o, ho, hc, n', hd⟩, _⟩ := I.tuple h1
    obtain ⟨as, hr, hn⟩ := readsAll_of (reads_of hs I S n) h3 h2 rv
    exact ⟨_, .tuple ho hc hd hr, hn⟩
  | n + 1, .rol l, v, p, u, h, r, q => by
    obtain ⟨a, xs, rfl, h1, h2⟩ := r
    obtain rfl : u = Value.ref a := q
    simp only [toP, Option.map_eq_some_iff] at h
    obtain ⟨ps, h3, rfl⟩ := h
    obtain ⟨its, rv, ⟨o, n', ho, hc, _, hd⟩, _⟩ := I.list h1.sq
    obtain ⟨as, hr, hn⟩ := readsAll_of (reads_of hs I S n) h3 h2 rv
    exact ⟨_, .list ho hc hd hr, by
      rw [List.mem_cons, not_or]
      exact ⟨fun e => not_sys hs I h1.sq e.symm, hn⟩⟩
  | n + 1, .ref i, v, p, u, h, r, q => by
    obtain ⟨a, ha, rfl⟩ := r
    obtain rfl : u = Value.ref a := q
    simp only [toP] at h
    split at h
    · rename_i xs e
      obtain ⟨b, h1, vs, h2, h3⟩ := S.at e
      rw [ha] at h1
      cases h1
      rw [Option.map_eq_some_iff] at h
      obtain ⟨ps, h4, rfl⟩ := h
      obtain ⟨its, rv, ⟨o, n', ho, hc, _, hd⟩, _⟩ := I.list (SqL.of h2)
      obtain ⟨as, hr, hn⟩ := readsAll_of (reads_of hs I S n) h4 h3 rv
      exact ⟨_, .list ho hc hd hr, by
        rw [List.mem_cons, not_or]
        exact ⟨fun e => not_sys hs I (SqL.of h2) e.symm, hn⟩⟩
    · rename_i kvs e
      rw [Option.map_eq_some_iff] at h
      obtain ⟨ps, h4, rfl⟩ := h
      obtain ⟨b, h1, ks, h2, h3⟩ := S.at e
      rw [ha] at h1
      cases h1
      obtain ⟨_, hne, vs, kv, o, es, ep, ho, hx, hd, _, hp, _⟩ := I.hok a _ h2
      obtain ⟨as, bs, e1, e2, n1, n2⟩ := reads_kv (reads_of hs I S n) h4 h3 kv hp
      refine ⟨_, .dict ho hx.1 hd (by simpa using e1) (by simpa using e2), ?_⟩
      simp only [List.cons_append, List.mem_cons, List.mem_append, not_or]
      exact ⟨fun e => by rw [← e] at hne; simp at hne, n1, n2⟩
    · cases h
/-- repr(d) -/
theorem repr_ok {u : Value} {p : PyData} {as : List Addr} {Q : VK} (hg : X.A.guards = some []) (hu : X.A.units + 200 < cLine) (I : Inv X pins σ H s) (r : Reads s.heap u p as) (hn : sysModules ∉ as)
    (h1 : p.showable = true) (h2 : p.depth ≤ 64) (h3 : p.shown.length ≤ sizeLine) (q : Q (.str p.shown) H) : wpAny (model X.prog X.w) X.A (PySem.call (.builtin "repr") [u]) (EP X pins σ Q) X.xe s := by
  have fin : ∀ (h' : Heap) (t tk : Tok), (∀ b o, s.heap.get? b = some o → h'.get? b = some o) → EP X pins σ Q (.str p.shown t) { s with heap := h', toks := tk } := fun h' t tk k => ⟨.str p.shown, H, I.kept k, ⟨t, rfl⟩, q⟩
  cases r with
  | none => exact PySem.P.repr_of_none (fin _ _ _ fun _ _ z => z)
  | bool b => exact PySem.P.repr_of_bool (fin _ _ _ fun _ _ z => z)
  | int i t => exact PySem.P.repr_of_int (by simpa [PyData.showable] using h1) (fin _ _ _ fun _ _ z => z)
  | str x t => exact PySem.P.repr_of_str (fin _ _ _ fun _ _ z => z) h3
  | list a1 a2 a3 a4 => exact repr_of_reads' (.list a1 a2 a3 a4) h1 (fun _ => hn) hg (by omega) (fun _ _ z => z) (fun h' t tk k => fin h' t tk k) h3
  | tuple a1 a2 a3 a4 => exact repr_of_reads' (.tuple a1 a2 a3 a4) h1 (fun _ => hn) hg (by omega) (fun _ _ z => z) (fun h' t tk k => fin h' t tk k) h3
  | dict a1 a2 a3 a4 a5 => exact repr_of_reads' (.dict a1 a2 a3 a4 a5) h1 (fun _ => hn) hg (by omega) (fun _ _ z => z) (fun h' t tk k => fin h' t tk k) h3
end

/-! ### built-in functions -/
/-- what the names are -/
def biV : BI → Value
  | .len => .builtin "len"
  | .abs => .builtin "abs"
  | .int => .type "int"
  | .min2 => .builtin "min"
  | .max2 => .builtin "max"
  | .repr => .builtin "repr"
  | .str => .type "str"
  | .list => .type "list"
  | .tuple => .type "tuple"
  | .all => .builtin "all"
  | .any => .builtin "any"
  | .sorted => .builtin "sorted"
/-- str(e) of an exception's class -/
structure ExS (K : PySem.W.Frag) (C : Addr) : Prop where
  st : PySem.W.findIn K (.ref C) "__str__" = some (some (.builtin "BaseException.__str__"))
  sB : PySem.W.subIn K (.ref C) (.type "BaseException") = some true
section
variable {X : Cx} {ca : Nat → Addr} {W : WX} {σ' : St}
theorem bls_of {K : PySem.W.Frag} {φ : List Addr} {H : Hp} : ∀ {ds : List D} {vs : List V} {bs : List Bool}, blsOf ds = some bs → RepVs K φ H ds vs → vs = bs.map V.bl
  | [], vs, bs, h, r => by
    cases h
    rw [show vs = [] from r]
    rfl
  | d :: ds, vs, bs, h, r => by
    obtain ⟨v, w, rfl, h1, h2⟩ := r
    cases d with
    | bl b =>
      simp only [blsOf, Option.map_eq_some_iff] at h
      obtain ⟨bs', h3, rfl⟩ := h
      rw [bls_of h3 h2, show v = .bl b from h1]
      rfl
    | _ => simp [blsOf] at h
theorem bi_sound (hc : X.calm = true) (hg : X.A.guards = some []) (hu : X.A.units + 200 < cLine) (hs : Sys X) {P : Pg} (hE : ∀ c, P.isExc c = true → ExS X.K (ca c)) (b : BI) : CallR X (biV b) (fun xs H Q => ∃ φ μ ds, Sim X.K ca φ H μ ∧ RepVs X.K φ H ds xs ∧ Post X.K ca (rlV X.K) W σ' φ H (biD P b ds μ) Q) := by
  intro pins s σ H xs us Q I r h
  obtain ⟨φ, μ, ds, S, rs, h⟩ := h
  unfold biD at h
  have one : ∀ {d : D}, RepVs X.K φ H [d] xs → ∃ x u, xs = [x] ∧ us = [u] ∧ RepV X.K φ H d x ∧ RelV x u := fun {d} rs => by
    obtain ⟨x, w, rfl, r1, r2⟩ := rs
    rw [show w = [] from r2] at r
    obtain ⟨u, rfl, ru⟩ := vals1 r
    exact ⟨x, u, by rw [show w = [] from r2], rfl, r1, ru⟩
  have two : ∀ {d e : D}, RepVs X.K φ H [d, e] xs → ∃ x y, xs = [x, y] ∧ RepV X.K φ H d x ∧ RepV X.K φ H e y := fun {d e} rs => by
    obtain ⟨x, w, rfl, r1, y, w', rfl, r2, r3⟩ := rs
    rw [show w' = [] from r3]
    exact ⟨x, y, rfl, r1, r2⟩
  split at h
  · -- len of a text
    split at h
    · rename_i z
      obtain ⟨x, u, rfl, rfl, r1, ru⟩ := one rs
      exact call_len_str pins s σ H _ _ Q I r ⟨_, by rw [r1.str], z, h.ok S rfl⟩
    · exact h.elim
  · obtain ⟨x, u, rfl, rfl, r1, ru⟩ := one rs
    obtain ⟨a, ys, rfl, h1, h2⟩ := r1
    exact call_len_seq pins s σ H _ _ Q I r ⟨a, ys, rfl, .inr h1, by rw [← h2.length]; exact h.ok S rfl⟩
  · obtain ⟨x, u, rfl, rfl, r1, ru⟩ := one rs
    obtain ⟨a, ys, rfl, h1, h2⟩ := r1
    exact call_len_seq pins s σ H _ _ Q I r ⟨a, ys, rfl, .inl h1.sq, by rw [← h2.length]; exact h.ok S rfl⟩
  · obtain ⟨x, u, rfl, rfl, r1, ru⟩ := one rs
    obtain ⟨a, ha, rfl⟩ := r1
    split at h
    · rename_i ys em
      obtain ⟨b, h1, vs, h2, h3⟩ := S.at em
      rw [ha] at h1
      cases h1
      exact call_len_seq pins s σ H _ _ Q I r ⟨a, vs, rfl, .inl (SqL.of h2), by rw [← h3.length]; exact h.ok S rfl⟩
    · rename_i kvs em
      obtain ⟨b, h1, vs, h2, h3⟩ := S.at em
      rw [ha] at h1
      cases h1
      exact call_lenD pins s σ H _ _ Q I r ⟨a, vs, rfl, h2, by rw [← repK_length h3]; exact h.ok S rfl⟩
    · exact h.elim
  · obtain ⟨x, u, rfl, rfl, r1, ru⟩ := one rs
    exact call_abs pins s σ H _ _ Q I r ⟨_, by rw [r1.int], h.ok S rfl⟩
  · obtain ⟨x, u, rfl, rfl, r1, ru⟩ := one rs
    exact call_int1 pins s σ H _ _ Q I r (.inl ⟨_, by rw [r1.int], h.ok S rfl⟩)
  · obtain ⟨x, u, rfl, rfl, r1, ru⟩ := one rs
    exact call_int1 pins s σ H _ _ Q I r (.inr ⟨_, by rw [r1.bl], h.ok S rfl⟩)
  · obtain ⟨x, y, rfl, r1, r2⟩ := two rs
    exact call_min2 hc pins s σ H _ _ Q I r ⟨_, _, by rw [r1.int, r2.int], h.ok S rfl⟩
  · obtain ⟨x, y, rfl, r1, r2⟩ := two rs
    exact call_max2 hc pins s σ H _ _ Q I r ⟨_, _, by rw [r1.int, r2.int], h.ok S rfl⟩
  · obtain ⟨x, u, rfl, rfl, r1, ru⟩ := one rs
    split at h
    · rename_i bs eb
      obtain ⟨xs', e1, e2⟩ := Option.bind_eq_some_iff.mp eb
      obtain ⟨a, vs, rfl, h1, h2⟩ := lst_at S e1 r1
      have hv := bls_of e2 h2
      subst hv
      exact cr_all hc pins s σ H _ _ Q I r ⟨a, bs, rfl, h1, h.ok S rfl⟩
    · exact h.elim
  · obtain ⟨x, u, rfl, rfl, r1, ru⟩ := one rs
    split at h
    · rename_i bs eb
      obtain ⟨xs', e1, e2⟩ := Option.bind_eq_some_iff.mp eb
      obtain ⟨a, vs, rfl, h1, h2⟩ := lst_at S e1 r1
      have hv := bls_of e2 h2
      subst hv
      exact cr_any hc pins s σ H _ _ Q I r ⟨a, bs, rfl, h1, h.ok S rfl⟩
    · exact h.elim
  · -- repr
    obtain ⟨x, u, rfl, rfl, r1, ru⟩ := one rs
    split at h
    · rename_i p ep
      split at h
      · rename_i c
        simp only [Bool.and_eq_true, decide_eq_true_eq] at c
        obtain ⟨as, hr, hn⟩ := reads_of hs I S 60 _ _ _ _ ep r1 ru
        exact repr_ok hg hu I hr hn c.1.1 c.1.2 c.2 (h.ok S rfl)
      · exact h.elim
    · exact h.elim
  · -- str of an exception
    obtain ⟨x, u, rfl, rfl, r1, ru⟩ := one rs
    obtain ⟨a, ha, rfl⟩ := r1
    obtain rfl : u = Value.ref a := ru
    split at h
    · rename_i c fs m em
      split at h
      case isFalse => exact h.elim
      rename_i hc
      obtain ⟨b, h1, dd, t0, h2, h3, h4⟩ := S.at em
      rw [ha] at h1
      cases h1
      have ht := h4 m rfl
      have hx : ObjOk X.prog X.w H s.heap a (exX (ca c) a dd t0) := I.hok a _ h2
      obtain ⟨⟨fv, e1, e2, _⟩, _⟩ := hx
      obtain ⟨_, its, rv, o, e3, e4, n, e5⟩ := (show ObjOk X.prog X.w H s.heap t0 (.tup [.str m]) from I.hok t0 _ ht)
      obtain ⟨w, rfl, tk, rfl⟩ := vals1 rv
      have x : PySem.ExcC X.K (ca c) a t0 s.heap := ⟨I.kIn, _, fv, e1, rfl, rfl, e2⟩
      have y : s.heap.TupAt t0 [.str m tk] := by exact ⟨o, n, e3, e4, e5⟩
      exact PySem.P.str_of_C_one (by omega) x y (hE c hc).st (hE c hc).sB ⟨.str m, H, I, ⟨tk, rfl⟩, h.ok S rfl⟩
    · exact h.elim
  · -- list(t)
    obtain ⟨x, u, rfl, rfl, r1, ru⟩ := one rs
    obtain ⟨a, ys, rfl, h1, h2⟩ := r1
    exact call_list_of pins s σ H _ _ Q I r ⟨a, ys, rfl, .inr h1, fun p hp => h.new S hp fun e => ⟨_, upd_same, RepVs.evo e _ _ h2⟩⟩
  · obtain ⟨x, u, rfl, rfl, r1, ru⟩ := one rs
    split at h
    · rename_i ys e
      obtain ⟨a, vs, rfl, h1, h2⟩ := lst_at S e r1
      exact call_list_of pins s σ H _ _ Q I r ⟨a, vs, rfl, .inl h1, fun p hp => h.new S hp fun e => ⟨_, upd_same, RepVs.evo e _ _ h2⟩⟩
    · exact h.elim
  · obtain ⟨x, u, rfl, rfl, r1, ru⟩ := one rs
    obtain ⟨a, ys, rfl, h1, h2⟩ := id r1
    exact call_tuple_of pins s σ H _ _ Q I r ⟨a, ys, rfl, .inr ⟨h1, h.ok S r1⟩⟩
  · obtain ⟨x, u, rfl, rfl, r1, ru⟩ := one rs
    split at h
    · rename_i ys e
      obtain ⟨a, vs, rfl, h1, h2⟩ := lst_at S e r1
      refine call_tuple_of pins s σ H _ _ Q I r ⟨a, vs, rfl, .inl ⟨h1, fun p hp => ?_⟩⟩
      obtain ⟨S', e'⟩ := S.lay (ho := .tup vs) hp
      exact h _ _ _ e' S' ⟨p, vs, rfl, SqT.of upd_same, RepVs.evo e' _ _ h2⟩
    · exact h.elim
  · exact h.elim
end
end Lt

set_option Elab.async false
set_option linter.all false
set_option maxRecDepth 100000
set_option maxHeartbeats 4000000
/-! Lt6: isinstance, methods, calls. -/
namespace Lt
open PySem L2 PySem.Spec
open PyProof.Rows hiding St

/-! ### isinstance -/
def tyV (ca : Nat → Addr) : Ty → Value
  | .py n => .type n
  | .cls c => .ref (ca c)
def tyW (ca : Nat → Addr) : Ty → V
  | .py n => .ty n
  | .cls c => .ref (ca c)
theorem tyW_cls (ca : Nat → Addr) (t : Ty) : ClsV (tyW ca t) (tyV ca t) := by
  cases t with
  | py n => exact .ty n
  | cls c => exact .own _
theorem tyW_all (ca : Nat → Addr) : ∀ ts : List Ty, Paired ClsV (ts.map (tyW ca)) (ts.map (tyV ca))
  | [] => .nil
  | t :: ts => .cons (tyW_cls ca t) (tyW_all ca ts)
def baseTys : List String := ["NoneType", "bool", "int", "str", "tuple", "list", "dict"]
/-- a class without an exception's habits -/
structure InsK (K : PySem.W.Frag) (C : Addr) : Prop where
  cl : Cls K C
  ha : PySem.W.findIn K (.ref C) "__class__" = some (some (.builtin "object.__class__"))
  hm : PySem.W.mroIn K C (.type "object") = some true
/-- an exception class -/
structure ExcK (K : PySem.W.Frag) (C : Addr) : Prop where
  hcl : (PySem.W.clsIn K C).isSome = true
  hga : PySem.W.findIn K (.ref C) "__getattribute__" = some (some (.builtin "BaseException.__getattribute__"))
  hgt : PySem.W.findIn K (.ref C) "__getattr__" = some none
  hsub : PySem.W.subIn K (.ref C) (.type "BaseException") = some true
  ha : PySem.W.findIn K (.ref C) "__class__" = some (some (.builtin "object.__class__"))
  hm : PySem.W.mroIn K C (.type "object") = some true
  hd : PySem.W.hasDictIn K C = true
  st : PySem.W.findIn K (.ref C) "__str__" = some (some (.builtin "BaseException.__str__"))
structure IsiK (K : PySem.W.Frag) (P : Pg) (ca : Nat → Addr) (T : List Ty) : Prop where
  hn : PySem.W.specialIn K (.builtin "object.__class__") "__get__" = some (some (.builtin "getset_descriptor.__get__"))
  htk : PySem.W.takesIn K (.builtin "object.__class__") = some true
  py : ∀ n ∈ baseTys, ∀ t ∈ T, PySem.W.kitOne K (.type n) (tyV ca t) = some (subT P (.py n) t)
  cls : ∀ c k, P.cls[c]? = some k → ∀ t ∈ T, PySem.W.kitOne K (.ref (ca c)) (tyV ca t) = some (subT P (.cls c) t)
  ins : ∀ c k, P.cls[c]? = some k → k.exc = false → InsK K (ca c)
  exc : ∀ c k, P.cls[c]? = some k → k.exc = true → ExcK K (ca c)
theorem isIns_at {P : Pg} {c : Nat} (h : P.isIns c = true) : ∃ k, P.cls[c]? = some k ∧ k.exc = false := by
  unfold Pg.isIns at h
  split at h
  · rename_i k e
    exact ⟨k, e, by simpa using h⟩
  · cases h
theorem isExc_at {P : Pg} {c : Nat} (h : P.isExc c = true) : ∃ k, P.cls[c]? = some k ∧ k.exc = true := by
  unfold Pg.isExc at h
  split at h
  · rename_i k e
    exact ⟨k, e, h⟩
  · cases h
section
variable {X : Cx} {ca : Nat → Addr} {pins : List (Addr × Obj)} {σ : St} {H : Hp} {s : Shared} {φ : List Addr} {μ : Mu} {P : Pg} {T : List Ty}
/-- the class of a value, as the library's rule takes it -/
theorem kit_at (F : IsiK X.K P ca T) (I : Inv X pins σ H s) (S : Sim X.K ca φ H μ) {d : D} {v : V} {u : Value} {c : Ty} (e : clsD P μ d = some c) (r : RepV X.K φ H d v) (q : RelV v u) :
    (∃ Z : Heap → Prop, PySem.W.KitX X.K u (tyV ca c) Z ∧ Z s.heap ∧ u ≠ .builtin "__main__.__loader__#opaque") ∧ ((∃ n ∈ baseTys, c = .py n) ∨ ∃ b k, c = .cls b ∧ P.cls[b]? = some k) := by
  have bt : ∀ n ∈ baseTys, c = .py n → ((∃ n ∈ baseTys, c = .py n) ∨ ∃ b k, c = .cls b ∧ P.cls[b]? = some k) := fun n h e => .inl ⟨n, h, e⟩
  have lst : ∀ {a : Addr} {xs : List V}, SqL X.K H a xs → ∃ Z : Heap → Prop, PySem.W.KitX X.K (.ref a) (.type "list") Z ∧ Z s.heap ∧ (Value.ref a) ≠ .builtin "__main__.__loader__#opaque" := fun {a xs} h => by
    obtain ⟨its, rv, ⟨o, n', ho, hcl, _, hd⟩, _⟩ := I.list h
    exact ⟨_, PySem.W.kitx_list, ⟨o, ho, hcl⟩, fun z => nomatch z⟩
  unfold clsD at e
  split at e
  · cases e
    rw [show v = .non from r] at q
    cases q
    exact ⟨⟨_, PySem.W.kitx_none, True.intro, fun z => nomatch z⟩, bt _ (by decide) rfl⟩
  · cases e
    rw [show v = .bl _ from r] at q
    cases q
    exact ⟨⟨_, PySem.W.kitx_bool, True.intro, fun z => nomatch z⟩, bt _ (by decide) rfl⟩
  · cases e
    rw [show v = .int _ from r] at q
    obtain ⟨t, rfl⟩ := q
    exact ⟨⟨_, PySem.W.kitx_int, True.intro, fun z => nomatch z⟩, bt _ (by decide) rfl⟩
  · cases e
    rw [show v = .str _ from r] at q
    obtain ⟨t, rfl⟩ := q
    exact ⟨⟨_, PySem.W.kitx_str, True.intro, fun z => nomatch z⟩, bt _ (by decide) rfl⟩
  · cases e
    obtain ⟨a, xs, rfl, h1, h2⟩ := r
    obtain rfl : u = Value.ref a := q
    obtain ⟨its, rv, ⟨o, ho, hcl, n', hd⟩, _⟩ := I.tuple h1
    exact ⟨⟨_, PySem.W.kitx_tuple, ⟨o, ho, hcl⟩, fun z => nomatch z⟩, bt _ (by decide) rfl⟩
  · cases e
    obtain ⟨a, xs, rfl, h1, h2⟩ := r
    obtain rfl : u = Value.ref a := q
    exact ⟨lst h1.sq, bt _ (by decide) rfl⟩
  · obtain ⟨a, ha, rfl⟩ := r
    obtain rfl : u = Value.ref a := q
    split at e
    · rename_i xs em
      cases e
      obtain ⟨b, h1, vs, h2, h3⟩ := S.at em
      rw [ha] at h1
      cases h1
      exact ⟨lst (SqL.of h2), bt _ (by decide) rfl⟩
    · rename_i kvs em
      cases e
      obtain ⟨b, h1, vs, h2, h3⟩ := S.at em
      rw [ha] at h1
      cases h1
      obtain ⟨_, _, vs', _, o, es, ep, e1, e2, _⟩ := I.hok a _ h2
      exact ⟨⟨_, PySem.W.kitx_dict, ⟨o, e1, e2.1⟩, fun z => nomatch z⟩, bt _ (by decide) rfl⟩
    · rename_i c' fs em
      split at e
      case isFalse => cases e
      rename_i hi
      cases e
      obtain ⟨b, h1, dx, fv, h2, h3⟩ := S.at em
      rw [ha] at h1
      cases h1
      obtain ⟨k, hk, hx⟩ := isIns_at hi
      refine ⟨?_, .inr ⟨c', k, rfl, hk⟩⟩
      obtain ⟨mA, O, _⟩ := ins_get I.hok h2
      obtain ⟨od, J, _⟩ := O.look
      have Z := F.ins c' k hk hx
      exact ⟨_, PySem.W.kitx_own (Z.cl.get _) Z.cl.hd Z.ha F.hn F.htk Z.hm, J, fun z => nomatch z⟩
    · rename_i c' fs m em
      split at e
      case isFalse => cases e
      rename_i hi
      cases e
      obtain ⟨b, h1, dd, t0, h2, h3, h4⟩ := S.at em
      rw [ha] at h1
      cases h1
      obtain ⟨k, hk, hxx⟩ := isExc_at hi
      refine ⟨?_, .inr ⟨c', k, rfl, hk⟩⟩
      have hx : ObjOk X.prog X.w H s.heap a (exX (ca c') a dd t0) := I.hok a _ h2
      obtain ⟨⟨fv, e1, e2, _⟩, _⟩ := hx
      have J : ∃ od, PySem.W.InstAt s.heap a ({ cls := .ref (ca c'), dict := dd, data := .fields fv } : Obj) (ca c') od := by
        rcases h3 with ⟨_, rfl⟩ | ⟨dx, fv', rfl, h5, _⟩
        · exact ⟨none, e1, rfl, rfl, trivial⟩
        · obtain ⟨mA, ⟨o, es, ep, ho, _⟩, _⟩ := I.hok dx _ h5
          exact ⟨some o, e1, rfl, rfl, ho⟩
      obtain ⟨od, J⟩ := J
      have Z := F.exc c' k hk hxx
      exact ⟨_, PySem.W.kitx_exc Z.hcl Z.hga Z.hgt Z.hsub Z.ha F.hn F.htk Z.hm, J, fun z => nomatch z⟩
    · cases e

theorem kit_any {K : PySem.W.Frag} {t : Value} {P : Pg} {c : Ty} (h : ∀ b ∈ T, PySem.W.kitOne K t (tyV ca b) = some (subT P c b)) : ∀ {ts : List Ty}, (∀ b ∈ ts, b ∈ T) → PySem.W.kitAny K t (ts.map (tyV ca)) = some (ts.any (subT P c))
  | [], _ => rfl
  | b :: ts, hb => by
    rw [List.map_cons]
    unfold PySem.W.kitAny
    rw [h b (hb b List.mem_cons_self), List.any_cons]
    cases subT P c b with
    | true => rfl
    | false => exact kit_any h fun z hz => hb z (List.mem_cons_of_mem _ hz)
theorem isiDs_of {d : D} {c : Ty} (e : clsD P μ d = some c) : ∀ ts : List Ty, isiDs P μ d ts = some (ts.any (subT P c))
  | [] => rfl
  | t :: ts => by
    unfold isiDs isiD
    rw [e, List.any_cons]
    cases h : subT P c t with
    | true => simp [h]
    | false => simp [h, isiDs_of e ts]
theorem isiDs_cls {d : D} {ts : List Ty} {b : Bool} (h : isiDs P μ d ts = some b) (hne : ts ≠ []) : ∃ c, clsD P μ d = some c := by
  cases ts with
  | nil => exact absurd rfl hne
  | cons t ts =>
    cases e : clsD P μ d with
    | some c => exact ⟨c, rfl⟩
    | none =>
      unfold isiDs isiD at h
      rw [e] at h
      cases h
theorem kit_all (F : IsiK X.K P ca T) {c : Ty} (h : (∃ n ∈ baseTys, c = .py n) ∨ ∃ b k, c = .cls b ∧ P.cls[b]? = some k) : ∀ t ∈ T, PySem.W.kitOne X.K (tyV ca c) (tyV ca t) = some (subT P c t) := by
  rcases h with ⟨n, hn, rfl⟩ | ⟨b, k, rfl, hk⟩
  · exact fun t ht => F.py n hn t ht
  · exact fun t ht => F.cls b k hk t ht
/-- isinstance(x, t) -/
theorem isi_one {W : WX} {σ' : St} (F : IsiK X.K P ca T) (t : Ty) (ht : t ∈ T) : CallR X (.builtin "isinstance") (fun xs H Q => ∃ φ μ d x, Sim X.K ca φ H μ ∧ RepV X.K φ H d x ∧ xs = [x, tyW ca t] ∧ Post X.K ca (rlV X.K) W σ' φ H (blR (isiDs P μ d [t]) μ) Q) := by
  intro pins s σ H xs us Q I r h
  obtain ⟨φ, μ, d, x, S, rx, rfl, h⟩ := h
  obtain ⟨b, eb, q⟩ := blR_ok S h
  obtain ⟨u1, u2, rfl, r1, r2⟩ := vals2 r
  have e2 := (tyW_cls ca t).eq r2
  subst e2
  obtain ⟨c, ec⟩ := isiDs_cls eb (by simp)
  rw [isiDs_of ec] at eb
  obtain ⟨⟨Z, h1, h2, h3⟩, h4⟩ := kit_at F I S ec rx r1
  have ek := kit_all F h4 t ht
  simp only [List.any_cons, List.any_nil, Bool.or_false, Option.some.injEq] at eb
  rw [eb] at ek
  exact PySem.W.kia_one h1 I.kIn h2 ek h3 fun tk => ⟨.bl b, H, I.tok tk, rfl, q⟩
/-- isinstance(x, (t1, t2, ..)), the tuple just laid -/
theorem isi_tup {W : WX} {σ' : St} (F : IsiK X.K P ca T) (ts : List Ty) (ht : ∀ t ∈ ts, t ∈ T) (hne : ts ≠ []) : CallR X (.builtin "isinstance") (fun xs H Q => ∃ φ μ d x tp, Sim X.K ca φ H μ ∧ RepV X.K φ H d x ∧ xs = [x, .ref tp] ∧ H tp = some (.tup (ts.map (tyW ca))) ∧
    Post X.K ca (rlV X.K) W σ' φ H (blR (isiDs P μ d ts) μ) Q) := by
  intro pins s σ H xs us Q I r h
  obtain ⟨φ, μ, d, x, tp, S, rx, rfl, hT, h⟩ := h
  obtain ⟨b, eb, q⟩ := blR_ok S h
  obtain ⟨u1, u2, rfl, r1, r2⟩ := vals2 r
  cases (show u2 = Value.ref tp from r2)
  obtain ⟨c, ec⟩ := isiDs_cls eb hne
  rw [isiDs_of ec] at eb
  obtain ⟨⟨Z, h1, h2, h3⟩, h4⟩ := kit_at F I S ec rx r1
  have ek := kit_any (kit_all F h4) ht
  rw [eb] at ek
  obtain ⟨_, its, rv, o, e1, e2, n, e3⟩ := (show ObjOk X.prog X.w H s.heap tp (.tup (ts.map (tyW ca))) from I.hok tp _ hT)
  have e4 := ClsV.all (tyW_all ca ts) rv
  subst e4
  obtain ⟨oc, od, dt, sl⟩ := o
  simp only at e2 e3
  subst e2 e3
  exact PySem.W.kia_tup h1 I.kIn h2 e1 ek h3 fun tk => ⟨.bl b, H, I.tok tk, rfl, q⟩
end
end Lt

set_option Elab.async false
set_option linter.all false
set_option maxRecDepth 100000
set_option maxHeartbeats 4000000
/-! Lt7: calls of defs, where nothing is being shown (no repr runs around). -/
namespace Lt
open PySem L2 PySem.Spec
open PyProof.Rows hiding St

/-- a def's promise, kept wherever no repr is running -/
structure FnG (P : Program) (w : World) (K : PySem.W.Frag) (mg : Str → Option Value) (base : Heap) (k : Nat) (f : Addr) (fd : FuncData) (ps : List Str) (sp : Sp) : Prop where
  len : ∀ vs H Q E, sp vs H Q E → vs.length = ps.length
  run : ∀ (A : Around) (outer : List Env) (s : Shared) (H : Hp) (args : Args) (us : List Value) (vs : List V) (Q : VK) (E : XK), Room k A → A.guards = some [] → Env0 P w K mg base A outer s H → BindsTo s fd args (ps.zip us) → Vals vs us → sp vs H Q E →
    codeAny (model P w) A (.call (.ref f) args) (CR (L2.CX P w) outer P w H s Q E) s

theorem fnG_of {P : Program} {w : World} {K : PySem.W.Frag} {mg : Str → Option Value} {base : Heap} {k : Nat} {f : Addr} {name qual : Str} {params : Arguments} {body : List Stmt} {scope : Scope} {dV kV doc pm cdv ct oc : Value} {an od : Option Addr}
    {osl : Array (Option Value)} {N ps : List Str} {sp : Sp} (lk : K.lookup f = some ⟨oc, od, .func (PySem.W.fnOf name qual params body scope dV kV doc pm an cdv ct), osl⟩) (hcd : PySem.W.codeIn K cdv qual = true) (S : FnScope N ps scope)
    (len : ∀ vs H Q E, sp vs H Q E → vs.length = ps.length)
    (hbody : ∀ (A : Around) (outer : List Env) (s : Shared) (H : Hp) (vs : List V) (Q : VK) (E : XK), Room k (A.deeper (envOfC qual scope s.heap.objs.size f cdv)) → A.guards = some [] → sp vs H Q E →
      ∃ t, PSs (cxOf (L2.CX P w) P w K mg base N qual scope f cdv A outer s H E) body t ∧ t { nx := fun _ H' => Q .non H', rt := Q } (start N vs) H) :
    FnG P w K mg base (k + 1) f (PySem.W.fnOf name qual params body scope dV kV doc pm an cdv ct) ps sp := by
  refine ⟨len, fun A outer s H args us vs Q E hr hgd e0 hb r hsp => ?_⟩
  have hl := len _ _ _ _ hsp
  have KX : K.In s.heap := e0.mod.kin.keeps fun b o e => (e0.bs b o e).1
  have lim : s.heap.NoLimit := e0.mod.nolimit.keeps fun b o e => (e0.bs b o e).1
  have hkind : ∀ y ∈ ps.zip us, scope.names.lookup y.1 = some .local ∨ (scope.names.lookup y.1 = some .cell ∧ ((cellsFrom (s.heap.objs.size + 1) scope.names []).lookup y.1).isSome = true) := fun y hy => by
    obtain ⟨n, v⟩ := y
    rcases S.par n (List.of_mem_zip hy).1 with q | q
    · exact .inl q
    · exact .inr ⟨q, PySem.W.cellsFrom_some _ _ _ (.inl q)⟩
  refine codeAny_call_function hr.depth (KX _ _ lk) rfl S.co S.gen rfl (PySem.W.codeRec_of KX hcd) (hb _ _ _ _ ?_)
  refine wpAny_newFunctionEnv_cells S.kind hkind fun env he s1 x => ?_
  subst he
  refine ⟨lim.keeps x.toInCall.keep, codeAny_func ?_⟩
  obtain ⟨t, ht, hq⟩ := hbody A outer s H vs Q E (hr.deeper _) hgd hsp
  have I : Inv (cxOf (L2.CX P w) P w K mg base N qual scope f cdv A outer s H E) [] (start N vs) H s1 := inv_start S hr.hd e0 hl r x
  refine wpAny_mono (ht.run [] s1 (start N vs) H _ I hq) (fun fl s' hs => ?_) fun e s' hs => hs
  have fin : ∀ {σ' : St} {H' : Hp} {v : V} {u : Value}, Inv (cxOf (L2.CX P w) P w K mg base N qual scope f cdv A outer s H E) [] σ' H' s' → RelV v u → Q v H' → CE outer P w H s Q u s' :=
    fun {σ' H' v u} J rv q => ⟨v, H', J.os, J.bare, J.base, J.hok, rv, q⟩
  cases fl with
  | ret u =>
    obtain ⟨v, σ', H', J, rv, q⟩ := hs
    exact fin J rv q
  | next =>
    obtain ⟨σ', H', J, q⟩ := hs
    exact fin (v := V.non) (u := Value.none) J rfl q
  | brk =>
    obtain ⟨_, _, _, q⟩ := hs
    exact False.elim q
  | cont =>
    obtain ⟨_, _, _, q⟩ := hs
    exact False.elim q

section
variable {X : Cx} {W : WX} {k : Nat} {f C : Addr} {fd : FuncData} {ps : List Str} {sp : Sp} {pins : List (Addr × Obj)} {σ : St} {H : Hp} {s : Shared} {Q : VK} {us : List Value} {vs : List V}
/-- a def is called -/
theorem run_fnG (F : FnG X.prog X.w X.K X.mg X.base k f fd ps sp) (hr : Room k X.A) (hg : X.A.guards = some []) (hb : Binds X.K fd ps []) (tk : Takes X W) (I : Inv X pins σ H s) (r : Vals vs us) (h : sp vs H Q (fun cls d H' => W cls d σ H')) :
    wpAny (model X.prog X.w) X.A (PySem.call (.ref f) us) (EP X pins σ Q) X.xe s := by
  have hl : us.length = ps.length := by rw [← r.length]; exact F.len _ _ _ _ h
  have hb' : BindsTo s fd ⟨us, []⟩ (ps.zip us) := by
    have z := hb s us I.kIn (by rw [List.append_nil]; exact hl)
    rw [List.append_nil] at z
    exact z
  refine wpAny_call (codeAny_mono (F.run X.A X.stack s H ⟨us, []⟩ us vs Q _ hr hg I.env0 hb' r h) fun r s' hq => ?_)
  cases r with
  | error e => exact tk e s' (XE.of_call I (fun _ _ _ q => q) hq)
  | ok fl =>
    cases fl with
    | ret u => exact I.after hq
    | next => exact False.elim hq
    | brk => exact False.elim hq
    | cont => exact False.elim hq
theorem make_guards {A : Around} {C : Addr} {us : List Value} {kw : List (Str × Value)} (h : A.guards = some []) : (A.under (.builtin "type.__call__" ⟨.ref C :: us, kw⟩)).guards = some [] := by
  show pushGuards (Code.guards (.builtin "type.__call__" ⟨.ref C :: us, kw⟩)) A.guards = some []
  rw [h]
  rfl
end
end Lt

set_option Elab.async false
set_option linter.all false
set_option maxRecDepth 100000
set_option maxHeartbeats 4000000
/-! Lt8: the trees' forms. -/
namespace Lt
open PySem L2 PySem.Spec
open PyProof.Rows hiding St

section
variable {N : List Str} {G : GT} {T : List Ty} {n : Nat} {sc : Scope} {e : Expr} {le : LE} {env : Env}
theorem tr_nostar (h : trE N G T n sc e = some le) (es : List Expr) : starEach (e :: es) env = (false, eval e env) :: starEach es env := by
  cases n with
  | zero => simp [trE] at h
  | succ n => cases e <;> first | rfl | (simp [trE] at h; done)
theorem tr_noslice (h : trE N G T n sc e = some le) : PlainIx e := by
  cases n with
  | zero => simp [trE] at h
  | succ n => cases e <;> first | (intro o i; rfl) | (simp [trE] at h; done)
theorem base_eq {o : Expr} {m : Str} (h : plainBase o = true) (w : Sem Value) : attributeBase o m env w = w := by
  cases o with
  | Call f as ks p =>
    cases as with
    | nil => simp [plainBase] at h
    | cons a as => cases f <;> first | rfl | (rename_i id p; rfl)
  | _ => rfl
/-- an expression that is tested by its value -/
def byVal (e : Expr) : Bool := match e with
  | .UnaryOp .Not _ _ => false
  | .BoolOp _ _ _ => false
  | .IfExp _ _ _ _ => false
  | .Compare _ _ _ _ => false
  | _ => true
theorem isTrue_val (h : byVal e = true) (whole : Sem Value) : isTrue e env whole = (do let v ← whole; standAt e.pos; holding [v] (truthy v)) := by
  cases e with
  | UnaryOp op a p => cases op <;> first | rfl | (simp [byVal] at h; done)
  | BoolOp => simp [byVal] at h
  | IfExp => simp [byVal] at h
  | Compare => simp [byVal] at h
  | _ => rfl
/-- an expression that is no comprehension -/
def noComp (e : Expr) : Bool := match e with
  | .ListComp _ _ _ _ => false
  | .SetComp _ _ _ _ => false
  | .DictComp _ _ _ _ _ => false
  | _ => true
theorem swaps_eq (h : noComp e = true) (t : Option Expr) (l : Nat) : swapsWith e t l env = pure false := by
  cases e <;> first | rfl | (simp [noComp] at h; done)
theorem nomarks {op : CmpOp} (h : trE N G T n sc e = some le) : behindInMarks op e = false := by
  cases n with
  | zero => simp [trE] at h
  | succ n => cases e <;> first | rfl | (simp [trE] at h; done)
theorem folded_eq (h : trE N G T n sc e = some le) (x : Value) : foldedSetIterable e env x = pure x := by
  cases n with
  | zero => simp [trE] at h
  | succ n => cases e <;> first | rfl | (simp [trE] at h; done)
theorem pa_nostar {es : List Expr} {la : LA} : ∀ {n : Nat} {es : List Expr} {la : LA}, trA N G T n sc es = some la → ∀ pos, (backTo pos (starEach es env)).any (·.1) = false := by
  intro n
  induction n with
  | zero => intro es la h; simp [trA] at h
  | succ n ih =>
    intro es la h pos
    cases es with
    | nil => rfl
    | cons e es =>
      simp only [trA] at h
      split at h
      · rename_i e1 e2 h1 h2
        rw [tr_nostar h1]
        show (false || (backTo pos (starEach es env)).any (·.1)) = false
        rw [ih h2]
        rfl
      · cases h
theorem pa_all {n : Nat} {es : List Expr} {la : LA} (h : trA N G T n sc es = some la) (pos : Pos) : (backTo pos (starEach es env)).all (fun x => !x.1) = true := by
  have q := pa_nostar (env := env) (es := es) (la := la) h pos
  rw [List.all_eq_true]
  intro x hx
  have := List.any_eq_false.mp q x hx
  simpa using this
theorem form_few {n : Nat} {es : List Expr} {la : LA} (h : trA N G T n sc es = some la) (hl : es.length ≤ 5) (pos : Pos) :
    ((backTo pos (starEach es env)).all (fun x => !x.1) && (backToKw pos (keywordEach [] env)).all (fun x => x.1.isSome) && decide (es.length + ([] : List Keyword).length + (if ([] : List Keyword).isEmpty then 0 else 1) < 30)) = true := by
  rw [pa_all h]
  simp [backToKw, keywordEach]
  omega
theorem meth_eq {o : Expr} {m : Str} {apos pos : Pos} {es : List Expr} (hb : plainBase o = true) (hl : (apos.endLine == pos.line) = true)
    (hf : ((backTo pos (starEach es env)).all (fun x => !x.1) && (backToKw pos (keywordEach [] env)).all (fun x => x.1.isSome) && decide (es.length + ([] : List Keyword).length + (if ([] : List Keyword).isEmpty then 0 else 1) < 30)) = true) :
    eval (.Call (.Attribute o m apos) es [] pos) env = (do
      let ov ← eval o env
      standAt apos.atName
      let (f, first) ← holding [ov] (getMethod ov m (do return (← importBound o env).getD true))
      callWith pos f first (backTo pos (starEach es env)) (backToKw pos (keywordEach [] env))) := by
  show (do
    let ov ← attributeBase o m env (eval o env)
    standAt apos.atName
    methodCall o m apos pos env ov (es.length + ([] : List Keyword).length) (backTo pos (starEach es env)) (backToKw pos (keywordEach [] env))) = _
  rw [base_eq hb]
  have hf2 : methodCallForm (es.length + ([] : List Keyword).length) (backTo pos (starEach es env)) (backToKw pos (keywordEach [] env)) = true := hf
  refine congrArg (bind (eval o env)) (funext fun ov => congrArg (bind (standAt apos.atName)) (funext fun _ => ?_))
  unfold methodCall
  rw [hf2]
  unfold calleeOf methodCallPos
  rw [if_pos rfl]
  refine congrArg (bind _) (funext fun x => ?_)
  obtain ⟨f, first⟩ := x
  simp only [hl, Bool.not_true, Bool.false_or, if_true]
  rfl
end
end Lt

set_option Elab.async false
set_option linter.all false
set_option maxRecDepth 100000
set_option maxHeartbeats 4000000
/-! Lt9: calls by values, and what a text's names are. -/
namespace Lt
open PySem L2 PySem.Spec
open PyProof.Rows hiding St

/-- what is called answers as g -/
def CalD (prog : Program) (w : World) (K : PySem.W.Frag) (mg : Str → Option Value) (base : Heap) (k : Nat) (ca : Nat → Addr) (f : Value) (g : List D → Mu → R D) : Prop :=
  ∀ (X : Cx) (W : WX), X.prog = prog → X.w = w → X.K = K → X.mg = mg → X.base = base → X.calm = true → Room (k + 1) X.A → X.A.guards = some [] → Takes X W →
    ∀ (pins : List (Addr × Obj)) (s : Shared) (σ : St) (H : Hp) (xs : List V) (us : List Value) (Q : VK), Inv X pins σ H s → Vals xs us →
      (∃ φ μ ds, Sim K ca φ H μ ∧ RepVs K φ H ds xs ∧ Post K ca (rlV K) W σ φ H (g ds μ) Q) → wpAny (model prog w) X.A (PySem.call f us) (EP X pins σ Q) X.xe s

/-- .. with a name ahead of the value -/
def CalK (prog : Program) (w : World) (K : PySem.W.Frag) (mg : Str → Option Value) (base : Heap) (k : Nat) (ca : Nat → Addr) (f : Value) (a : Str) (g : List D → Mu → R D) : Prop :=
  ∀ (X : Cx) (W : WX), X.prog = prog → X.w = w → X.K = K → X.mg = mg → X.base = base → X.calm = true → Room (k + 1) X.A → X.A.guards = some [] → Takes X W →
    ∀ (pins : List (Addr × Obj)) (s : Shared) (σ : St) (H : Hp) (x : V) (u : Value) (Q : VK), Inv X pins σ H s → RelV x u →
      (∃ φ μ d, Sim K ca φ H μ ∧ RepV K φ H d x ∧ Post K ca (rlV K) W σ φ H (g [d] μ) Q) → wpAny (model prog w) X.A (PySem.call f [] [(a, u)]) (EP X pins σ Q) X.xe s
/-- what a def promises -/
def spL (K : PySem.W.Frag) (ca : Nat → Addr) (g : List D → Mu → R D) (n : Nat) : Sp := fun vs H Q E => vs.length = n ∧ ∃ φ μ ds, Sim K ca φ H μ ∧ RepVs K φ H ds vs ∧ Post K ca (rlV K) (fun cls dd _ H' => E cls dd H') [] φ H (g ds μ) Q

section
variable {K : PySem.W.Frag} {ca : Nat → Addr} {α β : Type} {Rel : List Addr → Hp → α → β → Prop} {φ : List Addr} {H : Hp} {r : R α} {Q : β → Hp → Prop} {W : WX} {σ : St}
theorem post_frame (h : Post K ca Rel W σ φ H r Q) : Post K ca Rel (fun cls dd _ H' => W cls dd σ H') [] φ H r Q := by
  cases r with
  | ok d m => exact h
  | exc c fs m => exact h
  | no => exact h
end

/-- a def -/
theorem calD_fn {prog : Program} {w : World} {K : PySem.W.Frag} {mg : Str → Option Value} {base : Heap} {k : Nat} {ca : Nat → Addr} {fa : Addr} {fd : FuncData} {ps : List Str} {g : List D → Mu → R D}
    (F : FnG prog w K mg base k fa fd ps (spL K ca g ps.length)) (hb : Binds K fd ps []) (hg : ∀ ds μ, ds.length ≠ ps.length → g ds μ = .no) : CalD prog w K mg base k ca (.ref fa) g := by
  intro X W e1 e2 e3 e4 e5 hc hr hgd tk pins s σ H xs us Q I r ⟨φ, μ, ds, S, rs, h⟩
  subst e1 e2 e3 e4 e5
  have hl : ds.length = ps.length := Classical.byContradiction fun hn => by
    rw [hg ds μ hn] at h
    exact h
  exact run_fnG F (hr.mono (Nat.le_succ _)) hgd hb tk I r ⟨by rw [← rs.length]; exact hl, φ, μ, ds, S, rs, post_frame h⟩

/-- C(..) of a class without an exception's habits -/
theorem calD_make {prog : Program} {w : World} {K : PySem.W.Frag} {mg : Str → Option Value} {base : Heap} {k : Nat} {ca : Nat → Addr} {fa : Addr} {fd : FuncData} {p0 : Str} {ps : List Str} {P : Pg} {G : Nat → List D → Mu → R D} {c fi : Nat} {kc : LCls}
    (hk : P.cls[c]? = some kc) (hx : kc.exc = false) (hi : kc.init = some fi) (M : Mk K (ca c) fa) (F : FnG prog w K mg base k fa fd (p0 :: ps) (spL K ca (G fi) (ps.length + 1))) (hb : Binds K fd (p0 :: ps) [])
    (hg : ∀ ds μ, ds.length ≠ ps.length + 1 → G fi ds μ = .no) : CalD prog w K mg base k ca (.ref (ca c)) (mkD P G c) := by
  intro X W e1 e2 e3 e4 e5 hc hr hgd tk pins s σ H xs us Q I r ⟨φ, μ, ds, S, rs, h⟩
  subst e1 e2 e3 e4 e5
  unfold mkD at h
  rw [hk] at h
  simp only [hx, hi, Bool.false_eq_true, if_false] at h
  have hl : ds.length = ps.length := Classical.byContradiction fun hn => by
    rw [hg _ _ (by simpa using hn)] at h
    exact h
  have hd := I.hok.fresh (Nat.le_refl s.heap.objs.size)
  have hx' := I.hok.fresh (Nat.le_succ s.heap.objs.size)
  have I2 := Inv.made (C := ca c) I
  obtain ⟨S1, E1⟩ := S.lay (ho := .own (s.heap.objs.size + 1)) hd
  have hx2 : upd H s.heap.objs.size (.own (s.heap.objs.size + 1)) (s.heap.objs.size + 1) = none := by
    rw [upd_ne (Nat.succ_ne_self _)]
    exact hx'
  obtain ⟨S2, E2, g2⟩ := S1.new (ho := .ins (ca c) s.heap.objs.size []) (o := .ins c []) hx2 fun e => ⟨_, _, upd_same, rfl⟩
  have r2 : Vals (V.ref (s.heap.objs.size + 1) :: xs) (Value.ref (s.heap.objs.size + 1) :: us) := .cons rfl r
  have h2 : spL X.K ca (G fi) (ps.length + 1) (V.ref (s.heap.objs.size + 1) :: xs) (upd (upd H s.heap.objs.size (.own (s.heap.objs.size + 1))) (s.heap.objs.size + 1) (.ins (ca c) s.heap.objs.size [])) (fun v H2 => v = .non ∧ Q (.ref (s.heap.objs.size + 1)) H2) (fun cls dd H' => W cls dd σ H') := by
    refine ⟨by simp [← rs.length, hl], _, _, .ref μ.length :: ds, S2, ⟨_, _, rfl, ⟨_, g2, rfl⟩, RepVs.evo (E1.trans E2) _ _ rs⟩, ?_⟩
    have h' := Post.from (E1.trans E2) h
    generalize G fi (.ref μ.length :: ds) (μ ++ [.ins c []]) = r0 at h'
    cases r0 with
    | ok d m =>
      intro φ' H' v e' S' rv
      cases d with
      | non => exact ⟨rv, h' φ' H' _ e' S' ⟨_, e'.ix g2, rfl⟩⟩
      | _ => exact h'.elim
    | exc c fs m => exact h'
    | no => exact h'
  have hlen : (Value.ref (s.heap.objs.size + 1) :: us).length = (p0 :: ps).length := by simp [← r.length, ← rs.length, hl]
  have hb' : BindsTo { s with heap := (s.heap.push PySem.W.emptyDict).push (PySem.W.instObj (ca c) s.heap.objs.size) } fd ⟨Value.ref (s.heap.objs.size + 1) :: us, []⟩ ((p0 :: ps).zip (Value.ref (s.heap.objs.size + 1) :: us)) := by
    have z := hb _ (Value.ref (s.heap.objs.size + 1) :: us) I2.kIn (by rw [List.append_nil]; exact hlen)
    rw [List.append_nil] at z
    exact z
  refine wpAny_call (make_map (f := fa) I.kIn M.makes M.init (beq_iff_eq.mp M.fn) (codeAny_mono (F.run _ X.stack _ _ ⟨Value.ref (s.heap.objs.size + 1) :: us, []⟩ (Value.ref (s.heap.objs.size + 1) :: us) _ _ (fun cls dd H' => W cls dd σ H') (hr.make (ca c) us [])
    (make_guards hgd) (I2.env0.make (ca c) us []) hb' r2 h2) fun r s' hq' => ?_))
  cases r with
  | error e => exact tk e s' (XE.of_call I2 (fun _ _ _ q => q) hq')
  | ok fl =>
    cases fl with
    | ret u =>
      obtain ⟨v, H', I3, rv, ev, q3⟩ := I2.after hq'
      subst ev
      exact ⟨rv, ⟨V.ref (s.heap.objs.size + 1), H', I3, rfl, q3⟩⟩
    | next => exact False.elim hq'
    | brk => exact False.elim hq'
    | cont => exact False.elim hq'

/-- a getter -/
structure PropG (prog : Program) (w : World) (K : PySem.W.Frag) (mg : Str → Option Value) (base : Heap) (k : Nat) (ca : Nat → Addr) (C : Addr) (f : Str) (g : List D → Mu → R D) : Prop where
  ex : ∃ pa ga fd ps, PropOf K C f pa ga ∧ Binds K fd ps [] ∧ ps.length = 1 ∧ FnG prog w K mg base k ga fd ps (spL K ca g 1)

/-- what the text's names are -/
structure Lk (prog : Program) (w : World) (K : PySem.W.Frag) (mg : Str → Option Value) (base : Heap) (k : Nat) (P : Pg) (F : Nat → List D → Mu → R D) (ca : Nat → Addr) (G : GT) (T : List Ty) : Prop where
  sys : ∃ o es ep, base.get? sysModules = some o ∧ o.data = .dict es ep
  blt : ∀ x ∈ bltNames, mg x = none
  isi : IsiK K P ca T
  cst : ∀ x d, G.lookup x = some (.cst d) → ∃ u v, mg x = some u ∧ RelV v u ∧ ∀ φ H, RepV K φ H d v
  fn : ∀ x f ps, G.lookup x = some (.fn f ps) → ∃ fa, mg x = some (.ref fa) ∧ PySem.W.keepIn K (.ref fa) = true ∧ CalD prog w K mg base k ca (.ref fa) (F f)
  cls : ∀ x c ps kn, G.lookup x = some (.cls c ps kn) → mg x = some (.ref (ca c)) ∧ PySem.W.keepIn K (.ref (ca c)) = true
  mkc : ∀ x c ps kn, G.lookup x = some (.cls c ps kn) → CalD prog w K mg base k ca (.ref (ca c)) (mkD P F c)
  mkk : ∀ x c a, G.lookup x = some (.cls c [a] true) → CalK prog w K mg base k ca (.ref (ca c)) a (mkD P F c)
  kit : ∀ c kc, P.cls[c]? = some kc → kc.exc = false → Cls K (ca c)
  fld : ∀ c kc f, P.cls[c]? = some kc → f ∈ kc.fields → NoAttr K (ca c) f
  prop : ∀ c kc f p, P.cls[c]? = some kc → kc.exc = false → kc.props.lookup f = some p → PropG prog w K mg base k ca (ca c) f (F p)
  meth : ∀ c kc m f, P.cls[c]? = some kc → kc.exc = false → kc.meths.lookup m = some f → ∃ fa, Meth K (ca c) m fa ∧ CalD prog w K mg base k ca (.ref fa) (F f)

/-- where an expression is read -/
structure CxOk (X : Cx) (W : WX) (sc : Scope) (N : List Str) (k : Nat) (P : Pg) (F : Nat → List D → Mu → R D) (ca : Nat → Addr) (G : GT) (T : List Ty) : Prop where
  lk : Lk X.prog X.w X.K X.mg X.base k P F ca G T
  n : X.N = N
  nd : X.N.Nodup
  sc : X.env.scope = sc
  calm : X.calm = true
  hr : Room (k + 1) X.A
  hg : X.A.guards = some []
  tk : Takes X W

section
variable {X : Cx} {W : WX} {sc : Scope} {N : List Str} {k : Nat} {P : Pg} {F : Nat → List D → Mu → R D} {ca : Nat → Addr} {G : GT} {T : List Ty} {α : Type}
theorem CxOk.vis (C : CxOk X W sc N k P F ca G T) {x : Str} (h : visB sc x = true) : Vis X.env.scope x := by
  rw [C.sc]
  unfold visB at h
  unfold Vis
  split at h <;> rename_i e <;> first | exact .inl e | exact .inr (.inl e) | exact .inr (.inr e) | cases h
theorem CxOk.loc (C : CxOk X W sc N k P F ca G T) {x : Str} (h : locB sc x = true) : Loc X.env.scope x := by
  rw [C.sc]
  unfold locB at h
  unfold L2.Loc
  split at h <;> rename_i e <;> first | exact .inl e | exact .inr e | cases h
theorem CxOk.gl (C : CxOk X W sc N k P F ca G T) {x : Str} (h : gloB sc x = true) : Gl X x := by
  show X.env.scope.names.lookup x = _
  rw [C.sc]
  unfold gloB at h
  split at h <;> rename_i e <;> first | exact e | cases h
theorem badN_spec {x : Str} (h : (!badN x) = true) : (x == ("__debug__" : Str)) = false ∧ (x == ("__classdict__" : Str)) = false ∧ x ≠ "__name__" := by
  unfold badN at h
  simp only [Bool.not_or, Bool.and_eq_true, Bool.not_eq_true', beq_eq_false_iff_ne, ne_eq] at h
  exact ⟨by simpa using h.1.1, by simpa using h.1.2, h.2⟩
theorem ix?_at {x : Str} {i : Nat} (h : ix? N x = some i) : N[i]? = some x := by
  unfold ix? at h
  rw [List.findIdx?_eq_some_iff_getElem] at h
  obtain ⟨h1, h2, _⟩ := h
  rw [List.getElem?_eq_getElem h1]
  simpa using h2
theorem CxOk.at (C : CxOk X W sc N k P F ca G T) {x : Str} {i : Nat} (h : ix? N x = some i) : X.N[i]? = some x := by
  rw [C.n]
  exact ix?_at h

/-- the arguments, then the call -/
def tCalD (K : PySem.W.Frag) (ca : Nat → Addr) (W : WX) (ha : Fr → Mu → R (List D)) (g : List D → Mu → R D) : TE := TL K ca (rlV K) W fun ρ μ => (ha ρ μ).bind g
end
end Lt

set_option Elab.async false
set_option linter.all false
set_option maxRecDepth 100000
set_option maxHeartbeats 4000000
/-! Lt10: the parts of expressions. -/
namespace Lt
open PySem L2 PySem.Spec
open PyProof.Rows hiding St

/-- a truth -/
def rlT : List Addr → Hp → Bool → Bool → Prop := fun _ _ b c => c = b
def toB (r : R D) : R Bool := r.bind fun d μ => match d with
  | .bl b => .ok b μ
  | _ => .no
section
variable {K : PySem.W.Frag} {ca : Nat → Addr} {α β γ δ : Type} {Rel : List Addr → Hp → α → β → Prop} {Rel' : List Addr → Hp → γ → δ → Prop} {W : WX} {σ : St} {φ φ' φ1 : List Addr} {H H' H1 : Hp} {μ μ' : Mu} {r : R α} {ρ : Fr}
theorem R.bind_bind {α β γ : Type} (r : R α) (f : α → Mu → R β) (g : β → Mu → R γ) : (r.bind f).bind g = r.bind fun a μ => (f a μ).bind g := by cases r <;> rfl
/-- a truth is a value -/
theorem post_toB {r : R D} {Q : Bool → Hp → Prop} (h : Post K ca rlT W σ φ H (toB r) Q) : Post K ca (rlV K) W σ φ H r (fun x H' => ∃ c, x = .bl c ∧ Q c H') := by
  cases r with
  | ok d m =>
    intro φ' H' v e S q
    cases d with
    | bl b => exact ⟨b, q, h φ' H' b e S rfl⟩
    | _ => exact h.elim
  | exc c fs m => exact h
  | no => exact h
theorem post_ofB {r : R D} {Q : VK} (hb : ∀ d m, r = .ok d m → ∃ b, d = .bl b) (h : Post K ca (rlV K) W σ φ H r Q) : Post K ca rlT W σ φ H (toB r) (fun c H' => Q (.bl c) H') := by
  cases r with
  | ok d m =>
    obtain ⟨b, rfl⟩ := hb d m rfl
    intro φ' H' v e S q
    cases q
    exact h φ' H' _ e S rfl
  | exc c fs m => exact h
  | no => exact h
/-- one part -/
theorem TL.step {f : Fr → Mu → R α} {g : α → Mu → R γ} {Q : δ → Hp → Prop} (S : Sim K ca φ H μ) (SF : SimF K φ H ρ σ) (h : Post K ca Rel' W σ φ H ((f ρ μ).bind g) Q) :
    TL K ca Rel W f σ H (fun x H1 => ∃ φ1 d μ1, Evo φ H φ1 H1 ∧ Sim K ca φ1 H1 μ1 ∧ Rel φ1 H1 d x ∧ SimF K φ1 H1 ρ σ ∧ Post K ca Rel' W σ φ1 H1 (g d μ1) Q) :=
  ⟨φ, μ, ρ, S, SF, (Post.bind h).imp fun x H1 ⟨φ1, d, μ1, _, e, S1, r, h1⟩ => ⟨φ1, d, μ1, e, S1, r, SF.evo e, h1⟩⟩
/-- two parts -/
theorem TL.two {f g : Fr → Mu → R D} {k : D → D → Mu → R D} {Q : VK} (S : Sim K ca φ H μ) (SF : SimF K φ H ρ σ) (h : Post K ca (rlV K) W σ φ H ((f ρ μ).bind fun x μ => (g ρ μ).bind fun y μ => k x y μ) Q) :
    TL K ca (rlV K) W f σ H fun x H1 => TL K ca (rlV K) W g σ H1 fun y H2 => tBin K ca W σ k x y H2 Q := by
  obtain ⟨φ0, μ0, ρ0, S0, SF0, h0⟩ := TL.step (Rel := rlV K) S SF h
  refine ⟨φ0, μ0, ρ0, S0, SF0, h0.imp fun x H1 ⟨φ1, d, μ1, e, S1, r, SF1, h1⟩ => ?_⟩
  obtain ⟨φ2, μ2, ρ2, S2, SF2, h2⟩ := TL.step (Rel := rlV K) S1 SF1 h1
  exact ⟨φ2, μ2, ρ2, S2, SF2, h2.imp fun y H2 ⟨φ3, d', μ3, e', S3, r', SF3, h3⟩ => ⟨φ3, μ3, d, d', S3, RepV.evo e' _ _ r, r', h3⟩⟩
end

section
variable {X : Cx} {W : WX} {P : Pg} {F : Nat → List D → Mu → R D} {ca : Nat → Addr} {a b c : Expr} {la lb lc : LE} {pos : Pos} {es : List Expr} {ls : LA}
abbrev sE (X : Cx) (W : WX) (P : Pg) (F : Nat → List D → Mu → R D) (ca : Nat → Addr) (le : LE) : TE := TL X.K ca (rlV X.K) W (evE P F le)
abbrev sT (X : Cx) (W : WX) (P : Pg) (F : Nat → List D → Mu → R D) (ca : Nat → Addr) (le : LE) : TT := TL X.K ca rlT W (fun ρ μ => toB (evE P F le ρ μ))
abbrev sA (X : Cx) (W : WX) (P : Pg) (F : Nat → List D → Mu → R D) (ca : Nat → Addr) (ls : LA) : TA := TL X.K ca (rlA X.K) W (evA P F ls)

theorem snd_var {i : Nat} {x : Str} (hN : X.N[i]? = some x) (hv : Vis X.env.scope x) (hb : (!badN x) = true) : PE X (.Name x pos) (sE X W P F ca (.var i)) :=
  PE_imp (pe_var hN hv (badN_spec hb).1 (badN_spec hb).2.1) fun σ H Q ⟨φ, μ, ρ, S, SF, h⟩ => by
    unfold evE at h
    split at h
    · rename_i d e
      obtain ⟨v, h1, h2⟩ := SF.get _ _ e
      exact ⟨v, h1, h.ok S h2⟩
    · exact h.elim
theorem snd_cst {d : D} {v : V} {e : Expr} (he : PE X e (tC v)) (r : ∀ φ H, RepV X.K φ H d v) : PE X e (sE X W P F ca (.cst d)) :=
  PE_imp he fun σ H Q ⟨φ, μ, ρ, S, SF, h⟩ => by
    unfold evE at h
    exact h.ok S (r φ H)
theorem snd_bin (op : Operator) (ha : PE X a (sE X W P F ca la)) (hb : PE X b (sE X W P F ca lb)) : PE X (.BinOp a op b pos) (sE X W P F ca (.bin op la lb)) :=
  PE_imp (PE_any fun σ' => pe_op (op_sound (ca := ca) (W := W) (σ' := σ') op) ha hb) fun σ H Q ⟨φ, μ, ρ, S, SF, h⟩ => by
    unfold evE at h
    exact ⟨σ, TL.two S SF h⟩
theorem snd_neg (ha : PE X a (sE X W P F ca la)) : PE X (.UnaryOp .USub a pos) (sE X W P F ca (.neg la)) :=
  PE_imp (pe_un un_neg ha) fun σ H Q ⟨φ, μ, ρ, S, SF, h⟩ => by
    unfold evE at h
    refine PE_imp1 (TL.step (Rel := rlV X.K) S SF h) fun x H1 ⟨φ1, d, μ1, e, S1, r, SF1, h1⟩ => ?_
    cases d with
    | int i => exact ⟨i, r, h1.ok S1 rfl⟩
    | _ => exact h1.elim
where
  PE_imp1 {K : PySem.W.Frag} {ca : Nat → Addr} {α β : Type} {Rel : List Addr → Hp → α → β → Prop} {W : WX} {f : Fr → Mu → R α} {σ : St} {H : Hp} {Q Q' : β → Hp → Prop} (h : TL K ca Rel W f σ H Q) (i : ∀ x H1, Q x H1 → Q' x H1) : TL K ca Rel W f σ H Q' := by
    obtain ⟨φ, μ, ρ, S, SF, h⟩ := h
    exact ⟨φ, μ, ρ, S, SF, h.imp i⟩
theorem TL.imp {K : PySem.W.Frag} {ca : Nat → Addr} {α β : Type} {Rel : List Addr → Hp → α → β → Prop} {W : WX} {f : Fr → Mu → R α} {σ : St} {H : Hp} {Q Q' : β → Hp → Prop} (h : TL K ca Rel W f σ H Q) (i : ∀ x H1, Q x H1 → Q' x H1) : TL K ca Rel W f σ H Q' := snd_neg.PE_imp1 h i
theorem snd_cmp (hu : X.A.units + 65 < cLine) (op : CmpOp) (ha : PE X a (sE X W P F ca la)) (hb : PE X b (sE X W P F ca lb)) (hm : behindInMarks op b = false) : PE X (.Compare a [op] [b] pos) (sE X W P F ca (.cmp op la lb)) :=
  PE_imp (PE_any fun σ' => pe_cmpR (cmp_sound (ca := ca) (W := W) (σ' := σ') hu op) ha hb hm) fun σ H Q ⟨φ, μ, ρ, S, SF, h⟩ => by
    unfold evE at h
    exact ⟨σ, TL.two S SF h⟩
theorem PT_any {ι : Sort _} {X : Cx} {e : Expr} {t : ι → TT} (h : ∀ i, PT X e (t i)) : PT X e (fun σ H Q => ∃ i, t i σ H Q) := ⟨fun pins s σ H Q I ⟨i, q⟩ => (h i).run pins s σ H Q I q⟩
theorem toB_bind {r : R D} {f : D → Mu → R D} : toB (r.bind f) = r.bind fun d μ => toB (f d μ) := by cases r <;> rfl
/-- what a test by values asks for -/
theorem sT_val {t : TE} (he : ∀ σ H Q, sE X W P F ca la σ H Q → t σ H Q) {σ : St} {H : Hp} {Q : Bool → Hp → Prop} (h : sT X W P F ca la σ H Q) : t σ H (fun x H' => ∃ k, x = .bl k ∧ Q k H') := by
  obtain ⟨φ, μ, ρ, S, SF, h⟩ := h
  exact he _ _ _ ⟨φ, μ, ρ, S, SF, post_toB h⟩
theorem snd_cmpT (hu : X.A.units + 65 < cLine) (op : CmpOp) (ha : PE X a (sE X W P F ca la)) (hb : PE X b (sE X W P F ca lb)) (hm : behindInMarks op b = false) : PT X (.Compare a [op] [b] pos) (sT X W P F ca (.cmp op la lb)) :=
  PT_imp (PT_any fun σ' => pt_cmpR (cmp_sound (ca := ca) (W := W) (σ' := σ') hu op) ha hb hm) fun σ H Q ⟨φ, μ, ρ, S, SF, h⟩ => by
    have h := post_toB h
    unfold evE at h
    exact ⟨σ, TL.two S SF h⟩
/-- a chain's readings -/
theorem chain_of {σ : St} {H : Hp} {Q : VK} {op op' : CmpOp} (h : sE X W P F ca (.chain op op' la lb lc) σ H Q) :
    tChain (tCp X.K ca W σ (cmpD op)) (tCp X.K ca W σ (cmpD op')) (sE X W P F ca la) (sE X W P F ca lb) (sE X W P F ca lc) σ H Q := by
  obtain ⟨φ, μ, ρ, S, SF, h⟩ := h
  unfold evE at h
  refine TL.imp (TL.step (Rel := rlV X.K) S SF h) fun x H1 ⟨φ1, d, μ1, e, S1, r, SF1, h1⟩ => ?_
  refine TL.imp (TL.step (Rel := rlV X.K) S1 SF1 h1) fun y H2 ⟨φ2, d2, μ2, e2, S2, r2, SF2, h2⟩ => ?_
  have r' := RepV.evo e2 _ _ r
  refine ⟨φ2, μ2, d, d2, S2, r', r2, ?_⟩
  cases hc : cmpD op d d2 μ2 with
  | none =>
    rw [hc] at h2
    exact h2.elim
  | some b =>
    rw [hc] at h2
    show Post X.K ca (rlV X.K) W σ φ2 H2 (blR (cmpD op d d2 μ2) μ2) _
    rw [hc]
    intro φ3 H3 z e3 S3 rz
    obtain rfl := RepV.bl rz
    refine ⟨b, rfl, ?_⟩
    cases b with
    | false => exact (Post.from e3 h2).ok S3 rfl
    | true =>
      have h3 := Post.from e3 h2
      refine TL.imp (TL.step (Rel := rlV X.K) S3 (SF2.evo e3) h3) fun w H4 ⟨φ4, d4, μ4, e4, S4, r4, SF4, h4⟩ => ?_
      exact ⟨φ4, μ4, d2, d4, S4, RepV.evo e4 _ _ (RepV.evo e3 _ _ r2), r4, h4⟩
theorem chain_mark {op op' : CmpOp} (h : (op != .In && op != .NotIn && op' != .In && op' != .NotIn) = true) : lastMarks [op, op'] [b, c] = false := by
  show behindInMarks op' c = false
  refine nobehind c ?_ ?_ <;> (rintro rfl; simp at h)
theorem snd_chain (hu : X.A.units + 65 < cLine) {op op' : CmpOp} (ho : (op != .In && op != .NotIn && op' != .In && op' != .NotIn) = true) (ha : PE X a (sE X W P F ca la)) (hb : PE X b (sE X W P F ca lb)) (hc : PE X c (sE X W P F ca lc)) :
    PE X (.Compare a [op, op'] [b, c] pos) (sE X W P F ca (.chain op op' la lb lc)) :=
  PE_imp (PE_any fun σ' => pe_chain (cmp_sound (ca := ca) (W := W) (σ' := σ') hu op) (cmp_sound (ca := ca) (W := W) (σ' := σ') hu op') ha hb hc (chain_mark ho)) fun σ H Q h => ⟨σ, chain_of h⟩
theorem snd_chainT (hu : X.A.units + 65 < cLine) {op op' : CmpOp} (ho : (op != .In && op != .NotIn && op' != .In && op' != .NotIn) = true) (ha : PE X a (sE X W P F ca la)) (hb : PE X b (sE X W P F ca lb)) (hc : PE X c (sE X W P F ca lc)) :
    PT X (.Compare a [op, op'] [b, c] pos) (sT X W P F ca (.chain op op' la lb lc)) :=
  PT_imp (PT_any fun σ' => pt_chain (cmp_sound (ca := ca) (W := W) (σ' := σ') hu op) (cmp_sound (ca := ca) (W := W) (σ' := σ') hu op') ha hb hc (chain_mark ho)) fun σ H Q h => ⟨σ, sT_val (fun _ _ _ h => chain_of h) h |> fun z => by
    obtain ⟨φ, μ, ρ, S, SF, h⟩ := h
    exact chain_of ⟨φ, μ, ρ, S, SF, post_toB h⟩⟩

/-! ### and, or, not -/
theorem sE_test {σ : St} {H : Hp} {Q : VK} {la : LE} {k : Bool → Fr → Mu → R D} {φ : List Addr} {μ : Mu} {ρ : Fr} (S : Sim X.K ca φ H μ) (SF : SimF X.K φ H ρ σ) {R' : Type} {Rel' : List Addr → Hp → R' → R' → Prop} (h : Post X.K ca (rlV X.K) W σ φ H ((toB (evE P F la ρ μ)).bind fun b μ => k b ρ μ) Q) :
    sT X W P F ca la σ H (fun b H1 => ∃ φ1 μ1, Sim X.K ca φ1 H1 μ1 ∧ SimF X.K φ1 H1 ρ σ ∧ Post X.K ca (rlV X.K) W σ φ1 H1 (k b ρ μ1) Q) := by
  refine TL.imp (TL.step (f := fun ρ μ => toB (evE P F la ρ μ)) (g := fun b μ => k b ρ μ) (Rel := rlT) S SF h) fun c H1 ⟨φ1, d, μ1, e, S1, r, SF1, h1⟩ => ?_
  obtain rfl : c = d := r
  exact ⟨φ1, μ1, S1, SF1, h1⟩
theorem and_ev (ρ : Fr) (μ : Mu) : evE P F (.and la lb) ρ μ = (toB (evE P F la ρ μ)).bind fun b μ => if b = true then evE P F lb ρ μ else .ok (.bl false) μ := by
  simp only [evE, toB, R.bind_bind]
  refine congrArg (R.bind _) (funext fun d => funext fun m => ?_)
  cases d with
  | bl b => cases b <;> rfl
  | _ => rfl
theorem or_ev (ρ : Fr) (μ : Mu) : evE P F (.or la lb) ρ μ = (toB (evE P F la ρ μ)).bind fun b μ => if b = true then .ok (.bl true) μ else evE P F lb ρ μ := by
  simp only [evE, toB, R.bind_bind]
  refine congrArg (R.bind _) (funext fun d => funext fun m => ?_)
  cases d with
  | bl b => cases b <;> rfl
  | _ => rfl
theorem not_ev (ρ : Fr) (μ : Mu) : evE P F (.not la) ρ μ = (toB (evE P F la ρ μ)).bind fun b μ => .ok (.bl (!b)) μ := by
  simp only [evE, toB, R.bind_bind]
  refine congrArg (R.bind _) (funext fun d => funext fun m => ?_)
  cases d <;> rfl
theorem ite_ev (ρ : Fr) (μ : Mu) : evE P F (.ite lc la lb) ρ μ = (toB (evE P F lc ρ μ)).bind fun b μ => if b = true then evE P F la ρ μ else evE P F lb ρ μ := by
  simp only [evE, toB, R.bind_bind]
  refine congrArg (R.bind _) (funext fun d => funext fun m => ?_)
  cases d with
  | bl b => cases b <;> rfl
  | _ => rfl
/-- a truth that is read as a value -/
theorem sE_ofT {la : LE} {σ : St} {H : Hp} {Q : Bool → Hp → Prop} (h : sT X W P F ca la σ H Q) : sE X W P F ca la σ H (fun x H1 => ∃ c, x = .bl c ∧ Q c H1) := sT_val (fun _ _ _ h => h) h
theorem snd_and {rest : List Expr} (ha : PE X a (sE X W P F ca la)) (hb : PE X (.BoolOp .And (b :: rest) pos) (sE X W P F ca lb)) : PE X (.BoolOp .And (a :: b :: rest) pos) (sE X W P F ca (.and la lb)) :=
  PE_imp (pe_and ha hb) fun σ H Q ⟨φ, μ, ρ, S, SF, h⟩ => by
    rw [and_ev] at h
    refine TL.imp (sE_ofT (sE_test (R' := D) (Rel' := fun _ _ _ _ => True) (k := fun b ρ μ => if b = true then evE P F lb ρ μ else .ok (.bl false) μ) S SF h)) fun x H1 ⟨c, e, φ1, μ1, S1, SF1, h1⟩ => ⟨c, e, ?_⟩
    cases c with
    | true => exact ⟨φ1, μ1, ρ, S1, SF1, h1⟩
    | false => exact h1.ok S1 rfl
theorem snd_or {rest : List Expr} (ha : PE X a (sE X W P F ca la)) (hb : PE X (.BoolOp .Or (b :: rest) pos) (sE X W P F ca lb)) : PE X (.BoolOp .Or (a :: b :: rest) pos) (sE X W P F ca (.or la lb)) :=
  PE_imp (pe_or ha hb) fun σ H Q ⟨φ, μ, ρ, S, SF, h⟩ => by
    rw [or_ev] at h
    refine TL.imp (sE_ofT (sE_test (R' := D) (Rel' := fun _ _ _ _ => True) (k := fun b ρ μ => if b = true then .ok (.bl true) μ else evE P F lb ρ μ) S SF h)) fun x H1 ⟨c, e, φ1, μ1, S1, SF1, h1⟩ => ⟨c, e, ?_⟩
    cases c with
    | true => exact h1.ok S1 rfl
    | false => exact ⟨φ1, μ1, ρ, S1, SF1, h1⟩
theorem snd_not (ha : PE X a (sE X W P F ca la)) : PE X (.UnaryOp .Not a pos) (sE X W P F ca (.not la)) :=
  PE_imp (pe_not ha) fun σ H Q ⟨φ, μ, ρ, S, SF, h⟩ => by
    rw [not_ev] at h
    refine TL.imp (sE_ofT (sE_test (R' := D) (Rel' := fun _ _ _ _ => True) (k := fun b ρ μ => .ok (.bl (!b)) μ) S SF h)) fun x H1 ⟨c, e, φ1, μ1, S1, SF1, h1⟩ => ⟨c, e, h1.ok S1 rfl⟩
theorem snd_ite (hc : PT X c (sT X W P F ca lc)) (ha : PE X a (sE X W P F ca la)) (hb : PE X b (sE X W P F ca lb)) : PE X (.IfExp c a b pos) (sE X W P F ca (.ite lc la lb)) :=
  PE_imp (pe_ifExp hc ha hb) fun σ H Q ⟨φ, μ, ρ, S, SF, h⟩ => by
    rw [ite_ev] at h
    refine TL.imp (sE_test (R' := D) (Rel' := fun _ _ _ _ => True) (k := fun b ρ μ => if b = true then evE P F la ρ μ else evE P F lb ρ μ) S SF h) fun c H1 ⟨φ1, μ1, S1, SF1, h1⟩ => ?_
    cases c with
    | true => exact ⟨φ1, μ1, ρ, S1, SF1, h1⟩
    | false => exact ⟨φ1, μ1, ρ, S1, SF1, h1⟩
/-- .. as tests -/
theorem sT_step {σ : St} {H : Hp} {Q : Bool → Hp → Prop} {la : LE} {k : Bool → Fr → Mu → R D} {φ : List Addr} {μ : Mu} {ρ : Fr} (S : Sim X.K ca φ H μ) (SF : SimF X.K φ H ρ σ) (h : Post X.K ca rlT W σ φ H (toB ((toB (evE P F la ρ μ)).bind fun b μ => k b ρ μ)) Q) :
    sT X W P F ca la σ H (fun b H1 => ∃ φ1 μ1, Sim X.K ca φ1 H1 μ1 ∧ SimF X.K φ1 H1 ρ σ ∧ Post X.K ca rlT W σ φ1 H1 (toB (k b ρ μ1)) Q) := by
  have h : Post X.K ca rlT W σ φ H ((toB (evE P F la ρ μ)).bind fun b μ => toB (k b ρ μ)) Q := by
    rw [show ((toB (evE P F la ρ μ)).bind fun b μ => toB (k b ρ μ)) = toB ((toB (evE P F la ρ μ)).bind fun b μ => k b ρ μ) from by generalize toB (evE P F la ρ μ) = r0; cases r0 <;> rfl]
    exact h
  refine TL.imp (TL.step (f := fun ρ μ => toB (evE P F la ρ μ)) (g := fun b μ => toB (k b ρ μ)) (Rel := rlT) S SF h) fun c H1 ⟨φ1, d, μ1, e, S1, r, SF1, h1⟩ => ?_
  obtain rfl : c = d := r
  exact ⟨φ1, μ1, S1, SF1, h1⟩
theorem snd_andT {rest : List Expr} (ha : PT X a (sT X W P F ca la)) (hb : PW X (.BoolOp .And (b :: rest) pos) (sT X W P F ca lb)) : PW X (.BoolOp .And (a :: b :: rest) pos) (sT X W P F ca (.and la lb)) :=
  PW_imp (pw_and ha hb) fun σ H Q ⟨φ, μ, ρ, S, SF, h⟩ => by
    have h : Post X.K ca rlT W σ φ H (toB (evE P F _ ρ μ)) Q := h
    rw [and_ev] at h
    refine TL.imp (sT_step (k := fun b ρ μ => if b = true then evE P F lb ρ μ else .ok (.bl false) μ) S SF h) fun c H1 ⟨φ1, μ1, S1, SF1, h1⟩ => ?_
    cases c with
    | true => exact ⟨φ1, μ1, ρ, S1, SF1, h1⟩
    | false => exact h1 φ1 H1 false (Evo.refl _ _) S1 rfl
where
  PW_imp {X : Cx} {e : Expr} {t t' : TT} (h : PW X e t) (i : ∀ σ H Q, t' σ H Q → t σ H Q) : PW X e t' := ⟨fun wh pins s σ H Q I q => h.run wh pins s σ H Q I (i _ _ _ q)⟩
theorem snd_orT {rest : List Expr} (ha : PT X a (sT X W P F ca la)) (hb : PW X (.BoolOp .Or (b :: rest) pos) (sT X W P F ca lb)) : PW X (.BoolOp .Or (a :: b :: rest) pos) (sT X W P F ca (.or la lb)) :=
  snd_andT.PW_imp (pw_or ha hb) fun σ H Q ⟨φ, μ, ρ, S, SF, h⟩ => by
    have h : Post X.K ca rlT W σ φ H (toB (evE P F _ ρ μ)) Q := h
    rw [or_ev] at h
    refine TL.imp (sT_step (k := fun b ρ μ => if b = true then .ok (.bl true) μ else evE P F lb ρ μ) S SF h) fun c H1 ⟨φ1, μ1, S1, SF1, h1⟩ => ?_
    cases c with
    | true => exact h1 φ1 H1 true (Evo.refl _ _) S1 rfl
    | false => exact ⟨φ1, μ1, ρ, S1, SF1, h1⟩
theorem snd_notT (ha : PT X a (sT X W P F ca la)) : PT X (.UnaryOp .Not a pos) (sT X W P F ca (.not la)) :=
  PT_imp (pt_not ha) fun σ H Q ⟨φ, μ, ρ, S, SF, h⟩ => by
    have h : Post X.K ca rlT W σ φ H (toB (evE P F _ ρ μ)) Q := h
    rw [not_ev] at h
    exact TL.imp (sT_step (k := fun b ρ μ => .ok (.bl (!b)) μ) S SF h) fun c H1 ⟨φ1, μ1, S1, SF1, h1⟩ => h1 φ1 H1 (!c) (Evo.refl _ _) S1 rfl
theorem snd_valT (hv : byVal a = true) (ha : PE X a (sE X W P F ca la)) : PT X a (sT X W P F ca la) :=
  PT_imp (pt_val ha (isTrue_val hv)) fun σ H Q h => sE_ofT h

/-! ### displays -/
theorem snd_nil : PA X [] (sA X W P F ca .nil) := PA_imp pa_nil fun σ H Q ⟨φ, μ, ρ, S, SF, h⟩ => by
  unfold evA at h
  exact h φ H [] (Evo.refl _ _) S rfl
theorem snd_cons (ha : PE X a (sE X W P F ca la)) (hr : PA X es (sA X W P F ca ls)) (hs : starEach (a :: es) X.env = (false, eval a X.env) :: starEach es X.env) : PA X (a :: es) (sA X W P F ca (.cons la ls)) :=
  PA_imp (pa_cons ha hr hs) fun σ H Q ⟨φ, μ, ρ, S, SF, h⟩ => by
    unfold evA at h
    refine TL.imp (TL.step (Rel := rlV X.K) S SF h) fun x H1 ⟨φ1, d, μ1, e, S1, r, SF1, h1⟩ => ?_
    refine TL.imp (TL.step (Rel := rlA X.K) S1 SF1 h1) fun y H2 ⟨φ2, d2, μ2, e2, S2, r2, SF2, h2⟩ => ?_
    exact h2 φ2 H2 (x :: y) (Evo.refl _ _) S2 ⟨x, y, rfl, RepV.evo e2 _ _ r, r2⟩
theorem snd_tup {x1} (h : PA X es (sA X W P F ca ls)) : PE X (.Tuple es x1 pos) (sE X W P F ca (.tup ls)) :=
  PE_imp (pe_tup h) fun σ H Q ⟨φ, μ, ρ, S, SF, h⟩ => by
    unfold evE at h
    refine TL.imp (TL.step (Rel := rlA X.K) S SF h) fun xs H1 ⟨φ1, d, μ1, e, S1, r, SF1, h1⟩ => ?_
    split at h1
    · rename_i hl
      refine ⟨by rw [← r.length]; exact hl, fun p hp => ?_⟩
      obtain ⟨S', e'⟩ := S1.lay (ho := .tup xs) hp
      exact h1 _ _ _ e' S' ⟨p, xs, rfl, SqT.of upd_same, RepVs.evo e' _ _ r⟩
    · exact h1.elim
theorem snd_lst (h : PA X es (sA X W P F ca ls)) : PE X (.List es pos) (sE X W P F ca (.lst ls)) :=
  PE_imp (pe_lst h) fun σ H Q ⟨φ, μ, ρ, S, SF, h⟩ => by
    unfold evE at h
    refine TL.imp (TL.step (Rel := rlA X.K) S SF h) fun xs H1 ⟨φ1, d, μ1, e, S1, r, SF1, h1⟩ => ?_
    split at h1
    · rename_i hl
      exact ⟨by rw [← r.length]; exact hl, fun p hp => h1.new S1 hp fun e' => ⟨_, upd_same, RepVs.evo e' _ _ r⟩⟩
    · exact h1.elim
theorem snd_ix (hu : X.A.units + 1 < cLine) (ha : PE X a (sE X W P F ca la)) (hb : PE X b (sE X W P F ca lb)) (hs : PlainIx b) : PE X (.Subscript a b pos) (sE X W P F ca (.ix la lb)) :=
  PE_imp (PE_any fun σ' => pe_ix (ix_sound (ca := ca) (W := W) (σ' := σ') hu) ha hb hs) fun σ H Q ⟨φ, μ, ρ, S, SF, h⟩ => by
    unfold evE at h
    exact ⟨σ, TL.two S SF h⟩
end
end Lt

set_option Elab.async false
set_option linter.all false
set_option maxRecDepth 100000
set_option maxHeartbeats 4000000
/-! Lt11: targets, what is walked, comprehensions, dict displays. -/
namespace Lt
open PySem L2 PySem.Spec
open PyProof.Rows hiding St

/-! ### targets -/
def setSt : St → List Nat → List V → St
  | σ, i :: is, v :: vs => setSt (σ.set i (some v)) is vs
  | σ, _, _ => σ
theorem setSt_length : ∀ (is : List Nat) (vs : List V) (σ : St), (setSt σ is vs).length = σ.length
  | [], _, σ => by simp [setSt]
  | _ :: _, [], σ => by simp [setSt]
  | i :: is, v :: vs, σ => by
    unfold setSt
    rw [setSt_length is vs, List.length_set]
theorem setSt_out {j : Nat} : ∀ (is : List Nat) (vs : List V) (σ : St), j ∉ is → (setSt σ is vs)[j]? = σ[j]?
  | [], _, σ, _ => by simp [setSt]
  | _ :: _, [], σ, _ => by simp [setSt]
  | i :: is, v :: vs, σ, h => by
    unfold setSt
    rw [setSt_out is vs _ (fun q => h (List.mem_cons_of_mem _ q)), List.getElem?_set_ne (fun q => h (by rw [q]; exact List.mem_cons_self))]
section
variable {K : PySem.W.Frag} {φ : List Addr} {H : Hp} {ρ ρ' : Fr} {σ : St}
theorem SimF.set {i : Nat} {d : D} {v : V} (h : SimF K φ H ρ σ) (r : RepV K φ H d v) : SimF K φ H (ρ.set i (some d)) (σ.set i (some v)) := by
  refine ⟨by simp [h.len], fun j d' q => ?_⟩
  by_cases hj : i = j
  · subst hj
    rw [List.getElem?_set] at q
    simp only [if_true] at q
    split at q
    · rename_i hl
      cases q
      exact ⟨v, by rw [List.getElem?_set_self (by rw [← h.len]; exact hl)], r⟩
    · cases q
  · rw [List.getElem?_set_ne hj] at q
    rw [List.getElem?_set_ne hj]
    exact h.get j d' q
theorem SimF.setSt : ∀ {is : List Nat} {ds : List D} {vs : List V} {ρ ρ' : Fr} {σ : St}, SimF K φ H ρ σ → setFr ρ is ds = some ρ' → RepVs K φ H ds vs → SimF K φ H ρ' (Lt.setSt σ is vs) ∧ is.length = ds.length
  | [], [], vs, ρ, ρ', σ, h, q, r => by
    cases q
    rw [show vs = [] from r]
    exact ⟨h, rfl⟩
  | [], _ :: _, _, _, _, _, _, q, _ => by simp [setFr] at q
  | _ :: _, [], _, _, _, _, _, q, _ => by simp [setFr] at q
  | i :: is, d :: ds, vs, ρ, ρ', σ, h, q, r => by
    obtain ⟨v, w, rfl, r1, r2⟩ := r
    simp only [setFr] at q
    obtain ⟨h1, h2⟩ := SimF.setSt (h.set (i := i) r1) q r2
    exact ⟨h1, by simp [h2]⟩
theorem wipe_get {i : Nat} : ∀ (vs : List Nat) (σ : St), i ∈ vs → (wipe σ vs)[i]? = some none ∨ (wipe σ vs)[i]? = none
  | v :: vs, σ, h => by
    unfold wipe
    by_cases hv : v = i
    · subst hv
      rw [List.getElem?_set]
      simp only [if_true]
      split
      · exact .inl rfl
      · exact .inr rfl
    · rw [List.getElem?_set_ne hv]
      rcases List.mem_cons.mp h with q | q
      · exact absurd q.symm hv
      · exact wipe_get vs σ q
theorem wipe_out {i : Nat} : ∀ (vs : List Nat) (σ : St), i ∉ vs → (wipe σ vs)[i]? = σ[i]?
  | [], σ, _ => rfl
  | v :: vs, σ, h => by
    unfold wipe
    rw [List.getElem?_set_ne (fun q => h (by rw [q]; exact List.mem_cons_self))]
    exact wipe_out vs σ fun q => h (List.mem_cons_of_mem _ q)
theorem wipe_same {vs : List Nat} {σ σ' : St} (hl : σ'.length = σ.length) (h : ∀ i, i ∉ vs → σ'[i]? = (wipe σ vs)[i]?) : wipe σ' vs = wipe σ vs := by
  refine List.ext_getElem? fun i => ?_
  by_cases hi : i ∈ vs
  · by_cases hb : i < σ.length
    · have e1 : (wipe σ' vs)[i]? ≠ none := by
        rw [ne_eq, List.getElem?_eq_none_iff, wipe_length]
        omega
      have e2 : (wipe σ vs)[i]? ≠ none := by
        rw [ne_eq, List.getElem?_eq_none_iff, wipe_length]
        omega
      rcases wipe_get vs σ' hi with q1 | q1
      · rcases wipe_get vs σ hi with q2 | q2
        · rw [q1, q2]
        · exact absurd q2 e2
      · exact absurd q1 e1
    · rw [List.getElem?_eq_none_iff.mpr (by rw [wipe_length]; omega), List.getElem?_eq_none_iff.mpr (by rw [wipe_length]; omega)]
  · rw [wipe_out vs σ' hi, h i hi]
theorem SimF.wipe (h : SimF K φ H ρ σ) : ∀ vs : List Nat, SimF K φ H (wipeF ρ vs) (L2.wipe σ vs)
  | [] => h
  | v :: vs => by
    have ih := SimF.wipe h vs
    unfold wipeF L2.wipe
    refine ⟨by simp [ih.len], fun j d q => ?_⟩
    by_cases hj : v = j
    · subst hj
      rw [List.getElem?_set] at q
      simp only [if_true] at q
      split at q <;> cases q
    · rw [List.getElem?_set_ne hj] at q ⊢
      exact ih.get j d q
end

section
variable {X : Cx} {W : WX} {sc : Scope} {N : List Str} {k : Nat} {P : Pg} {F : Nat → List D → Mu → R D} {ca : Nat → Addr} {G : GT} {T : List Ty}
theorem PG_imp {X : Cx} {e : Expr} {t t' : TG} (h : PG X e t) (i : ∀ v σ H Q, t' v σ H Q → t v σ H Q) : PG X e t' := ⟨fun pins s σ H v u Q I r q => h.run pins s σ H v u Q I r (i _ _ _ _ q)⟩
theorem PGs_imp {X : Cx} {e : List Expr} {t t' : TGs} (h : PGs X e t) (i : ∀ v σ H Q, t' v σ H Q → t v σ H Q) : PGs X e t' := ⟨fun pins s σ H v u Q I r q => h.run pins s σ H v u Q I r (i _ _ _ _ q)⟩
theorem nm_name {raw : Scope} {e : Expr} {i : Nat} (h : trNm N raw sc e = some i) : ∃ x p, e = .Name x p ∧ locB raw x = true ∧ locB sc x = true ∧ (!badN x) = true ∧ ix? N x = some i := by
  unfold trNm at h
  split at h
  · rename_i x p
    split at h
    · rename_i c
      rw [Bool.and_eq_true, Bool.and_eq_true] at c
      exact ⟨x, p, rfl, c.1.1, c.1.2, c.2, h⟩
    · cases h
  · cases h
/-- the block's own names -/
def FnC (X : Cx) (raw : Scope) : Prop := ∀ x, locB raw x = true → X.fn x = true ∨ X.env.scope.names.lookup x = some .local
theorem pgs_names {raw : Scope} (C : CxOk X W sc N k P F ca G T) (hf : FnC X raw) : ∀ {es : List Expr} {is : List Nat}, es.mapM (trNm N raw sc) = some is →
    PGs X es (fun vs σ H Q => vs.length = is.length ∧ Q (setSt σ is vs) H) ∧ (assignEach es X.env).length = is.length ∧ (assignEach es X.env).findIdx? (·.1) = none
  | [], is, h => by
    cases h
    refine ⟨PGs_imp pgs_nil fun vs σ H Q ⟨h1, h2⟩ => ?_, rfl, rfl⟩
    obtain rfl := List.eq_nil_of_length_eq_zero h1
    exact ⟨rfl, by simpa [setSt] using h2⟩
  | e :: es, is, h => by
    obtain ⟨i, r, h1, h2, rfl⟩ := mapM_cons_some h
    obtain ⟨x, p, rfl, hr, hl, hb, hi⟩ := nm_name h1
    obtain ⟨q1, q2, q3⟩ := pgs_names C hf h2
    refine ⟨PGs_imp (pgs_cons (pg_name C.nd (C.at hi) (C.loc hl) (hf _ hr)) q1) fun vs σ H Q ⟨l1, l2⟩ => ?_, ?_, ?_⟩
    · cases vs with
      | nil => simp at l1
      | cons v vs => exact ⟨v, vs, rfl, by simpa using l1, by simpa [setSt] using l2⟩
    · show (assignEach es X.env).length + 1 = r.length + 1
      rw [q2]
    · show List.findIdx? (·.1) ((false, assign (.Name x p) X.env) :: assignEach es X.env) = none
      rw [List.findIdx?_cons, q3]
      rfl
/-- a target takes a value -/
def tTg (K : PySem.W.Frag) (ca : Nat → Addr) (g : LG) : TG := fun v σ H Q => ∃ φ μ ρ d ρ', Sim K ca φ H μ ∧ SimF K φ H ρ σ ∧ RepV K φ H d v ∧ bindG g d ρ = some ρ' ∧
  ∀ σ', SimF K φ H ρ' σ' → σ'.length = σ.length → (∀ i, i ∉ g.ixs → σ'[i]? = σ[i]?) → Q σ' H
theorem snd_tg {raw : Scope} (C : CxOk X W sc N k P F ca G T) (hf : FnC X raw) {e : Expr} {g : LG} (h : trTg N raw sc e = some g) : PG X e (tTg X.K ca g) := by
  unfold trTg at h
  split at h
  · rename_i x p
    split at h
    · rename_i c
      rw [Bool.and_eq_true, Bool.and_eq_true] at c
      rw [Option.map_eq_some_iff] at h
      obtain ⟨i, hi, rfl⟩ := h
      refine PG_imp (pg_name C.nd (C.at hi) (C.loc c.1.2) (hf _ c.1.1)) fun v σ H Q ⟨φ, μ, ρ, d, ρ', S, SF, r, hb, q⟩ => ?_
      cases hb
      exact q _ (SF.set r) (by simp) fun j hj => List.getElem?_set_ne (fun z => hj (by rw [← z]; exact List.mem_cons_self))
    · cases h
  · rename_i es kk p
    rw [Option.map_eq_some_iff] at h
    obtain ⟨is, hi, rfl⟩ := h
    obtain ⟨q1, q2, q3⟩ := pgs_names C hf hi
    refine PG_imp (pg_tup C.calm q1 q2 q3) fun v σ H Q ⟨φ, μ, ρ, d, ρ', S, SF, r, hb, q⟩ => ?_
    cases d with
    | tup ds =>
      have hb : setFr ρ is ds = some ρ' := hb
      obtain ⟨a, xs, rfl, hs, hr⟩ := r
      obtain ⟨SF', hl⟩ := SimF.setSt SF hb hr
      exact ⟨a, xs, rfl, hs, by rw [← hr.length, hl], by rw [← hr.length, hl], q _ SF' (setSt_length _ _ _) fun i hi => setSt_out _ _ _ hi⟩
    | _ => simp [bindG] at hb
  · cases h

/-! ### what is walked -/
def SrcR (K : PySem.W.Frag) (ca : Nat → Addr) (φ : List Addr) (H : Hp) (src : Src) (J : It) : Prop :=
  ∀ φ' H' μ' i, Evo φ H φ' H' → Sim K ca φ' H' μ' → (∀ d, src.next μ' i = some (some d) → J.go i H' ∧ ∀ x H'', J.yld i H' x H'' → Evo φ' H' φ' H'' ∧ Sim K ca φ' H'' μ' ∧ RepV K φ' H'' d x) ∧ (src.next μ' i = some none → J.stop i H')
abbrev sI (X : Cx) (W : WX) (P : Pg) (F : Nat → List D → Mu → R D) (ca : Nat → Addr) (li : LI) : TI := TL X.K ca (SrcR X.K ca) W (evI P F li)
theorem PI_imp {X : Cx} {tg e : Expr} {t t' : TI} (h : PI X tg e t) (i : ∀ σ H Q, t' σ H Q → t σ H Q) : PI X tg e t' := ⟨fun pins s σ H Q I q => h.run pins s σ H Q I (i _ _ _ q)⟩
theorem PI_or {X : Cx} {tg e : Expr} {te : TE} {f : V → Hp → (It → Hp → Prop) → Prop} (he : PE X e te) (h : ∀ (pins : List (Addr × Obj)) (s : Shared) (σ : St) (H : Hp) (R : It → Hp → Prop) (x : V) (u : Value), Inv X pins σ H s → RelV x u → f x H R → wpAny (model X.prog X.w) X.A (pyIter u) (PIE X pins σ tg R) X.xe s) :
    PI X tg e (fun σ H R => te σ H fun x H1 => f x H1 R) := ⟨fun pins s σ H R I q => thn (he.run pins s σ H _ I q) fun v s1 ⟨x, H1, I1, r, q1⟩ => h pins s1 σ H1 R x v I1 r q1⟩
theorem src_live {K : PySem.W.Frag} {φ : List Addr} {H : Hp} {d : D} {a : Addr} (r : RepV K φ H d (.ref a)) (hd : (∃ i, d = .ref i) ∨ ∃ xs, d = .rol xs) : SrcR K ca φ H (.live d) (Itl K a) := by
  intro φ' H' μ' i e S
  have r' := RepV.evo e _ _ r
  unfold Src.next Src.all
  refine ⟨fun y hy => ?_, fun hy => ?_⟩
  · rw [Option.map_eq_some_iff] at hy
    obtain ⟨xs, h1, h2⟩ := hy
    obtain ⟨b, vs, hb, h3, h4⟩ := lst_at S h1 r'
    cases hb
    obtain ⟨v, h5, h6⟩ := h4.get h2
    refine ⟨⟨vs, v, h3, h5⟩, fun x H'' ⟨h7, h8⟩ => ?_⟩
    subst h7
    have h9 := h8 vs h3
    rw [h5] at h9
    cases h9
    exact ⟨Evo.refl _ _, S, h6⟩
  · rw [Option.map_eq_some_iff] at hy
    obtain ⟨xs, h1, h2⟩ := hy
    obtain ⟨b, vs, hb, h3, h4⟩ := lst_at S h1 r'
    cases hb
    exact ⟨vs, h3, by rw [← h4.length]; exact List.getElem?_eq_none_iff.mp h2⟩
theorem src_fix {K : PySem.W.Frag} {φ : List Addr} {H : Hp} {xs : List D} {vs : List V} {a : Addr} (hs : SqT K H a vs) (r : RepVs K φ H xs vs) : SrcR K ca φ H (.fix xs) (Itt K a) := by
  intro φ' H' μ' i e S
  have r' := RepVs.evo e _ _ r
  have hs' := SqT_evo hs e
  unfold Src.next Src.all
  simp only [Option.map_some, Option.some.injEq]
  refine ⟨fun y hy => ?_, fun hy => ?_⟩
  · obtain ⟨v, h5, h6⟩ := r'.get hy
    refine ⟨⟨vs, v, hs', h5⟩, fun x H'' ⟨h7, h8⟩ => ?_⟩
    subst h7
    have h9 := h8 vs hs'
    rw [h5] at h9
    cases h9
    exact ⟨Evo.refl _ _, S, h6⟩
  · exact ⟨vs, hs', by rw [← r'.length]; exact List.getElem?_eq_none_iff.mp hy⟩
theorem src_rng {K : PySem.W.Frag} {φ : List Addr} {H : Hp} (lo : Int) (n : Nat) : SrcR K ca φ H (.fix ((List.range n).map fun (k : Nat) => D.int (lo + (k : Int)))) (Itr lo n) := by
  intro φ' H' μ' i e S
  unfold Src.next Src.all
  simp only [Option.map_some, Option.some.injEq]
  refine ⟨fun y hy => ?_, fun hy => ?_⟩
  · rw [List.getElem?_map, Option.map_eq_some_iff] at hy
    obtain ⟨k, h1, rfl⟩ := hy
    obtain ⟨h2, h3⟩ := List.getElem?_eq_some_iff.mp h1
    rw [List.getElem_range] at h3
    subst h3
    rw [List.length_range] at h2
    refine ⟨h2, fun x H'' ⟨h7, h8⟩ => ?_⟩
    subst h7
    exact ⟨Evo.refl _ _, S, h8⟩
  · have := List.getElem?_eq_none_iff.mp hy
    rw [List.length_map, List.length_range] at this
    exact this
theorem src_enum {K : PySem.W.Frag} {φ : List Addr} {H : Hp} {d : D} {a : Addr} (r : RepV K φ H d (.ref a)) : SrcR K ca φ H (.enum d) (Ite K a) := by
  intro φ' H' μ' i e S
  have r' := RepV.evo e _ _ r
  unfold Src.next Src.all
  refine ⟨fun y hy => ?_, fun hy => ?_⟩
  · rw [Option.map_map, Option.map_eq_some_iff] at hy
    obtain ⟨xs, h1, h2⟩ := hy
    obtain ⟨b, vs, hb, h3, h4⟩ := lst_at S h1 r'
    cases hb
    simp only [Function.comp_apply, List.getElem?_mapIdx, Option.map_eq_some_iff] at h2
    obtain ⟨z, h5, rfl⟩ := h2
    obtain ⟨v, h6, h7⟩ := h4.get h5
    refine ⟨⟨vs, v, h3, h6⟩, fun x H'' ⟨T, y, e1, e2, e3, e4⟩ => ?_⟩
    subst e1 e3
    have h9 := e4 vs h3
    rw [h6] at h9
    cases h9
    obtain ⟨S', E'⟩ := S.lay (ho := .tup [.int (i : Nat), v]) e2
    exact ⟨E', S', ⟨T, _, rfl, SqT.of upd_same, ⟨_, _, rfl, rfl, ⟨_, _, rfl, RepV.evo E' _ _ h7, rfl⟩⟩⟩⟩
  · rw [Option.map_map, Option.map_eq_some_iff] at hy
    obtain ⟨xs, h1, h2⟩ := hy
    obtain ⟨b, vs, hb, h3, h4⟩ := lst_at S h1 r'
    cases hb
    simp only [Function.comp_apply, List.getElem?_mapIdx, Option.map_eq_none_iff] at h2
    exact ⟨vs, h3, by rw [← h4.length]; exact List.getElem?_eq_none_iff.mp h2⟩
end
end Lt

set_option Elab.async false
set_option linter.all false
set_option maxRecDepth 100000
set_option maxHeartbeats 4000000
/-! Lt12: what is walked, comprehensions, dict displays. -/
namespace Lt
open PySem L2 PySem.Spec
open PyProof.Rows hiding St

section
variable {X : Cx} {W : WX} {P : Pg} {F : Nat → List D → Mu → R D} {ca : Nat → Addr} {tg a : Expr} {la : LE} {pos p : Pos}
def iSeq (K : PySem.W.Frag) (x : V) (H : Hp) (R : It → Hp → Prop) : Prop := (∃ a xs, x = .ref a ∧ SqL K H a xs ∧ R (Itl K a) H) ∨ ∃ a xs, x = .ref a ∧ SqT K H a xs ∧ R (Itt K a) H
theorem iter_ok (pins : List (Addr × Obj)) (s : Shared) (σ : St) (H : Hp) (R : It → Hp → Prop) (x : V) (u : Value) (I : Inv X pins σ H s) (r : RelV x u) (h : iSeq X.K x H R) : wpAny (model X.prog X.w) X.A (pyIter u) (PIE X pins σ tg R) X.xe s := by
  rcases h with ⟨a, xs, rfl, hq, q⟩ | ⟨a, xs, rfl, hq, q⟩
  · obtain rfl : u = Value.ref a := r
    obtain ⟨its, rv, p, hz⟩ := I.list hq
    refine wpAny_pyIter_list p.isList ?_
    refine ⟨s.heap.objs.size, [s.heap.objs.size], _, _, H, rfl, I.kept (t' := s.toks) fun b o e => Heap.get?_push_of_some _ e, turn_list a _, ⟨_, Heap.get?_push_size _ rfl, rfl, rfl⟩, fun b hb => ?_, q⟩
    have e : b = s.heap.objs.size := by simpa using hb
    subst e
    exact I.fpOk (Nat.le_refl _) (I.hok.fresh (Nat.le_refl _))
  · obtain rfl : u = Value.ref a := r
    obtain ⟨its, rv, p, hz⟩ := I.tuple hq
    refine wpAny_pyIter_tuple (show s.heap.IsTuple a its.toArray from p) ?_
    refine ⟨s.heap.objs.size, [s.heap.objs.size], _, _, H, rfl, I.kept (t' := s.toks) fun b o e => Heap.get?_push_of_some _ e, turn_tuple a _, ⟨_, Heap.get?_push_size _ rfl, rfl, rfl⟩, fun b hb => ?_, q⟩
    have e : b = s.heap.objs.size := by simpa using hb
    subst e
    exact I.fpOk (Nat.le_refl _) (I.hok.fresh (Nat.le_refl _))
theorem lst_ref {K : PySem.W.Frag} {φ : List Addr} {H : Hp} {μ : Mu} {d : D} {v : V} {xs : List D} (S : Sim K ca φ H μ) (h : lst? μ d = some xs) (r : RepV K φ H d v) : (∃ a vs, v = .ref a ∧ SqL K H a vs) ∧ ((∃ i, d = .ref i) ∨ ∃ xs, d = .rol xs) := by
  obtain ⟨a, vs, e, h1, _⟩ := lst_at S h r
  refine ⟨⟨a, vs, e, h1⟩, ?_⟩
  unfold lst? at h
  split at h
  · exact .inl ⟨_, rfl⟩
  · exact .inr ⟨_, rfl⟩
  · cases h
theorem snd_exp (ha : PE X a (sE X W P F ca la)) : PI X tg a (sI X W P F ca (.exp la)) :=
  PI_imp (PI_or ha iter_ok) fun σ H R ⟨φ, μ, ρ, S, SF, h⟩ => by
    simp only [evI] at h
    refine TL.imp (TL.step (Rel := rlV X.K) S SF h) fun x H1 ⟨φ1, d, μ1, e, S1, r, SF1, h1⟩ => ?_
    have lv : ∀ d : D, RepV X.K φ1 H1 d x → Post X.K ca (SrcR X.K ca) W σ φ1 H1 (match lst? μ1 d with | some _ => Lt.R.ok (Src.live d) μ1 | none => .no) R → iSeq X.K x H1 R := fun d r h1 => by
      split at h1
      · rename_i xs e
        obtain ⟨⟨a, vs, rfl, hs⟩, hd⟩ := lst_ref S1 e r
        exact .inl ⟨a, vs, rfl, hs, h1.ok S1 (src_live r hd)⟩
      · exact h1.elim
    cases d with
    | tup ds =>
      obtain ⟨a, xs, rfl, h2, h3⟩ := r
      exact .inr ⟨a, xs, rfl, h2, h1.ok S1 (src_fix h2 h3)⟩
    | _ => exact lv _ r h1
theorem one_arg {pa : PA X [a] (sA X W P F ca (.cons la .nil))} {σ : St} {H : Hp} {R : V → Hp → Prop} (h : sE X W P F ca la σ H R) : sA X W P F ca (.cons la .nil) σ H (fun vs H1 => ∃ v, vs = [v] ∧ R v H1) := by
  obtain ⟨φ, μ, ρ, S, SF, h⟩ := h
  refine ⟨φ, μ, ρ, S, SF, ?_⟩
  simp only [evA]
  cases e : evE P F la ρ μ with
  | ok d m =>
    rw [e] at h
    intro φ' H' vs e' S' r
    obtain ⟨v, w, rfl, r1, r2⟩ := r
    rw [show w = [] from r2]
    exact ⟨v, rfl, h φ' H' v e' S' r1⟩
  | exc c fs m =>
    rw [e] at h
    exact h
  | no =>
    rw [e] at h
    exact h
theorem snd_rng (hg : Gl X "range") (hm : X.mg "range" = none) (ha : PA X [a] (sA X W P F ca (.cons la .nil))) (hs : starEach [a] X.env = [(false, eval a X.env)]) : PI X tg (.Call (.Name "range" p) [a] [] pos) (sI X W P F ca (.rng la)) :=
  PI_imp (pi_range1 hg hm ha hs) fun σ H R ⟨φ, μ, ρ, S, SF, h⟩ => by
    simp only [evI] at h
    refine TL.imp (one_arg (pa := ha) (TL.step (Rel := rlV X.K) S SF h)) fun vs H1 ⟨v, e1, φ1, d, μ1, e, S1, r, SF1, h1⟩ => ?_
    cases d with
    | int n =>
      dsimp only at h1
      split at h1
      · rename_i c
        refine ⟨n, by rw [e1, r.int], c.1, c.2, h1.ok S1 ?_⟩
        have z := src_rng (ca := ca) (K := X.K) (φ := φ1) (H := H1) 0 n.toNat
        simpa using z
      · exact h1.elim
    | _ => exact h1.elim
theorem snd_enum {elts : List Expr} {kk : Nat} {tpos : Pos} (hg : Gl X "enumerate") (hm : X.mg "enumerate" = none) (ha : PA X [a] (sA X W P F ca (.cons la .nil))) (hs : starEach [a] X.env = [(false, eval a X.env)]) : PI X (.Tuple elts kk tpos) (.Call (.Name "enumerate" p) [a] [] pos) (sI X W P F ca (.enum la)) :=
  PI_imp (pi_enum hg hm ha hs) fun σ H R ⟨φ, μ, ρ, S, SF, h⟩ => by
    simp only [evI] at h
    refine TL.imp (one_arg (pa := ha) (TL.step (Rel := rlV X.K) S SF h)) fun vs H1 ⟨v, e1, φ1, d, μ1, e, S1, r, SF1, h1⟩ => ?_
    subst e1
    split at h1
    · rename_i xs e
      obtain ⟨⟨a, vs, rfl, hs⟩, hd⟩ := lst_ref S1 e r
      exact ⟨a, vs, rfl, hs, h1.ok S1 (src_enum r)⟩
    · exact h1.elim

/-! ### comprehensions -/
theorem post_of_ok {K : PySem.W.Frag} {α β : Type} {Rel : List Addr → Hp → α → β → Prop} {W : WX} {σ : St} {φ : List Addr} {H : Hp} {r : R α} {d : α} {m : Mu} {Q : β → Hp → Prop} (e : r = .ok d m) (h : ∀ φ' H' v, Evo φ H φ' H' → Sim K ca φ' H' m → Rel φ' H' d v → Q v H') : Post K ca Rel W σ φ H r Q := by
  subst e
  exact h
theorem bind_ok {α β : Type} {r : R α} {f : α → Mu → R β} {b : β} {m : Mu} (h : r.bind f = .ok b m) : ∃ a m1, r = .ok a m1 ∧ f a m1 = .ok b m := by
  cases r with
  | ok a m1 => exact ⟨a, m1, rfl, h⟩
  | exc c fs m => cases h
  | no => cases h
/-- no exception may come out of a block -/
def W0 : WX := fun _ _ _ _ => False
theorem lc_of {own : List Nat} {tg : LG} {it : LI} {c : LA} {e : LE} {tt : TT} {te : TE}
    (htt : ∀ {σ : St} {H : Hp} {Q : Bool → Hp → Prop} {φ : List Addr} {μ : Mu} {ρ : Fr} {b : Bool} {m : Mu}, Sim X.K ca φ H μ → SimF X.K φ H ρ σ → evC P F c ρ μ = .ok b m → (∀ φ' H', Evo φ H φ' H' → Sim X.K ca φ' H' m → Q b H') → tt σ H Q)
    (hte : ∀ {σ : St} {H : Hp} {Q : VK} {φ : List Addr} {μ : Mu} {ρ : Fr} {d : D} {m : Mu}, Sim X.K ca φ H μ → SimF X.K φ H ρ σ → evE P F e ρ μ = .ok d m → (∀ φ' H' v, Evo φ H φ' H' → Sim X.K ca φ' H' m → RepV X.K φ' H' d v → Q v H') → te σ H Q)
    (hown : ∀ i ∈ tg.ixs, i ∈ own) {σ : St} {H : Hp} {Q : VK} (h : sE X W P F ca (.comp own tg it c e) σ H Q) : tLc (sI X W P F ca it) (tTg X.K ca tg) tt te own σ H Q := by
  obtain ⟨φ, μ, ρ, S, SF, h⟩ := h
  simp only [evE] at h
  have h' : Post X.K ca (rlV X.K) W σ φ H ((evI P F it ρ μ).bind fun src μ => (match src.all μ with
      | some xs => (match compN src (fun d μ => match bindG tg d (wipeF ρ own) with
          | some ρ' => (evC P F c ρ' μ).bind fun b μ => if b then (evE P F e ρ' μ).bind fun x μ => .ok (some x) μ else .ok none μ
          | none => .no) xs.length 0 [] μ with
        | .ok ys μ' => new μ' (.lst ys)
        | _ => .no)
      | none => .no)) Q := by
    cases hh : evI P F it ρ μ with
    | ok src m =>
      rw [hh] at h
      exact h
    | exc c fs m =>
      rw [hh] at h
      exact h
    | no =>
      rw [hh] at h
      exact h
  refine TL.imp (TL.step (Rel := SrcR X.K ca) S SF h') fun J H1 ⟨φ1, src, μ1, e1, S1, rJ, SF1, h1⟩ => ?_
  intro Dd hD
  split at h1
  case h_2 => exact h1.elim
  rename_i xs hxs
  split at h1
  case h_2 => exact h1.elim
  rename_i ys μ' hy
  have hDφ : Dd ∉ φ1 := S1.nin hD
  obtain ⟨S2, E2⟩ := S1.lay (ho := .lst []) hD
  refine ⟨fun i m Hc => ∃ φc μc acc accV, Evo φ1 H1 φc Hc ∧ Sim X.K ca φc Hc μc ∧ Dd ∉ φc ∧ Hc Dd = some (.lst accV) ∧ RepVs X.K φc Hc acc accV ∧ compN src (fun d μ => match bindG tg d (wipeF ρ own) with
          | some ρ' => (evC P F c ρ' μ).bind fun b μ => if b then (evE P F e ρ' μ).bind fun x μ => .ok (some x) μ else .ok none μ
          | none => .no) m i acc μc = .ok ys μ', ⟨xs.length, φ1, μ1, [], [], E2, S2, hDφ, upd_same, rfl, hy⟩, ?_⟩
  intro i m Hc ⟨φc, μc, acc, accV, Ec, Sc, nD, hDc, rA, hc⟩
  cases m with
  | zero =>
    simp only [compN] at hc
    split at hc
    · rename_i hn
      cases hc
      refine .inl ⟨((rJ φc Hc μ' i Ec Sc).2 hn), ?_⟩
      obtain ⟨S3, E3, g3⟩ := Sc.adopt (p := Dd) (o := .lst ys) nD fun e0 => ⟨accV, hDc, RepVs.ev0 e0 _ _ rA⟩
      exact h1 _ _ _ (Ec.adopt hD) S3 ⟨Dd, g3, rfl⟩
    · cases hc
  | succ m =>
    simp only [compN] at hc
    split at hc
    case h_2 => cases hc
    rename_i d hn
    obtain ⟨hgo, hyld⟩ := (rJ φc Hc μc i Ec Sc).1 d hn
    refine .inr ⟨hgo, fun H' => ∃ m', m' < m + 1 ∧ _, fun H' hN => hN, fun x H2 hy2 => ?_⟩
    obtain ⟨Ey, Sy, ry⟩ := hyld x H2 hy2
    cases hb : bindG tg d (wipeF ρ own) with
    | none =>
      rw [hb] at hc
      cases hc
    | some ρ' =>
      simp only [hb] at hc
      have SFc : SimF X.K φc H2 (wipeF ρ own) (wipe σ own) := ((SF1.evo (Ec.trans Ey)).wipe own)
      refine ⟨φc, μc, wipeF ρ own, d, ρ', Sy, SFc, ry, hb, fun σ' SF' hl' ho' => ⟨wipe_same (by rw [hl', wipe_length]) fun j hj => ?_, ?_⟩⟩
      · rw [ho' j fun z => hj (hown j z)]
      · have nD2 : Dd ∉ φc := nD
        have hD2 : H2 Dd = some (.lst accV) := Ey.keep _ _ hDc nD fun z => z
        cases hC : evC P F c ρ' μc with
        | no =>
          rw [hC] at hc
          cases hc
        | exc c fs m =>
          rw [hC] at hc
          cases hc
        | ok b μ3 =>
          rw [hC] at hc
          refine htt Sy SF' hC fun φ3 H3 E3 S3 => ?_
          have nD3 : Dd ∉ φ3 := E3.out nD2 hD2
          have hD3 : H3 Dd = some (.lst accV) := E3.keep _ _ hD2 nD2 fun z => z
          have rA3 := RepVs.evo (Ey.trans E3) _ _ rA
          have Ec3 := Ec.trans (Ey.trans E3)
          cases b with
          | false =>
            rw [if_neg Bool.false_ne_true]
            simp only [R.bind, Bool.false_eq_true, if_false] at hc
            exact ⟨m, Nat.lt_succ_self m, φ3, μ3, acc, accV, Ec3, S3, nD3, hD3, rA3, hc⟩
          | true =>
            rw [if_pos rfl]
            simp only [R.bind, if_true] at hc
            cases hE : evE P F e ρ' μ3 with
            | no =>
              rw [hE] at hc
              cases hc
            | exc c fs m =>
              rw [hE] at hc
              cases hc
            | ok y μ4 =>
              rw [hE] at hc
              dsimp only at hc
              refine hte S3 (SF'.evo E3) hE fun φ4 H4 v E4 S4 r4 => ?_
              have nD4 : Dd ∉ φ4 := E4.out nD3 hD3
              have hD4 : H4 Dd = some (.lst accV) := E4.keep _ _ hD3 nD3 fun z => z
              split at hc
              · rename_i hlen
                obtain ⟨S5, E5⟩ := S4.poke (ho := .lst (accV ++ [v])) nD4 hD4 (fun _ z => by cases z) (fun _ _ z => by cases z) (fun _ z => by cases z)
                exact ⟨accV, hD4, by rw [← rA.length]; exact hlen, m, Nat.lt_succ_self m, φ4, μ4, acc ++ [y], accV ++ [v], (Ec3.trans E4).poke hD, S5, nD4, upd_same,
                  RepVs.append (RepVs.ev0 E5 _ _ (RepVs.evo E4 _ _ rA3)) ⟨v, [], rfl, RepV.ev0 E5 _ _ r4, rfl⟩, hc⟩
              · cases hc
end
end Lt

set_option Elab.async false
set_option linter.all false
set_option maxRecDepth 100000
set_option maxHeartbeats 4000000
/-! Lt13: dict displays, attributes, calls. -/
namespace Lt
open PySem L2 PySem.Spec
open PyProof.Rows hiding St

section
variable {X : Cx} {W : WX} {sc : Scope} {N : List Str} {k : Nat} {P : Pg} {F : Nat → List D → Mu → R D} {ca : Nat → Addr} {G : GT} {T : List Ty} {a b : Expr} {la lb : LE} {ls : LA} {pos p : Pos}

/-! ### dict displays -/
theorem Post.hid {K : PySem.W.Frag} {α β γ δ : Type} {Rel : List Addr → Hp → α → β → Prop} {Rel' : List Addr → Hp → γ → δ → Prop} {W : WX} {σ : St} {φ φ1 : List Addr} {H H1 : Hp} {r : R α} {f : α → Mu → R γ} {Q : δ → Hp → Prop} (h : Post K ca Rel' W σ φ H (r.bind f) Q) (e : Evo φ H φ1 H1) :
    Post K ca Rel W σ φ1 H1 r (fun x H2 => ∃ φ2 d μ2, Evo φ1 H1 φ2 H2 ∧ Sim K ca φ2 H2 μ2 ∧ Rel φ2 H2 d x ∧ ∀ φ3 H3, Evo φ H φ3 H3 → Post K ca Rel' W σ φ3 H3 (f d μ2) Q) := by
  cases r with
  | ok d m => exact fun φ' H' v e' S q => ⟨φ', d, m, e', S, q, fun φ3 H3 e3 => Post.from e3 h⟩
  | exc c fs m => exact Post.from e h
  | no => exact h
def flatV2 : List (V × V) → List V
  | [] => []
  | p :: r => p.1 :: p.2 :: flatV2 r
/-- a dict display's pairs -/
def KvOk (X : Cx) (W : WX) (P : Pg) (F : Nat → List D → Mu → R D) (ca : Nat → Addr) (pos : Pos) (ks : List (Option Expr)) (vs : List Expr) (ls : LA) : Prop :=
  ks.all (·.isSome) = true ∧ ∃ trs, PPs X pos ks vs trs ∧ ∀ σ H (Q : List (V × V) → Hp → Prop), sA X W P F ca ls σ H (fun xs H1 => ∃ ps, xs = flatV2 ps ∧ Q ps H1) → tPairs trs σ H Q
theorem kv_nil : KvOk X W P F ca pos [] [] .nil := ⟨rfl, [], pps_nil, fun σ H Q ⟨φ, μ, ρ, S, SF, h⟩ => by
  simp only [evA] at h
  obtain ⟨ps, e, q⟩ := h φ H [] (Evo.refl _ _) S rfl
  cases ps with
  | nil => exact q
  | cons p ps => cases e⟩
theorem kv_cons {ks : List (Option Expr)} {vs : List Expr} (ha : PE X a (sE X W P F ca la)) (hb : PE X b (sE X W P F ca lb)) (h : KvOk X W P F ca pos ks vs ls) : KvOk X W P F ca pos (some a :: ks) (b :: vs) (.cons la (.cons lb ls)) := by
  obtain ⟨h0, trs, h1, h2⟩ := h
  refine ⟨by simpa using h0, _, pps_cons ha hb h1, fun σ H Q ⟨φ, μ, ρ, S, SF, h⟩ => ?_⟩
  simp only [evA] at h
  refine TL.imp (TL.step (Rel := rlV X.K) S SF h) fun x H1 ⟨φ1, d, μ1, e, S1, r, SF1, h1⟩ => ?_
  rw [R.bind_bind] at h1
  refine TL.imp (TL.step (Rel := rlV X.K) S1 SF1 h1) fun y H2 ⟨φ2, d2, μ2, e2, S2, r2, SF2, h2'⟩ => ?_
  rw [R.bind_bind] at h2'
  refine h2 σ H2 _ (TL.imp (TL.step (Rel := rlA X.K) S2 SF2 h2') fun xs H3 ⟨φ3, d3, μ3, e3, S3, r3, SF3, h3⟩ => ?_)
  obtain ⟨ps, e4, q⟩ := h3 φ3 H3 (x :: y :: xs) (Evo.refl _ _) S3 ⟨x, _, rfl, RepV.evo e3 _ _ (RepV.evo e2 _ _ r), y, xs, rfl, RepV.evo e3 _ _ r2, r3⟩
  cases ps with
  | nil => cases e4
  | cons p ps =>
    obtain ⟨p1, p2⟩ := p
    simp only [flatV2, List.cons.injEq] at e4
    obtain ⟨rfl, rfl, e4⟩ := e4
    exact ⟨ps, e4, q⟩
theorem kv_rep {K : PySem.W.Frag} {φ : List Addr} {H : Hp} : ∀ {ds : List D} {kvs : List (Key × D)} {xs : List V}, mkKv ds = some kvs → RepVs K φ H ds xs → ∃ ks : List (Key × V), xs = flatV2 (ks.map (fun kv => (kV kv.1, kv.2))) ∧ RepK K φ H kvs ks ∧ ks.length = kvs.length
  | [], kvs, xs, h, r => by
    cases h
    rw [show xs = [] from r]
    exact ⟨[], rfl, rfl, rfl⟩
  | [_], kvs, xs, h, r => by simp [mkKv] at h
  | dk :: dv :: ds, kvs, xs, h, r => by
    obtain ⟨v, w, rfl, r1, v2, w2, rfl, r2, r3⟩ := r
    simp only [mkKv] at h
    split at h
    · rename_i k kr hk hkr
      cases h
      obtain ⟨ks, rfl, h2, h3⟩ := kv_rep hkr r3
      refine ⟨(k, v2) :: ks, ?_, ⟨v2, ks, rfl, r2, h2⟩, by simp [h3]⟩
      rw [key_kV hk r1]
      rfl
    · cases h
theorem kv_merge {K : PySem.W.Frag} {φ : List Addr} {H : Hp} : ∀ (kvs : List (Key × D)) (ks : List (Key × V)) (acc : List (Key × D)) (av : List (Key × V)), RepK K φ H kvs ks → RepK K φ H acc av → RepK K φ H (kvs.foldl (fun acc kv => putD acc kv.1 kv.2) acc) (mergeK av ks)
  | [], ks, acc, av, h, g => by
    rw [show ks = [] from h]
    exact g
  | p :: r, ks, acc, av, h, g => by
    obtain ⟨v, w, rfl, h1, h2⟩ := h
    exact kv_merge r w _ _ h2 (repK_put g h1)
theorem snd_dct {ks : List (Option Expr)} {vs : List Expr} (h : KvOk X W P F ca pos ks vs ls) (hl : ks.length = vs.length) (h0 : ks ≠ []) (h15 : ks.length ≤ 15) : PE X (.Dict ks vs pos) (sE X W P F ca (.dct ls)) := by
  obtain ⟨hs, trs, h1, h2⟩ := h
  refine PE_imp (pe_disp h1 hs hl h0 h15) fun σ H Q ⟨φ, μ, ρ, S, SF, h⟩ => ?_
  simp only [evE] at h
  intro p hp
  obtain ⟨S1, E1⟩ := S.lay (ho := .dK []) hp
  refine h2 σ _ _ (TL.imp (Q := fun xs H2 => ∃ φ2 d μ2, Evo φ (upd H p (.dK [])) φ2 H2 ∧ Sim X.K ca φ2 H2 μ2 ∧ RepVs X.K φ2 H2 d xs ∧ _) ⟨φ, μ, ρ, S1, SF.evo E1, Post.hid (Rel := rlA X.K) h E1⟩ fun xs H2 ⟨φ2, d, μ2, e2, S2, r2, h3⟩ => ?_)
  have np : p ∉ φ := S.nin hp
  have np2 : p ∉ φ2 := e2.out np upd_same
  have hp2 : H2 p = some (.dK []) := e2.keep _ _ upd_same np fun z => z
  cases hk : mkKv d with
  | none =>
    have h4 := h3 _ _ ((E1.trans e2))
    rw [hk] at h4
    exact h4.elim
  | some kvs =>
    simp only [hk] at h3
    obtain ⟨ks', e1, e2', e3⟩ := kv_rep hk r2
    split at h3
    · rename_i hc
      refine ⟨_, e1, hp2, ks', rfl, by omega, ?_⟩
      obtain ⟨S4, E4⟩ := S2.poke (ho := .dK (mergeK [] ks')) np2 hp2 (fun _ z => by cases z) (fun _ _ z => by cases z) (fun _ z => by cases z)
      obtain ⟨S5, E5, g5⟩ := S4.adopt (p := p) (o := .dct (kvs.foldl (fun acc kv => putD acc kv.1 kv.2) [])) np2 fun e0 => ⟨_, upd_same, RepK.ev0 e0 _ _ (RepK.ev0 E4 _ _ (kv_merge kvs ks' [] [] e2' rfl))⟩
      have ef : Evo φ H (φ2 ++ [p]) (upd H2 p (.dK (mergeK [] ks'))) := ((E1.trans e2).poke hp).adopt hp
      exact h3 _ _ ef _ _ _ (Evo.refl _ _) S5 ⟨p, g5, rfl⟩
    · exact (h3 _ _ (E1.trans e2)).elim
theorem snd_dct0 : PE X (.Dict [] [] pos) (sE X W P F ca (.dct .nil)) := PE_imp pe_dnewK fun σ H Q ⟨φ, μ, ρ, S, SF, h⟩ => by
  simp only [evE, evA] at h
  have h : Post X.K ca (rlV X.K) W σ φ H (new μ (.dct [])) Q := h
  exact fun p hp => h.new S hp fun e => ⟨_, upd_same, rfl⟩
end
end Lt

set_option Elab.async false
set_option linter.all false
set_option maxRecDepth 100000
set_option maxHeartbeats 4000000
/-! Lt14: attributes, calls, methods. -/
namespace Lt
open PySem L2 PySem.Spec
open PyProof.Rows hiding St

section
variable {X : Cx} {W : WX} {sc : Scope} {N : List Str} {k : Nat} {P : Pg} {F : Nat → List D → Mu → R D} {ca : Nat → Addr} {G : GT} {T : List Ty} {a b : Expr} {la lb : LE} {ls : LA} {pos p apos : Pos} {es : List Expr}

/-! ### attributes -/
theorem getprop_g {C : Addr} {f : Str} {g : List D → Mu → R D} (PG : PropG X.prog X.w X.K X.mg X.base k ca C f g) (c : Cls X.K C) (hr : Room (k + 1) X.A) (hg : X.A.guards = some []) {pins : List (Addr × Obj)} {σ : St} {H : Hp} {s : Shared} {Q : VK} {b : Bool} {E' : Value → Shared → Prop} {a dx : Addr} {fs : List (Str × V)}
    (I : Inv X pins σ H s) (ea : H a = some (.ins C dx fs)) (h : spL X.K ca g 1 [.ref a] H Q (fun _ _ _ => False)) : wpAny (model X.prog X.w) X.A (getAttr (.ref a) f b) (EP X pins σ Q) E' s := by
  obtain ⟨pa, ga, fd, ps, hp, hb, hl1, F⟩ := PG.ex
  obtain ⟨mA, O, _, _, _, _⟩ := ins_get I.hok ea
  obtain ⟨od, J, _⟩ := O.look
  obtain ⟨rest, hrec⟩ := hp.rec_
  have I1 := I.tok (s.toks + 1)
  have hc : (PySem.W.clsIn X.K C).isSome = true := by
    obtain ⟨cd, hc, _⟩ := PySem.W.any_some c.hd
    rw [hc]
    rfl
  have hb' : BindsTo { s with toks := s.toks + 1 } fd ⟨[.ref a], []⟩ (ps.zip [.ref a]) := by
    have z := hb _ [.ref a] I1.kIn (by rw [hl1]; rfl)
    exact z
  refine PySem.W.get_bind I.kIn J (PySem.W.plainGet_of (c.get f)).1 (PySem.W.findObj_data hc hp.at_ hp.get hp.tak) (PySem.W.plainGet_of (c.get f)).2 (wpAny_call (PySem.W.prop_get (s := { s with toks := s.toks + 1 }) I.kIn hrec ?_))
  refine codeAny_mono (F.run X.A.in1 X.stack { s with toks := s.toks + 1 } H ⟨[.ref a], []⟩ [.ref a] [.ref a] Q (fun _ _ _ => False) hr.in1 hg I1.env0.in1 hb' (.cons rfl .nil) h) fun r s' hq => ?_
  cases r with
  | error er =>
    obtain ⟨_, _, _, _, _, _, _, _, _, _, _, _, z⟩ := hq
    exact z.elim
  | ok fl =>
    cases fl with
    | ret u =>
      obtain ⟨v, H', I3, rv, q3⟩ := I1.after hq
      show wpAny _ _ (handedOut u) _ _ _
      rw [PySem.W.handedOut_of (handed_of rv)]
      exact wpAny_pure ⟨v, H', I3, rv, q3⟩
    | next => exact False.elim hq
    | brk => exact False.elim hq
    | cont => exact False.elim hq
theorem get_sound (C : CxOk X W sc N k P F ca G T) {pins : List (Addr × Obj)} {σ : St} {H : Hp} {s : Shared} {Q : VK} {bb : Bool} {φ : List Addr} {μ : Mu} {d : D} {x : V} {u : Value} {f : Str} (I : Inv X pins σ H s) (rx : RelV x u) (S : Sim X.K ca φ H μ) (r : RepV X.K φ H d x)
    (h : Post X.K ca (rlV X.K) W σ φ H (attrD P F d f μ) Q) : wpAny (model X.prog X.w) X.A (getAttr u f bb) (EP X pins σ Q) X.xe s := by
  unfold attrD at h
  split at h
  case h_2 => exact h.elim
  rename_i i
  obtain ⟨a, ha, rfl⟩ := r
  obtain rfl : u = Value.ref a := rx
  split at h
  · -- an instance
    rename_i c fs em
    split at h
    case h_2 => exact h.elim
    rename_i kc hk
    split at h
    case isTrue => exact h.elim
    rename_i hx
    have hx : kc.exc = false := by simpa using hx
    obtain ⟨b, h1, dx, fv, h2, h3⟩ := S.at em
    rw [ha] at h1
    cases h1
    split at h
    · rename_i p hp
      refine getprop_g (C.lk.prop c kc f p hk hx hp) (C.lk.kit c kc hk hx) C.hr C.hg I h2 ⟨rfl, φ, μ, [.ref i], S, ⟨_, _, rfl, ⟨a, ha, rfl⟩, rfl⟩, ?_⟩
      generalize F p [.ref i] μ = r0 at h
      cases r0 with
      | ok d m => exact h
      | exc c fs m => exact h.elim
      | no => exact h.elim
    · split at h
      case isFalse => exact h.elim
      rename_i hf
      split at h
      case h_2 => exact h.elim
      rename_i v hv
      rcases repF_look f h3 with ⟨e1, _⟩ | ⟨d', v', e1, e2, e3⟩
      · rw [hv] at e1
        cases e1
      · rw [hv] at e1
        cases e1
        exact getattr_ok I h2 (C.lk.kit c kc hk hx) (C.lk.fld c kc f hk hf) e2 fun u' s' I' r' => ⟨v', H, I', r', h.ok S e3⟩
  · -- an exception
    rename_i c fs m em
    split at h
    case h_2 => exact h.elim
    rename_i kc hk
    split at h
    case isFalse => exact h.elim
    rename_i hx
    split at h
    case h_2 => exact h.elim
    rename_i v hv
    obtain ⟨b, h1, dd, t0, h2, h3, h4⟩ := S.at em
    rw [ha] at h1
    cases h1
    rcases h3 with ⟨rfl, _⟩ | ⟨dx, fv, rfl, h5, h6⟩
    · cases hv
    · rcases repF_look f h6 with ⟨e1, _⟩ | ⟨d', v', e1, e2, e3⟩
      · rw [hv] at e1
        cases e1
      · rw [hv] at e1
        cases e1
        have hob : ObjOk X.prog X.w H s.heap a (exX (ca c) a (some dx) t0) := I.hok a _ h2
        obtain ⟨⟨fvs, q1, q2, _⟩, _⟩ := hob
        obtain ⟨mA, hns, hr⟩ := (show ObjOk X.prog X.w H s.heap dx (.xd fv) from I.hok dx _ h5)
        obtain ⟨od, ho, hl⟩ := lookIn_ns hns
        obtain ⟨u, hu, ru⟩ := RelO.some_of (v := v') (o := mA f) (by rw [← e2]; exact hr f)
        have J : PySem.W.InstAt s.heap a ({ cls := .ref (ca c), dict := some dx, data := .fields fvs } : Obj) (ca c) (some od) := ⟨q1, rfl, rfl, ho⟩
        have Z := C.lk.isi.exc c kc hk hx.1
        exact HandSPX.exc_get I.kIn J Z.hga Z.hgt Z.hsub (PySem.W.findObj_own Z.hd (C.lk.fld c kc f hk hx.2) rfl (by rw [hl, hu])) (handed_of ru) ⟨v', H, I.tok _, ru, h.ok S e3⟩
  · exact h.elim
theorem snd_attr (C : CxOk X W sc N k P F ca G T) {f : Str} (ha : PE X a (sE X W P F ca la)) (hb : attributeBase a f X.env (eval a X.env) = eval a X.env) : PE X (.Attribute a f pos) (sE X W P F ca (.attr la f)) := by
  refine ⟨fun pins s σ H Q I ⟨φ, μ, ρ, S, SF, h⟩ => ?_⟩
  simp only [evE] at h
  refine attr_of hb (thn (ha.run pins s σ H _ I (TL.step (Rel := rlV X.K) S SF h)) fun u s1 ⟨x, H1, I1, rx, φ1, d, μ1, e, S1, r, SF1, h1⟩ => ?_)
  exact get_sound C I1 rx S1 r h1

/-! ### calls of names -/
/-- what stands ahead of a call's arguments -/
structure ArgsOk (X : Cx) (es : List Expr) (ls : LA) : Prop where
  cons : ∀ e r, es = e :: r → starEach (e :: r) X.env = (false, eval e X.env) :: starEach r X.env
  plain : ∀ e r pos, es = e :: r → (backTo pos (starEach r X.env)).any (·.1) = false
  nil : es = [] → ls = .nil
theorem snd_call {x : Str} {f : Addr} {g : List D → Mu → R D} (C : CxOk X W sc N k P F ca G T) (hg : Gl X x) (hm : X.mg x = some (.ref f)) (hk : PySem.W.keepIn X.K (.ref f) = true) (hb : (!badN x) = true) (hc : CalD X.prog X.w X.K X.mg X.base k ca (.ref f) g)
    (ha : PA X es (sA X W P F ca ls)) (hs : ArgsOk X es ls) : PE X (.Call (.Name x p) es [] pos) (TL X.K ca (rlV X.K) W fun ρ μ => (evA P F ls ρ μ).bind g) := by
  refine ⟨fun pins s σ H Q I ⟨φ, μ, ρ, S, SF, h⟩ => ?_⟩
  refine wpAny_Call_Name_kw (ld_glob I hg hm ?_ (badN_spec hb).1)
  cases es with
  | nil =>
    cases hs.nil rfl
    simp only [evA] at h
    exact PySem.W.callWith_K0 I.kIn hk (hc X W rfl rfl rfl rfl rfl C.calm C.hr C.hg C.tk pins s σ H [] [] Q I .nil ⟨φ, μ, [], S, rfl, h⟩)
  | cons e r =>
    refine PySem.W.callWith_K (h₀ := X.base) I.ok.mod.kin hk (thn (ha.run pos pins s σ H _ I (TL.step (Rel := rlA X.K) S SF h)) fun us s1 ⟨vs, H1, I1, rv, φ1, ds, μ1, e, S1, r1, SF1, h1⟩ => ⟨I1.kIn, ?_⟩) (hs.cons e r rfl) (hs.plain e r pos rfl)
    exact hc X W rfl rfl rfl rfl rfl C.calm C.hr C.hg C.tk pins s1 σ H1 vs us Q I1 rv ⟨φ1, μ1, ds, S1, r1, h1⟩
theorem snd_callK {x a : Str} {f : Addr} {c : Nat} {e : Expr} {le : LE} {kp : Pos} (C : CxOk X W sc N k P F ca G T) (hg : Gl X x) (hm : X.mg x = some (.ref f)) (hk : PySem.W.keepIn X.K (.ref f) = true) (hb : (!badN x) = true) (hc : CalK X.prog X.w X.K X.mg X.base k ca (.ref f) a (mkD P F c))
    (he : PE X e (sE X W P F ca le)) : PE X (.Call (.Name x p) [] [⟨some a, e, kp⟩] pos) (sE X W P F ca (.mk c (.cons le .nil))) := by
  refine ⟨fun pins s σ H Q I ⟨φ, μ, ρ, S, SF, h⟩ => ?_⟩
  simp only [evE, evA, R.bind_bind] at h
  refine wpAny_Call_Name_kw (ld_glob I hg hm ?_ (badN_spec hb).1)
  refine PySem.W.callWith_KW0 (h₀ := X.base) I.ok.mod.kin hk rfl ?_ rfl
  have h2 : tCons (sE X W P F ca le) tNil σ H (fun vs H1 => ∃ x φ1 d μ1, vs = [x] ∧ Sim X.K ca φ1 H1 μ1 ∧ RepV X.K φ1 H1 d x ∧ Post X.K ca (rlV X.K) W σ φ1 H1 (mkD P F c [d] μ1) Q) :=
    TL.imp (TL.step (Rel := rlV X.K) S SF h) fun x H1 ⟨φ1, d, μ1, e, S1, r, SF1, h1⟩ => ⟨x, φ1, d, μ1, rfl, S1, r, h1⟩
  refine thn ((pk_cons he pk_nil).run pos pins s σ H _ I h2) fun ws s1 ⟨vs, H1, I1, rv, x, φ1, d, μ1, ev, S1, r, h1⟩ => ⟨I1.kIn, ?_⟩
  subst ev
  obtain ⟨u, rfl, ru⟩ := vals1 rv
  exact hc X W rfl rfl rfl rfl rfl C.calm C.hr C.hg C.tk pins s1 σ H1 x u Q I1 ru ⟨φ1, μ1, d, S1, r, h1⟩
theorem snd_bi (C : CxOk X W sc N k P F ca G T) {x : Str} {bi : BI} (hg : Gl X x) (hm : X.mg x = none) (hb : (!badN x) = true) (hu : X.A.units + 200 < cLine) (hv : bootBuiltins x = some (biV bi)) (hty : (∃ id, biV bi = .builtin id) ∨ ∃ T, biV bi = .type T)
    {e : Expr} {r : List Expr} (ha : PA X (e :: r) (sA X W P F ca ls)) (hs : ArgsOk X (e :: r) ls) : PE X (.Call (.Name x p) (e :: r) [] pos) (sE X W P F ca (.bi bi ls)) := by
  have hE : ∀ c, P.isExc c = true → ExS X.K (ca c) := fun c hc => by
    obtain ⟨kc, h1, h2⟩ := isExc_at hc
    have Z := C.lk.isi.exc c kc h1 h2
    exact ⟨Z.st, Z.hsub⟩
  have hB : ∀ σ', CallR X (biV bi) (fun xs H Q => ∃ φ μ ds, Sim X.K ca φ H μ ∧ RepVs X.K φ H ds xs ∧ Post X.K ca (rlV X.K) W σ' φ H (biD P bi ds μ) Q) := fun σ' => bi_sound C.calm C.hg hu C.lk.sys hE bi
  have fin : PE X (.Call (.Name x p) (e :: r) [] pos) (fun σ H Q => ∃ σ', tCB (fun xs H Q => ∃ φ μ ds, Sim X.K ca φ H μ ∧ RepVs X.K φ H ds xs ∧ Post X.K ca (rlV X.K) W σ' φ H (biD P bi ds μ) Q) (sA X W P F ca ls) σ H Q) := by
    refine PE_any fun σ' => ?_
    have hB := hB σ'
    rcases hty with ⟨id, e1⟩ | ⟨id, e1⟩
    · rw [e1] at hB hv
      exact pe_callB hB hg hm hv ha (badN_spec hb).2.2 (badN_spec hb).1 (hs.cons e r rfl) (hs.plain e r pos rfl)
    · rw [e1] at hB hv
      exact pe_callTy hB hg hm hv ha (badN_spec hb).2.2 (badN_spec hb).1 (hs.cons e r rfl) (hs.plain e r pos rfl)
  refine PE_imp fin fun σ H Q ⟨φ, μ, ρ, S, SF, h⟩ => ⟨σ, ?_⟩
  simp only [evE] at h
  exact TL.imp (TL.step (Rel := rlA X.K) S SF h) fun vs H1 ⟨φ1, ds, μ1, e, S1, r1, SF1, h1⟩ => ⟨φ1, μ1, ds, S1, r1, h1⟩

/-! ### isinstance -/
theorem snd_isi1 (C : CxOk X W sc N k P F ca G T) {t : Expr} {ty : Ty} (hg : Gl X "isinstance") (ht : ty ∈ T) (ha : PE X a (sE X W P F ca la)) (het : PE X t (tC (tyW ca ty))) (h1 : starEach [a, t] X.env = (false, eval a X.env) :: starEach [t] X.env) (h2 : starEach [t] X.env = [(false, eval t X.env)]) :
    PE X (.Call (.Name "isinstance" p) [a, t] [] pos) (sE X W P F ca (.isi la [ty])) := by
  have hm : X.mg "isinstance" = none := C.lk.blt _ (by decide)
  have fin : PE X (.Call (.Name "isinstance" p) [a, t] [] pos) (fun σ H Q => ∃ σ', tCB (fun xs H Q => ∃ φ μ d x, Sim X.K ca φ H μ ∧ RepV X.K φ H d x ∧ xs = [x, tyW ca ty] ∧ Post X.K ca (rlV X.K) W σ' φ H (blR (isiDs P μ d [ty]) μ) Q) (tCons (sE X W P F ca la) (tCons (tC (tyW ca ty)) tNil)) σ H Q) :=
    PE_any fun σ' => pe_callB (id := "isinstance") (isi_one (W := W) (σ' := σ') C.lk.isi ty ht) hg hm boot_isinstance (pa_cons ha (pa_cons het pa_nil h2) h1) (by decide) (by decide) h1 (by rw [h2]; rfl)
  refine PE_imp fin fun σ H Q ⟨φ, μ, ρ, S, SF, h⟩ => ⟨σ, ?_⟩
  simp only [evE] at h
  exact TL.imp (TL.step (Rel := rlV X.K) S SF h) fun x H1 ⟨φ1, d, μ1, e, S1, r1, SF1, h1⟩ => ⟨φ1, μ1, d, x, S1, r1, rfl, h1⟩
theorem snd_isiN (C : CxOk X W sc N k P F ca G T) {ts : List Expr} {tys : List Ty} {kk : Nat} {tp : Pos} (hg : Gl X "isinstance") (ht : ∀ t ∈ tys, t ∈ T) (hne : tys ≠ []) (hlen : tys.length ≤ sizeLine) (ha : PE X a (sE X W P F ca la)) (het : PA X ts (fun _ H Q => Q (tys.map (tyW ca)) H))
    (h1 : starEach [a, .Tuple ts kk tp] X.env = (false, eval a X.env) :: starEach [.Tuple ts kk tp] X.env) :
    PE X (.Call (.Name "isinstance" p) [a, .Tuple ts kk tp] [] pos) (sE X W P F ca (.isi la tys)) := by
  have hm : X.mg "isinstance" = none := C.lk.blt _ (by decide)
  have fin : PE X (.Call (.Name "isinstance" p) [a, .Tuple ts kk tp] [] pos) (fun σ H Q => ∃ σ', tCB (fun xs H Q => ∃ φ μ d x tp, Sim X.K ca φ H μ ∧ RepV X.K φ H d x ∧ xs = [x, .ref tp] ∧ H tp = some (.tup (tys.map (tyW ca))) ∧ Post X.K ca (rlV X.K) W σ' φ H (blR (isiDs P μ d tys) μ) Q) (tCons (sE X W P F ca la) (tCons (tTup (fun _ H Q => Q (tys.map (tyW ca)) H)) tNil)) σ H Q) :=
    PE_any fun σ' => pe_callB (id := "isinstance") (isi_tup (W := W) (σ' := σ') C.lk.isi tys ht hne) hg hm boot_isinstance (pa_cons ha (pa_cons (pe_tup het) pa_nil rfl) h1) (by decide) (by decide) h1 rfl
  refine PE_imp fin fun σ H Q ⟨φ, μ, ρ, S, SF, h⟩ => ⟨σ, ?_⟩
  simp only [evE] at h
  refine TL.imp (TL.step (Rel := rlV X.K) S SF h) fun x H1 ⟨φ1, d, μ1, e, S1, r1, SF1, h1⟩ => ⟨by rw [List.length_map]; exact hlen, fun q hq => ?_⟩
  obtain ⟨S2, E2⟩ := S1.lay (ho := .tup (tys.map (tyW ca))) hq
  exact ⟨φ1, μ1, d, x, q, S2, RepV.evo E2 _ _ r1, rfl, upd_same, Post.from E2 h1⟩

/-! ### methods -/
theorem mt_list {m : Str} (hm : m ∈ lstMs) : ∃ id, Slot "list" m id ∧ typeOf (.builtin id) = pure (.type "method_descriptor") ∧ ∀ (W : WX) (σ' : St), MtR X id (fun x xs H Q => ∃ φ μ d ds, Sim X.K ca φ H μ ∧ RepV X.K φ H d x ∧ RepVs X.K φ H ds xs ∧ Post X.K ca (rlV X.K) W σ' φ H (methL d m ds μ) Q) := by
  unfold lstMs at hm
  simp only [List.mem_cons, List.not_mem_nil, or_false] at hm
  rcases hm with rfl | rfl
  · refine ⟨_, PySem.F.slot_list_append, rfl, fun W σ' => ?_⟩
    intro pins s σ H x xs v us Q I rx rxs ⟨φ, μ, d, ds, S, r, rs, h⟩
    unfold methL at h
    split at h
    case h_2 => exact h.elim
    rename_i i
    split at h
    case h_2 => exact h.elim
    rename_i ys em
    rw [if_pos rfl] at h
    split at h
    case h_2 => exact h.elim
    rename_i d'
    split at h
    case isFalse => exact h.elim
    rename_i hl
    obtain ⟨a, h1, vs, h2, h3⟩ := S.at em
    obtain ⟨a', h4, rfl⟩ := r
    rw [h1] at h4
    cases h4
    obtain ⟨y, w, rfl, q1, q2⟩ := rs
    rw [show w = [] from q2] at rxs
    obtain ⟨S', E'⟩ := S.set (ho := .lst (vs ++ [y])) (o' := .lst (ys ++ [d'])) h1 em fun e => ⟨_, upd_same, RepVs.evo e _ _ (h3.append ⟨y, [], rfl, q1, rfl⟩)⟩
    exact mt_append pins s σ H _ _ v us Q I rx rxs ⟨a, vs, y, rfl, rfl, h2, by rw [← h3.length]; exact hl, h _ _ _ E' S' rfl⟩
  · refine ⟨_, PySem.F.slot_list_pop, rfl, fun W σ' => ?_⟩
    intro pins s σ H x xs v us Q I rx rxs ⟨φ, μ, d, ds, S, r, rs, h⟩
    unfold methL at h
    split at h
    case h_2 => exact h.elim
    rename_i i
    split at h
    case h_2 => exact h.elim
    rename_i ys em
    rw [if_neg (by decide), if_pos rfl] at h
    split at h
    case h_2 => exact h.elim
    rename_i z
    split at h
    case isFalse => exact h.elim
    rename_i hz
    split at h
    case h_2 => exact h.elim
    rename_i j hj
    split at h
    case h_2 => exact h.elim
    rename_i y hy
    obtain ⟨a, h1, vs, h2, h3⟩ := S.at em
    obtain ⟨a', h4, rfl⟩ := r
    rw [h1] at h4
    cases h4
    obtain ⟨zz, w, rfl, q1, q2⟩ := rs
    rw [show w = [] from q2] at rxs
    obtain ⟨y', e1, e2⟩ := h3.get hy
    obtain ⟨S', E'⟩ := S.set (ho := .lst (vs.eraseIdx j)) (o' := .lst (ys.eraseIdx j)) h1 em fun e => ⟨_, upd_same, RepVs.evo e _ _ (h3.erase j)⟩
    exact mt_popAt pins s σ H _ _ v us Q I rx rxs ⟨a, vs, z, j, y', rfl, by rw [q1.int], h2, hz.1, hz.2, by rw [← h3.length]; exact hj, e1, h _ _ _ E' S' (RepV.evo E' _ _ e2)⟩
theorem snd_meth (C : CxOk X W sc N k P F ca G T) {m : Str} (ho : PE X a (sE X W P F ca la)) (ha : PA X es (sA X W P F ca ls)) (hs : ArgsOk X es ls)
    (he : eval (.Call (.Attribute a m apos) es [] pos) X.env = (do
      let ov ← eval a X.env
      standAt apos.atName
      let (f, first) ← holding [ov] (getMethod ov m (do return (← importBound a X.env).getD true))
      callWith pos f first (backTo pos (starEach es X.env)) (backToKw pos (keywordEach [] X.env)))) :
    PE X (.Call (.Attribute a m apos) es [] pos) (sE X W P F ca (.meth la m ls)) := by
  refine ⟨fun pins s σ H Q I ⟨φ, μ, ρ, S, SF, h⟩ => ?_⟩
  simp only [evE] at h
  refine PySem.W.methodCall_KW (thn (ho.run pins s σ H _ I (TL.step (Rel := rlV X.K) S SF h)) fun u s1 ⟨x, H1, I1, rx, φ1, d, μ1, e, S1, r, SF1, h1⟩ => ?_) he
  unfold methK at h1
  split at h1
  case h_3 => exact h1.elim
  · -- an own def
    rename_i f hf
    split at hf
    case h_2 => cases hf
    rename_i i
    split at hf
    case h_3 => cases hf
    · split at hf <;> cases hf
    · rename_i c fs em
      split at hf
      case h_2 => cases hf
      rename_i kc hk
      split at hf
      case isTrue => cases hf
      rename_i hx
      have hx : kc.exc = false := by simpa using hx
      split at hf
      case h_2 => cases hf
      rename_i f' hm hfs
      cases hf
      obtain ⟨a', h1', dx, fv, h2, h3⟩ := S1.at em
      obtain ⟨a'', h4, rfl⟩ := r
      rw [h1'] at h4
      cases h4
      obtain rfl : u = Value.ref a' := rx
      obtain ⟨fa, hM, hc⟩ := C.lk.meth c kc m f hk hx hm
      have hnone : fv.lookup m = none := by
        rcases repF_look m h3 with ⟨_, e2⟩ | ⟨_, _, e1, _, _⟩
        · exact e2
        · rw [hfs] at e1
          cases e1
      refine getmeth_ok I1 h2 (C.lk.kit c kc hk hx) hM hnone ?_
      cases es with
      | nil =>
        cases hs.nil rfl
        simp only [evA] at h1
        exact PySem.W.callWith_K0 I1.kIn hM.kp (hc X W rfl rfl rfl rfl rfl C.calm C.hr C.hg C.tk pins s1 σ H1 [.ref a'] _ Q I1 (.cons rfl .nil) ⟨φ1, μ1, [.ref i], S1, ⟨_, _, rfl, ⟨a', h1', rfl⟩, rfl⟩, h1⟩)
      | cons e0 r0 =>
        refine PySem.W.callWith_K (h₀ := X.base) I1.ok.mod.kin hM.kp (thn (ha.run pos pins s1 σ H1 _ I1 (TL.step (Rel := rlA X.K) S1 SF1 h1)) fun us s2 ⟨vs, H2, I2, rv, φ2, ds, μ2, e2, S2, r2, SF2, h2'⟩ => ⟨I2.kIn, ?_⟩) (hs.cons e0 r0 rfl) (hs.plain e0 r0 pos rfl)
        exact hc X W rfl rfl rfl rfl rfl C.calm C.hr C.hg C.tk pins s2 σ H2 (.ref a' :: vs) _ Q I2 (.cons rfl rv) ⟨φ2, μ2, .ref i :: ds, S2, ⟨_, _, rfl, ⟨a', e2.ix h1', rfl⟩, r2⟩, h2'⟩
  · -- a list's
    rename_i hf
    split at hf
    case h_2 => cases hf
    rename_i i
    split at hf
    case h_3 => cases hf
    · rename_i ys em
      split at hf
      case isFalse => cases hf
      rename_i hm
      obtain ⟨id, slot, hty, hmt⟩ := mt_list (X := X) (ca := ca) hm
      obtain ⟨a', h1', vs, h2, h3⟩ := S1.at em
      obtain ⟨a'', h4, rfl⟩ := r
      rw [h1'] at h4
      cases h4
      obtain ⟨t1, t2⟩ := tyV_is (T := "list") I1 rx (.inl ⟨rfl, vs, SqL.of h2⟩)
      refine getMethod_builtin t1 PySem.F.plainAttrs_list slot hty t2 ?_
      cases es with
      | nil =>
        cases hs.nil rfl
        simp only [evA] at h1
        exact Calls.callWith_builtin rfl (evalArgs_nil3 (hmt W σ pins s1 σ H1 _ [] u [] Q I1 rx .nil ⟨φ1, μ1, .ref i, [], S1, ⟨a', h1', rfl⟩, rfl, h1⟩))
      | cons e0 r0 =>
        have hA := ha.run pos pins s1 σ H1 _ I1 (TL.step (Rel := rlA X.K) S1 SF1 h1)
        have hst := hs.cons e0 r0 rfl
        have hpl := hs.plain e0 r0 pos rfl
        rw [hst] at hA ⊢
        refine Calls.callWith_builtin (by show (false || (backTo pos (starEach r0 X.env)).any (·.1)) = false; rw [hpl] <;> rfl) (Calls.evalArgs_plain ?_)
        exact thn hA fun us s2 ⟨vs2, H2, I2, rv, φ2, ds, μ2, e2, S2, r2, SF2, h2'⟩ => hmt W σ pins s2 σ H2 _ vs2 u us Q I2 rx rv ⟨φ2, μ2, .ref i, ds, S2, ⟨a', e2.ix h1', rfl⟩, r2, h2'⟩
    · rename_i c fs em
      split at hf
      case h_2 => cases hf
      split at hf
      case isTrue => cases hf
      split at hf <;> cases hf
end
end Lt

set_option Elab.async false
set_option linter.all false
set_option maxRecDepth 100000
set_option maxHeartbeats 4000000
/-! Lt15: every expression that is translated is read as the small language reads it. -/
namespace Lt
open PySem L2 PySem.Spec
open PyProof.Rows hiding St

section
variable {N : List Str} {k : Nat} {P : Pg} {F : Nat → List D → Mu → R D} {ca : Nat → Addr} {G : GT} {T : List Ty}
/-- a comprehension's tests -/
def tIfs (K : PySem.W.Frag) (ca : Nat → Addr) (P : Pg) (F : Nat → List D → Mu → R D) (c : LA) : TT := fun σ H Q => ∃ φ μ ρ b m, Sim K ca φ H μ ∧ SimF K φ H ρ σ ∧ evC P F c ρ μ = .ok b m ∧ ∀ φ' H', Evo φ H φ' H' → Sim K ca φ' H' m → Q b H'
/-- an element -/
def tElt (K : PySem.W.Frag) (ca : Nat → Addr) (P : Pg) (F : Nat → List D → Mu → R D) (e : LE) : TE := fun σ H Q => ∃ φ μ ρ d m, Sim K ca φ H μ ∧ SimF K φ H ρ σ ∧ evE P F e ρ μ = .ok d m ∧ ∀ φ' H' v, Evo φ H φ' H' → Sim K ca φ' H' m → RepV K φ' H' d v → Q v H'
theorem blk_ok {X : Cx} {W : WX} {sc : Scope} (C : CxOk X W sc N k P F ca G T) (s : Shared) (H : Hp) (scope : Scope) (A : Addr) (cl : List (Str × Addr)) (fp : List Addr) : CxOk (X.blk s H scope (compEnvC scope cl A X.env) fp) W0 (relS scope sc) N k P F ca G T where
  lk := C.lk
  n := C.n
  nd := C.nd
  sc := by
    rw [← C.sc]
    rfl
  calm := C.calm
  hr := C.hr
  hg := C.hg
  tk := fun u s' ⟨_, _, _, _, _, _, _, _, _, _, _, _, _, _, _, _, z⟩ => z.elim
theorem blk_fn {X : Cx} (s : Shared) (H : Hp) (scope : Scope) (A : Addr) (cl : List (Str × Addr)) (fp : List Addr) : FnC (X.blk s H scope (compEnvC scope cl A X.env) fp) scope := fun x h => by
  unfold locB at h
  split at h
  · rename_i e
    exact .inr (lookup_relS_keep (sc := X.env.scope) (by decide) e)
  · rename_i e
    exact .inl (by show (scope.names.lookup x == some .cell) = true; rw [e]; rfl)
  · cases h
/-- a comprehension's parts -/
structure LcOk (X : Cx) (tg iter : Expr) (ifs : List Expr) (elt : Expr) (scope : Scope) (wi : TI) (g : TG) (tt : TT) (te : TE) (own : List (Str × Nat)) : Prop where
  hi : PI X tg iter wi
  ok : BlkOk X.N X.env.scope scope own
  hg : ∀ (s : Shared) (H : Hp) (C : Addr) (cl : List (Str × Addr)) (fp : List Addr), PG (X.blk s H scope (compEnvC scope cl C X.env) fp) tg g
  ht : ∀ (s : Shared) (H : Hp) (C : Addr) (cl : List (Str × Addr)) (fp : List Addr), PTs (X.blk s H scope (compEnvC scope cl C X.env) fp) ifs tt
  he : ∀ (s : Shared) (H : Hp) (C : Addr) (cl : List (Str × Addr)) (fp : List Addr), PE (X.blk s H scope (compEnvC scope cl C X.env) fp) elt te
  hs : ∀ x, foldedSetIterable iter X.env x = pure x

structure Snd (n : Nat) : Prop where
  e : ∀ {X : Cx} {W : WX} {sc : Scope}, CxOk X W sc N k P F ca G T → ∀ {e : Expr} {le : LE}, trE N G T n sc e = some le → PE X e (sE X W P F ca le)
  t : ∀ {X : Cx} {W : WX} {sc : Scope}, CxOk X W sc N k P F ca G T → ∀ {e : Expr} {le : LE}, trE N G T n sc e = some le → notIf e = true → PT X e (sT X W P F ca le)
  c : ∀ {X : Cx} {W : WX} {sc : Scope}, CxOk X W sc N k P F ca G T → ∀ {e : Expr} {le : LE}, trC N G T n sc e = some le → PT X e (sT X W P F ca le) ∧ PE X e (sE X W P F ca le)
  bo : ∀ {X : Cx} {W : WX} {sc : Scope}, CxOk X W sc N k P F ca G T → ∀ {op : PySem.BoolOp} {es : List Expr} {le : LE} {pos : Pos}, trBo N G T n sc op es = some le → PE X (.BoolOp op es pos) (sE X W P F ca le) ∧ PW X (.BoolOp op es pos) (sT X W P F ca le)
  a : ∀ {X : Cx} {W : WX} {sc : Scope}, CxOk X W sc N k P F ca G T → ∀ {es : List Expr} {la : LA}, trA N G T n sc es = some la → PA X es (sA X W P F ca la)
  kv : ∀ {X : Cx} {W : WX} {sc : Scope}, CxOk X W sc N k P F ca G T → ∀ {ks : List (Option Expr)} {vs : List Expr} {la : LA} {pos : Pos}, trKv N G T n sc ks vs = some la → KvOk X W P F ca pos ks vs la
  i : ∀ {X : Cx} {W : WX} {sc : Scope}, CxOk X W sc N k P F ca G T → ∀ {tg e : Expr} {li : LI}, trI N G T n sc tg e = some li → PI X tg e (sI X W P F ca li) ∧ ∀ x, foldedSetIterable e X.env x = pure x
  f : ∀ {X : Cx} {W : WX} {sc : Scope}, CxOk X W sc N k P F ca G T → ∀ {es : List Expr} {c : LA}, trF N G T n sc es = some c → PTs X es (tIfs X.K ca P F c)
  lc : ∀ {X : Cx} {W : WX} {sc : Scope}, CxOk X W sc N k P F ca G T → ∀ {elt tg iter : Expr} {ifs : List Expr} {scope : Scope} {pos : Pos} {le : LE}, trE N G T n sc (.ListComp elt [⟨tg, iter, ifs, 0⟩] scope pos) = some le →
    ∃ wi g tt te own, LcOk X tg iter ifs elt scope wi g tt te own ∧ ∀ σ H Q, sE X W P F ca le σ H Q → tLc wi g tt te (own.map (·.2)) σ H Q

theorem PTs_imp {X : Cx} {e : List Expr} {t t' : TT} (h : PTs X e t) (i : ∀ σ H Q, t' σ H Q → t σ H Q) : PTs X e t' := ⟨fun pins s σ H Q I q => h.run pins s σ H Q I (i _ _ _ q)⟩
theorem args_ok {X : Cx} {n : Nat} {sc : Scope} {es : List Expr} {la : LA} (h : trA N G T n sc es = some la) : ArgsOk X es la := by
  cases n with
  | zero => simp [trA] at h
  | succ n =>
    cases es with
    | nil =>
      simp only [trA, Option.some.injEq] at h
      exact ⟨fun _ _ z => (by cases z), fun _ _ _ z => (by cases z), fun _ => h.symm⟩
    | cons e r =>
      simp only [trA] at h
      split at h
      · rename_i e1 e2 h1 h2
        refine ⟨fun e' r' z => ?_, fun e' r' pos z => ?_, fun z => (by cases z)⟩
        · cases z
          exact tr_nostar h1 r
        · cases z
          exact pa_nostar (es := r) (la := e2) h2 pos
      · cases h
/-- a name that stands for a constant, or a class -/
theorem ty_ok {X : Cx} {W : WX} {sc : Scope} (C : CxOk X W sc N k P F ca G T) {e : Expr} {ty : Ty} (h : tyOf G T sc e = some ty) : PE X e (tC (tyW ca ty)) ∧ ty ∈ T ∧ ∀ es, starEach (e :: es) X.env = (false, eval e X.env) :: starEach es X.env := by
  have tin : ∀ {t t' : Ty}, inT T t = some t' → t = t' ∧ t' ∈ T := fun {t t'} q => by
    unfold inT at q
    split at q
    · rename_i m
      cases q
      exact ⟨rfl, m⟩
    · cases q
  unfold tyOf at h
  split at h
  case h_2 => cases h
  rename_i x p
  split at h
  · rename_i c ps kn hg
    obtain ⟨rfl, hm⟩ := tin h
    unfold trG at hg
    split at hg
    case isFalse => cases hg
    rename_i hc
    rw [Bool.and_eq_true] at hc
    obtain ⟨h1, h2⟩ := C.lk.cls x c ps kn hg
    exact ⟨pe_glob (C.gl hc.1) h1 (v := .ref (ca c)) rfl (badN_spec hc.2).1, hm, fun _ => rfl⟩
  · cases h
  · split at h
    case isFalse => cases h
    rename_i hb
    unfold trB at hb
    rw [Bool.and_eq_true, Bool.and_eq_true] at hb
    have hm0 : X.mg x = none := C.lk.blt x (by simpa using hb.2)
    rw [Option.bind_eq_some_iff] at h
    obtain ⟨nm, h1, h2⟩ := h
    obtain ⟨rfl, hm⟩ := tin h2
    have hv : bootBuiltins x = some (.type nm) := by
      unfold tyB at h1
      split at h1
      · rename_i e; cases h1; rw [e]; decide +kernel
      · split at h1
        · rename_i e; cases h1; rw [e]; decide +kernel
        · split at h1
          · rename_i e; cases h1; rw [e]; decide +kernel
          · split at h1
            · rename_i e; cases h1; rw [e]; decide +kernel
            · split at h1
              · rename_i e; cases h1; rw [e]; decide +kernel
              · split at h1
                · rename_i e; cases h1; rw [e]; decide +kernel
                · split at h1
                  · rename_i e; cases h1; rw [e]; decide +kernel
                  · cases h1
    exact ⟨pe_bltn (C.gl hb.1.1) hm0 hv (v := .ty nm) rfl (badN_spec hb.1.2).2.2 (badN_spec hb.1.2).1, hm, fun _ => rfl⟩
theorem tys_ok {X : Cx} {W : WX} {sc : Scope} (C : CxOk X W sc N k P F ca G T) : ∀ {es : List Expr} {tys : List Ty}, es.mapM (tyOf G T sc) = some tys → PA X es (fun _ H Q => Q (tys.map (tyW ca)) H) ∧ ∀ t ∈ tys, t ∈ T
  | [], tys, h => by
    cases h
    exact ⟨pa_nil, by simp⟩
  | e :: es, tys, h => by
    obtain ⟨t, r, h1, h2, rfl⟩ := mapM_cons_some h
    obtain ⟨q1, q2, q3⟩ := ty_ok C h1
    obtain ⟨p1, p2⟩ := tys_ok C h2
    exact ⟨pa_cons q1 p1 (q3 es), fun t' ht => by
      rcases List.mem_cons.mp ht with rfl | z
      · exact q2
      · exact p2 _ z⟩
theorem bi_boot {x : Str} {n : Nat} {b : BI} (h : biOf x n = some b) : bootBuiltins x = some (biV b) ∧ ((∃ id, biV b = .builtin id) ∨ ∃ T, biV b = .type T) := by
  unfold biOf at h
  repeat' split at h
  all_goals first
    | (cases h; done)
    | (rename_i e
       cases h
       obtain ⟨rfl, _⟩ := e
       refine ⟨by decide +kernel, ?_⟩
       first | exact .inl ⟨_, rfl⟩ | exact .inr ⟨_, rfl⟩)
theorem bi_ne {x : Str} {n : Nat} {b : BI} (h : biOf x n = some b) : n ≠ 0 := by
  unfold biOf at h
  repeat' split at h
  all_goals first
    | (cases h; done)
    | (rename_i e; omega)
end
end Lt

set_option Elab.async false
set_option linter.all false
set_option maxRecDepth 100000
set_option maxHeartbeats 8000000
/-! Lt16: .. by induction. -/
namespace Lt
open PySem L2 PySem.Spec
open PyProof.Rows hiding St

section
variable {N : List Str} {k : Nat} {P : Pg} {F : Nat → List D → Mu → R D} {ca : Nat → Addr} {G : GT} {T : List Ty} {X : Cx} {W : WX} {sc : Scope} {n : Nat}
abbrev Both (X : Cx) (W : WX) (P : Pg) (F : Nat → List D → Mu → R D) (ca : Nat → Addr) (e : Expr) (le : LE) : Prop := PE X e (sE X W P F ca le) ∧ (notIf e = true → PT X e (sT X W P F ca le))
theorem by_val {e : Expr} {le : LE} (hv : byVal e = true) (h : PE X e (sE X W P F ca le)) : Both X W P F ca e le := ⟨h, fun _ => snd_valT hv h⟩
theorem un65 (C : CxOk X W sc N k P F ca G T) : X.A.units + 65 < cLine := by
  have := C.hr.un
  omega
theorem un200 (C : CxOk X W sc N k P F ca G T) : X.A.units + 200 < cLine := by
  have := C.hr.un
  omega
theorem un1 (C : CxOk X W sc N k P F ca G T) : X.A.units + 1 < cLine := by
  have := C.hr.un
  omega
theorem snd_Name (C : CxOk X W sc N k P F ca G T) {x : Str} {p : Pos} {le : LE} (h : trE N G T (n + 1) sc (.Name x p) = some le) : Both X W P F ca (.Name x p) le := by
  simp only [trE] at h
  split at h
  · rename_i i hi
    cases h
    unfold trV at hi
    split at hi
    case isFalse => cases hi
    rename_i c
    rw [Bool.and_eq_true] at c
    exact by_val rfl (snd_var (C.at hi) (C.vis c.1) c.2)
  · split at h
    case h_2 => cases h
    rename_i d hg
    cases h
    unfold trG at hg
    split at hg
    case isFalse => cases hg
    rename_i c
    rw [Bool.and_eq_true] at c
    obtain ⟨u, v, h1, h2, h3⟩ := C.lk.cst x d hg
    exact by_val rfl (snd_cst (pe_glob (C.gl c.1) h1 h2 (badN_spec c.2).1) h3)
theorem snd_Constant (C : CxOk X W sc N k P F ca G T) {c : Const} {j : Nat} {p : Pos} {le : LE} (h : trE N G T (n + 1) sc (.Constant c j p) = some le) : Both X W P F ca (.Constant c j p) le := by
  simp only [trE] at h
  split at h
  · cases h; exact by_val rfl (snd_cst pe_non fun _ _ => rfl)
  · cases h; exact by_val rfl (snd_cst pe_bl fun _ _ => rfl)
  · cases h; exact by_val rfl (snd_cst pe_int fun _ _ => rfl)
  · cases h; exact by_val rfl (snd_cst pe_str fun _ _ => rfl)
  · cases h
theorem snd_Call (ih : Snd (N := N) (k := k) (P := P) (F := F) (ca := ca) (G := G) (T := T) n) (C : CxOk X W sc N k P F ca G T) {f : Expr} {es : List Expr} {ks : List Keyword} {p : Pos} {le : LE} (h : trE N G T (n + 1) sc (.Call f es ks p) = some le) : PE X (.Call f es ks p) (sE X W P F ca le) := by
  cases ks with
  | cons kw ks =>
    cases f with
    | Name x np =>
      cases es with
      | cons e es => cases kw with | mk ka ke kp => cases ka <;> simp [trE] at h
      | nil =>
        cases ks with
        | cons k2 ks => cases kw with | mk ka ke kp => cases ka <;> simp [trE] at h
        | nil =>
          cases kw with
          | mk ka ke kp =>
            cases ka with
            | none => simp [trE] at h
            | some a =>
              simp only [trE] at h
              split at h
              case h_2 => cases h
              rename_i c a' hg
              split at h
              case isFalse => cases h
              rename_i haa
              subst haa
              rw [Option.map_eq_some_iff] at h
              obtain ⟨l1, h1, rfl⟩ := h
              unfold trG at hg
              split at hg
              case isFalse => cases hg
              rename_i cc
              rw [Bool.and_eq_true] at cc
              obtain ⟨q1, q2⟩ := C.lk.cls x c [a] true hg
              exact snd_callK C (C.gl cc.1) q1 q2 cc.2 (C.lk.mkk x c a hg) (ih.e C h1)
    | _ => simp [trE] at h
  | nil =>
    cases f with
    | Name x np =>
      simp only [trE] at h
      split at h
      · -- a def
        rename_i f ps hg
        split at h
        case isFalse => cases h
        rw [Option.map_eq_some_iff] at h
        obtain ⟨la, h1, rfl⟩ := h
        unfold trG at hg
        split at hg
        case isFalse => cases hg
        rename_i c
        rw [Bool.and_eq_true] at c
        obtain ⟨fa, q1, q2, q3⟩ := C.lk.fn x f ps hg
        refine PE_imp (snd_call C (C.gl c.1) q1 q2 c.2 q3 (ih.a C h1) (args_ok h1)) fun σ H Q ⟨φ, μ, ρ, S, SF, h⟩ => ⟨φ, μ, ρ, S, SF, ?_⟩
        simp only [evE] at h
        exact h
      · rename_i c ps kn hg
        split at h
        case isFalse => cases h
        rw [Option.map_eq_some_iff] at h
        obtain ⟨la, h1, rfl⟩ := h
        unfold trG at hg
        split at hg
        case isFalse => cases hg
        rename_i cc
        rw [Bool.and_eq_true] at cc
        obtain ⟨q1, q2⟩ := C.lk.cls x c ps kn hg
        have q3 := C.lk.mkc x c ps kn hg
        refine PE_imp (snd_call C (C.gl cc.1) q1 q2 cc.2 q3 (ih.a C h1) (args_ok h1)) fun σ H Q ⟨φ, μ, ρ, S, SF, h⟩ => ⟨φ, μ, ρ, S, SF, ?_⟩
        simp only [evE] at h
        exact h
      · cases h
      · split at h
        case isFalse => cases h
        rename_i hb
        unfold trB at hb
        rw [Bool.and_eq_true, Bool.and_eq_true] at hb
        have hm0 : X.mg x = none := C.lk.blt x (by simpa using hb.2)
        split at h
        · -- isinstance
          rename_i hx
          subst hx
          split at h
          case h_2 => cases h
          rename_i a t
          split at h
          case h_2 => cases h
          rename_i a' ts ha ht
          split at h
          · cases h
          rename_i hne
          cases h
          simp only [Bool.or_eq_true, decide_eq_true_eq, not_or] at hne
          have hl100 : ts.length ≤ sizeLine := by
            have h2 := hne.2
            have h3 : 100 ≤ sizeLine := by decide
            omega
          have hne : ts ≠ [] := by
            rintro rfl
            exact hne.1 rfl
          have hta : ∀ t : Expr, starEach [a, t] X.env = (false, eval a X.env) :: starEach [t] X.env := fun t => tr_nostar ha [t]
          unfold tysOf at ht
          split at ht
          · rename_i es kk tp
            obtain ⟨q1, q2⟩ := tys_ok C ht
            exact snd_isiN C (C.gl hb.1.1) q2 hne hl100 (ih.e C ha) q1 (hta _)
          · rw [Option.map_eq_some_iff] at ht
            obtain ⟨ty, h1, rfl⟩ := ht
            obtain ⟨q1, q2, q3⟩ := ty_ok C h1
            exact snd_isi1 C (C.gl hb.1.1) q2 (ih.e C ha) q1 (hta _) (q3 [])
        · split at h
          case h_2 => cases h
          rename_i b hbi
          rw [Option.map_eq_some_iff] at h
          obtain ⟨la, h1, rfl⟩ := h
          obtain ⟨q1, q2⟩ := bi_boot hbi
          have hne := bi_ne hbi
          cases es with
          | nil => exact absurd rfl hne
          | cons e r => exact snd_bi C (C.gl hb.1.1) hm0 hb.1.2 (un200 C) q1 q2 (ih.a C h1) (args_ok h1)
    | Attribute o m ap =>
      simp only [trE] at h
      split at h
      case isFalse => cases h
      rename_i c
      simp only [Bool.and_eq_true, decide_eq_true_eq] at c
      split at h
      case h_2 => cases h
      rename_i lo la h1 h2
      cases h
      exact snd_meth C (ih.e C h1) (ih.a C h2) (args_ok h2) (meth_eq c.1.1 c.1.2 (form_few h2 c.2 p))
    | _ => simp [trE] at h
theorem snd_e (ih : Snd (N := N) (k := k) (P := P) (F := F) (ca := ca) (G := G) (T := T) n) (C : CxOk X W sc N k P F ca G T) {e : Expr} {le : LE} (hlc : ∀ {elt tg iter : Expr} {ifs : List Expr} {scope : Scope} {pos : Pos}, e = .ListComp elt [⟨tg, iter, ifs, 0⟩] scope pos → ∃ wi g tt te own, LcOk X tg iter ifs elt scope wi g tt te own ∧ ∀ σ H Q, sE X W P F ca le σ H Q → tLc wi g tt te (own.map (·.2)) σ H Q)
    (h : trE N G T (n + 1) sc e = some le) : Both X W P F ca e le := by
  cases e with
  | Name x p => exact snd_Name C h
  | Constant c j p => exact snd_Constant C h
  | Call f es ks p => exact by_val rfl (snd_Call ih C h)
  | BinOp a op b p =>
    simp only [trE] at h
    split at h
    case h_2 => cases h
    rename_i la lb h1 h2
    cases h
    exact by_val rfl (snd_bin op (ih.e C h1) (ih.e C h2))
  | UnaryOp op a p =>
    cases op with
    | Not =>
      simp only [trE] at h
      rw [Option.map_eq_some_iff] at h
      obtain ⟨la, h1, rfl⟩ := h
      obtain ⟨q1, q2⟩ := ih.c C h1
      exact ⟨snd_not q2, fun _ => snd_notT q1⟩
    | USub =>
      simp only [trE] at h
      rw [Option.map_eq_some_iff] at h
      obtain ⟨la, h1, rfl⟩ := h
      exact by_val rfl (snd_neg (ih.e C h1))
    | _ => simp [trE] at h
  | BoolOp op es p =>
    simp only [trE] at h
    obtain ⟨q1, q2⟩ := ih.bo C (pos := p) h
    exact ⟨q1, fun _ => q2.pt⟩
  | Compare a ops es p =>
    cases ops with
    | nil => simp [trE] at h
    | cons op ops =>
      cases es with
      | nil => simp [trE] at h
      | cons b es =>
        cases ops with
        | nil =>
          cases es with
          | cons c es => simp [trE] at h
          | nil =>
            simp only [trE] at h
            split at h
            case h_2 => cases h
            rename_i la lb h1 h2
            cases h
            exact ⟨snd_cmp (un65 C) op (ih.e C h1) (ih.e C h2) (nomarks h2), fun _ => snd_cmpT (un65 C) op (ih.e C h1) (ih.e C h2) (nomarks h2)⟩
        | cons op' ops =>
          cases ops with
          | cons _ _ => simp [trE] at h
          | nil =>
            cases es with
            | nil => simp [trE] at h
            | cons c es =>
              cases es with
              | cons _ _ => simp [trE] at h
              | nil =>
                simp only [trE] at h
                split at h
                case h_2 => cases h
                rename_i la lb lc h1 h2 h3
                split at h
                case isFalse => cases h
                rename_i ho
                cases h
                exact ⟨snd_chain (un65 C) ho (ih.e C h1) (ih.e C h2) (ih.e C h3), fun _ => snd_chainT (un65 C) ho (ih.e C h1) (ih.e C h2) (ih.e C h3)⟩
  | IfExp c a b p =>
    simp only [trE] at h
    split at h
    case h_2 => cases h
    rename_i lc la lb h1 h2 h3
    cases h
    exact ⟨snd_ite (ih.c C h1).1 (ih.e C h2) (ih.e C h3), fun z => by simp [notIf] at z⟩
  | Tuple es j p =>
    simp only [trE] at h
    rw [Option.map_eq_some_iff] at h
    obtain ⟨la, h1, rfl⟩ := h
    exact by_val rfl (snd_tup (ih.a C h1))
  | List es p =>
    simp only [trE] at h
    rw [Option.map_eq_some_iff] at h
    obtain ⟨la, h1, rfl⟩ := h
    exact by_val rfl (snd_lst (ih.a C h1))
  | Dict ks vs p =>
    have gen : ∀ {le : LE}, (if ks.length = vs.length ∧ ks ≠ [] ∧ ks.length ≤ 15 then (trKv N G T n sc ks vs).map LE.dct else none) = some le → Both X W P F ca (.Dict ks vs p) le := fun {le} h => by
      split at h
      case isFalse => cases h
      rename_i c
      rw [Option.map_eq_some_iff] at h
      obtain ⟨la, h1, rfl⟩ := h
      exact by_val rfl (snd_dct (ih.kv C h1) c.1 c.2.1 c.2.2)
    cases ks with
    | nil =>
      cases vs with
      | nil =>
        simp only [trE, Option.some.injEq] at h
        subst h
        exact by_val rfl snd_dct0
      | cons v vs => exact gen (by simpa only [trE] using h)
    | cons k ks => exact gen (by simpa only [trE] using h)
  | Subscript a i p =>
    simp only [trE] at h
    split at h
    case h_2 => cases h
    rename_i la lb h1 h2
    cases h
    exact by_val rfl (snd_ix (un1 C) (ih.e C h1) (ih.e C h2) (tr_noslice h2))
  | Attribute a f p =>
    simp only [trE] at h
    split at h
    case isFalse => cases h
    rename_i c
    rw [Option.map_eq_some_iff] at h
    obtain ⟨la, h1, rfl⟩ := h
    exact by_val rfl (snd_attr C (ih.e C h1) (base_eq c _))
  | ListComp elt gs scope pos =>
    cases gs with
    | nil => simp [trE] at h
    | cons g0 gs =>
      cases gs with
      | cons g1 gs => simp [trE] at h
      | nil =>
        obtain ⟨tg, it, ifs, as⟩ := g0
        by_cases has : as = 0
        · subst has
          obtain ⟨wi, g, tt, te, own, L, q⟩ := hlc rfl
          exact by_val rfl (PE_imp (pe_lc C.calm C.nd L.hi L.ok L.hg L.ht L.he L.hs) q)
        · simp [trE, has] at h
  | _ => simp [trE] at h
theorem snd_lc (ih : Snd (N := N) (k := k) (P := P) (F := F) (ca := ca) (G := G) (T := T) n) (C : CxOk X W sc N k P F ca G T) {elt tg iter : Expr} {ifs : List Expr} {scope : Scope} {pos : Pos} {le : LE} (h : trE N G T (n + 1) sc (.ListComp elt [⟨tg, iter, ifs, 0⟩] scope pos) = some le) :
    ∃ wi g tt te own, LcOk X tg iter ifs elt scope wi g tt te own ∧ ∀ σ H Q, sE X W P F ca le σ H Q → tLc wi g tt te (own.map (·.2)) σ H Q := by
  simp only [trE] at h
  split at h
  case isFalse => cases h
  rename_i hb
  have hb : blkC N sc scope (ownOf N scope) = true := by simpa using hb
  split at h
  case h_2 => cases h
  rename_i g li c e h1 h2 h3 h4
  split at h
  case isFalse => cases h
  rename_i hown
  cases h
  have hok := blkOk_by hb
  obtain ⟨q1, q2⟩ := ih.i C h2
  refine ⟨_, tTg X.K ca g, tIfs X.K ca P F c, tElt X.K ca P F e, _, ⟨q1, by rw [C.n, C.sc]; exact hok, fun s H A cl fp => snd_tg (blk_ok C s H scope A cl fp) (blk_fn s H scope A cl fp) h1, fun s H A cl fp => ih.f (blk_ok C s H scope A cl fp) h3, fun s H A cl fp => PE_imp (ih.e (blk_ok C s H scope A cl fp) h4) fun σ H Q ⟨φ, μ, ρ, d, m, S, SF, e1, q⟩ => ⟨φ, μ, ρ, S, SF, post_of_ok e1 q⟩, q2⟩, fun σ H Q hq => ?_⟩
  exact lc_of (fun {σ H Q φ μ ρ b m} S SF e1 q => ⟨φ, μ, ρ, b, m, S, SF, e1, q⟩) (fun {σ H Q φ μ ρ d m} S SF e1 q => ⟨φ, μ, ρ, d, m, S, SF, e1, q⟩) (fun i hi => by
    rw [List.all_eq_true] at hown
    simpa using hown i hi) hq
end
end Lt

set_option Elab.async false
set_option linter.all false
set_option maxRecDepth 100000
set_option maxHeartbeats 8000000
/-! Lt17: .. all of them. -/
namespace Lt
open PySem L2 PySem.Spec
open PyProof.Rows hiding St

section
variable {N : List Str} {k : Nat} {P : Pg} {F : Nat → List D → Mu → R D} {ca : Nat → Addr} {G : GT} {T : List Ty} {X : Cx} {W : WX} {sc : Scope} {n : Nat}
theorem snd_bo (ih : Snd (N := N) (k := k) (P := P) (F := F) (ca := ca) (G := G) (T := T) n) (C : CxOk X W sc N k P F ca G T) {op : PySem.BoolOp} {es : List Expr} {le : LE} {pos : Pos} (h : trBo N G T (n + 1) sc op es = some le) : PE X (.BoolOp op es pos) (sE X W P F ca le) ∧ PW X (.BoolOp op es pos) (sT X W P F ca le) := by
  cases es with
  | nil => simp [trBo] at h
  | cons e es =>
    cases es with
    | nil =>
      simp only [trBo] at h
      obtain ⟨q1, q2⟩ := ih.c C h
      refine ⟨pe_one q2, ?_⟩
      cases op with
      | And => exact pw_and1 q1
      | Or => exact pw_or1 q1
    | cons e' es =>
      simp only [trBo] at h
      split at h
      case h_2 => cases h
      rename_i la lb h1 h2
      cases h
      obtain ⟨q1, q2⟩ := ih.c C h1
      obtain ⟨p1, p2⟩ := ih.bo C (pos := pos) h2
      cases op with
      | And => exact ⟨snd_and q2 p1, snd_andT q1 p2⟩
      | Or => exact ⟨snd_or q2 p1, snd_orT q1 p2⟩
theorem snd_a (ih : Snd (N := N) (k := k) (P := P) (F := F) (ca := ca) (G := G) (T := T) n) (C : CxOk X W sc N k P F ca G T) {es : List Expr} {la : LA} (h : trA N G T (n + 1) sc es = some la) : PA X es (sA X W P F ca la) := by
  cases es with
  | nil =>
    simp only [trA, Option.some.injEq] at h
    subst h
    exact snd_nil
  | cons e es =>
    simp only [trA] at h
    split at h
    case h_2 => cases h
    rename_i l1 l2 h1 h2
    cases h
    exact snd_cons (ih.e C h1) (ih.a C h2) (tr_nostar h1 es)
theorem snd_kv (ih : Snd (N := N) (k := k) (P := P) (F := F) (ca := ca) (G := G) (T := T) n) (C : CxOk X W sc N k P F ca G T) {ks : List (Option Expr)} {vs : List Expr} {la : LA} {pos : Pos} (h : trKv N G T (n + 1) sc ks vs = some la) : KvOk X W P F ca pos ks vs la := by
  cases ks with
  | nil =>
    cases vs with
    | nil =>
      simp only [trKv, Option.some.injEq] at h
      subst h
      exact kv_nil
    | cons v vs => simp [trKv] at h
  | cons ko ks =>
    cases ko with
    | none => cases vs <;> simp [trKv] at h
    | some ke =>
      cases vs with
      | nil => simp [trKv] at h
      | cons v vs =>
        simp only [trKv] at h
        split at h
        case h_2 => cases h
        rename_i l1 l2 l3 h1 h2 h3
        cases h
        exact kv_cons (ih.e C h1) (ih.e C h2) (ih.kv C h3)
theorem snd_f (ih : Snd (N := N) (k := k) (P := P) (F := F) (ca := ca) (G := G) (T := T) n) (C : CxOk X W sc N k P F ca G T) {es : List Expr} {c : LA} (h : trF N G T (n + 1) sc es = some c) : PTs X es (tIfs X.K ca P F c) := by
  cases es with
  | nil =>
    simp only [trF, Option.some.injEq] at h
    subst h
    refine PTs_imp pts_nil fun σ H Q ⟨φ, μ, ρ, b, m, S, SF, e, q⟩ => ?_
    simp only [evC] at e
    cases e
    exact q φ H (Evo.refl _ _) S
  | cons e es =>
    cases es with
    | cons _ _ => simp [trF] at h
    | nil =>
      simp only [trF] at h
      rw [Option.map_eq_some_iff] at h
      obtain ⟨le, h1, rfl⟩ := h
      refine PTs_imp (pts_one (ih.c C h1).1) fun σ H Q ⟨φ, μ, ρ, b, m, S, SF, e, q⟩ => ⟨φ, μ, ρ, S, SF, ?_⟩
      simp only [evC] at e
      refine post_of_ok (d := b) (m := m) ?_ fun φ' H' c e' S' r => by
        cases r
        exact q φ' H' e' S'
      exact e
theorem snd_i (ih : Snd (N := N) (k := k) (P := P) (F := F) (ca := ca) (G := G) (T := T) n) (C : CxOk X W sc N k P F ca G T) {tg e : Expr} {li : LI} (h : trI N G T (n + 1) sc tg e = some li) : PI X tg e (sI X W P F ca li) ∧ ∀ x, foldedSetIterable e X.env x = pure x := by
  have dflt : ∀ {li : LI}, (trE N G T n sc e).map LI.exp = some li → PI X tg e (sI X W P F ca li) ∧ ∀ x, foldedSetIterable e X.env x = pure x := fun {li} h => by
    rw [Option.map_eq_some_iff] at h
    obtain ⟨le, h1, rfl⟩ := h
    exact ⟨snd_exp (ih.e C h1), folded_eq h1⟩
  have one : ∀ {a : Expr} {la : LE}, trE N G T n sc a = some la → PA X [a] (sA X W P F ca (.cons la .nil)) ∧ starEach [a] X.env = [(false, eval a X.env)] := fun {a la} h => ⟨snd_cons (ih.e C h) snd_nil (tr_nostar h []), tr_nostar h []⟩
  simp only [trI] at h
  split at h
  · rename_i x np a p
    split at h
    · rename_i c
      rw [Bool.and_eq_true] at c
      obtain rfl : x = ("range" : Str) := by simpa using c.2
      rw [Option.map_eq_some_iff] at h
      obtain ⟨la, h1, rfl⟩ := h
      obtain ⟨q1, q2⟩ := one h1
      have hb := c.1
      unfold trB at hb
      rw [Bool.and_eq_true, Bool.and_eq_true] at hb
      exact ⟨snd_rng (C.gl hb.1.1) (C.lk.blt _ (by decide)) q1 q2, fun _ => rfl⟩
    · split at h
      · rename_i c
        rw [Bool.and_eq_true] at c
        obtain rfl : x = ("enumerate" : Str) := by simpa using c.2
        split at h
        case isFalse => cases h
        rename_i ht
        rw [Option.map_eq_some_iff] at h
        obtain ⟨la, h1, rfl⟩ := h
        obtain ⟨q1, q2⟩ := one h1
        have hb := c.1
        unfold trB at hb
        rw [Bool.and_eq_true, Bool.and_eq_true] at hb
        cases tg with
        | Tuple elts kk tpos => exact ⟨snd_enum (C.gl hb.1.1) (C.lk.blt _ (by decide)) q1 q2, fun _ => rfl⟩
        | _ => simp [isTupE] at ht
      · exact dflt h
  · exact dflt h
theorem snd_all : ∀ n, Snd (N := N) (k := k) (P := P) (F := F) (ca := ca) (G := G) (T := T) n
  | 0 => {
      e := fun C e le h => by simp [trE] at h
      t := fun C e le h => by simp [trE] at h
      c := fun C e le h => by simp [trC] at h
      bo := fun C op es le pos h => by simp [trBo] at h
      a := fun C es la h => by simp [trA] at h
      kv := fun C ks vs la pos h => by simp [trKv] at h
      i := fun C tg e li h => by simp [trI] at h
      f := fun C es c h => by simp [trF] at h
      lc := fun C elt tg iter ifs scope pos le h => by simp [trE] at h }
  | n + 1 => by
      have ih := snd_all n
      exact {
        e := fun C e le h => (snd_e ih C (fun z => by subst z; exact snd_lc ih C h) h).1
        t := fun C e le h hn => (snd_e ih C (fun z => by subst z; exact snd_lc ih C h) h).2 hn
        c := fun C e le h => by
          simp only [trC] at h
          split at h
          case isFalse => cases h
          rename_i hn
          exact ⟨ih.t C h hn, ih.e C h⟩
        bo := fun C op es le pos h => snd_bo ih C h
        a := fun C es la h => snd_a ih C h
        kv := fun C ks vs la pos h => snd_kv ih C h
        i := fun C tg e li h => snd_i ih C h
        f := fun C es c h => snd_f ih C h
        lc := fun C elt tg iter ifs scope pos le h => snd_lc ih C h }
end
end Lt

set_option Elab.async false
set_option linter.all false
set_option maxRecDepth 100000
set_option maxHeartbeats 8000000
/-! Lt18: statements. -/
namespace Lt
open PySem L2 PySem.Spec
open PyProof.Rows hiding St

theorem swapped_two {env : Env} {x y : Str} {a b : Expr} {p1 p2 p3 p4 : Pos} {k1 k2 : Nat} (hk : env.scope.kind = .function) (hx : env.scope.names.lookup x = some .local) (hy : env.scope.names.lookup y = some .local) (hxy : x ≠ y) (hl : (p2.line == p1.line) = true)
    (h1 : [a, b].all (foldedForSure 8) = false) (h2 : [a, b].all (constantsAlone 8) = false) (h3 : ([a, b].any fun | .Starred .. => true | _ => false) = false) :
    swappedStores [.Tuple [.Name x p1, .Name y p2] k1 p3] (.Tuple [a, b] k2 p4) env = pure (some [x, y]) := by
  have hxk : env.kindOf x = some .local := hx
  have hyk : env.kindOf y = some .local := hy
  have hb : env.blockKind = .function := by
    unfold Env.blockKind
    first | exact hk | (simp [hk])
  unfold swappedStores
  simp only [Expr.pos, hxk, hyk, hl, hb, h1, h2, List.head?_cons, Option.map_some, Option.getD_some, List.filterMap_cons, List.filterMap_nil]
  have hd : ([x, y] : List Str).eraseDups = [x, y] := by
    have : (y == x) = false := by simpa using Ne.symm hxy
    simp [List.eraseDups, List.eraseDupsBy, List.eraseDupsBy.loop, this]
  simp only [beq_self_eq_true, Bool.and_self, if_true, hd, List.length_cons, List.length_nil, bne_self_eq_false, Bool.or_false, Bool.or_self]
  refine (if_neg (by simp)).trans ?_
  refine (if_neg (fun z => Bool.false_ne_true (h3.symm.trans z))).trans ?_
  rfl

theorem swaps_no (e : Expr) (t : Expr) (l : Nat) (env : Env) (h : ∀ x p, t ≠ .Name x p) : swapsWith e (some t) l env = pure false := by
  cases t with
  | Name x p => exact absurd rfl (h x p)
  | _ => cases e <;> rfl
section
variable (K : PySem.W.Frag) (ca : Nat → Addr)
def PostS (W : WX) (φ : List Addr) (H : Hp) (r : RS) (D : Ends) : Prop := match r with
  | .nx ρ' μ' => ∀ φ' H' σ', Evo φ H φ' H' → Sim K ca φ' H' μ' → SimF K φ' H' ρ' σ' → D.nx σ' H'
  | .brk ρ' μ' => ∀ φ' H' σ', Evo φ H φ' H' → Sim K ca φ' H' μ' → SimF K φ' H' ρ' σ' → D.bk σ' H'
  | .ct ρ' μ' => ∀ φ' H' σ', Evo φ H φ' H' → Sim K ca φ' H' μ' → SimF K φ' H' ρ' σ' → D.ct σ' H'
  | .ret d ρ' μ' => ∀ φ' H' v, Evo φ H φ' H' → Sim K ca φ' H' μ' → RepV K φ' H' d v → D.rt v H'
  | .exc c fs ρ' μ' => ∀ φ' H' cls dd σ', Evo φ H φ' H' → Sim K ca φ' H' μ' → SimF K φ' H' ρ' σ' → ExR K ca φ' H' c fs cls dd → W cls dd σ' H'
  | .no => False
def TLS (W : WX) (f : Fr → Mu → RS) : TS := fun D σ H => ∃ φ μ ρ, Sim K ca φ H μ ∧ SimF K φ H ρ σ ∧ PostS K ca W φ H (f ρ μ) D
end
section
variable {K : PySem.W.Frag} {ca : Nat → Addr} {W : WX} {φ φ1 : List Addr} {H H1 : Hp} {r : RS} {D : Ends} {ρ : Fr} {μ : Mu} {σ : St}
theorem PostS.from (e : Evo φ H φ1 H1) (h : PostS K ca W φ H r D) : PostS K ca W φ1 H1 r D := by
  cases r with
  | nx => exact fun φ' H' σ' e' => h φ' H' σ' (e.trans e')
  | brk => exact fun φ' H' σ' e' => h φ' H' σ' (e.trans e')
  | ct => exact fun φ' H' σ' e' => h φ' H' σ' (e.trans e')
  | ret => exact fun φ' H' v e' => h φ' H' v (e.trans e')
  | exc => exact fun φ' H' c d σ' e' => h φ' H' c d σ' (e.trans e')
  | no => exact h
theorem PostS.imp {D' : Ends} (h : PostS K ca W φ H r D) (h1 : ∀ ρ μ, r = .nx ρ μ → ∀ σ H, D.nx σ H → D'.nx σ H) (h2 : ∀ ρ μ, r = .brk ρ μ → ∀ σ H, D.bk σ H → D'.bk σ H) (h3 : ∀ ρ μ, r = .ct ρ μ → ∀ σ H, D.ct σ H → D'.ct σ H) (h4 : ∀ d ρ μ, r = .ret d ρ μ → ∀ v H, D.rt v H → D'.rt v H) : PostS K ca W φ H r D' := by
  cases r with
  | nx => exact fun φ' H' σ' e' S SF => h1 _ _ rfl _ _ (h φ' H' σ' e' S SF)
  | brk => exact fun φ' H' σ' e' S SF => h2 _ _ rfl _ _ (h φ' H' σ' e' S SF)
  | ct => exact fun φ' H' σ' e' S SF => h3 _ _ rfl _ _ (h φ' H' σ' e' S SF)
  | ret => exact fun φ' H' v e' S r => h4 _ _ _ rfl _ _ (h φ' H' v e' S r)
  | exc => exact h
  | no => exact h
/-- an expression ahead of a statement's rest -/
theorem TLS.step {α β : Type} {Rel : List Addr → Hp → α → β → Prop} {f : Fr → Mu → R α} {g : α → Mu → RS} (S : Sim K ca φ H μ) (SF : SimF K φ H ρ σ) (h : PostS K ca W φ H ((f ρ μ).toS ρ g) D) :
    TL K ca Rel W f σ H (fun x H1 => ∃ φ1 d μ1, Evo φ H φ1 H1 ∧ Sim K ca φ1 H1 μ1 ∧ Rel φ1 H1 d x ∧ SimF K φ1 H1 ρ σ ∧ PostS K ca W φ1 H1 (g d μ1) D) := by
  refine ⟨φ, μ, ρ, S, SF, ?_⟩
  cases e : f ρ μ with
  | ok d m =>
    rw [e] at h
    exact fun φ' H' v e' S' q => ⟨φ', d, m, e', S', q, SF.evo e', PostS.from e' h⟩
  | exc c fs m =>
    rw [e] at h
    exact fun φ' H' cls dd e' S' q => h φ' H' cls dd σ e' S' (SF.evo e') q
  | no =>
    rw [e] at h
    exact h
theorem PostS.nx' {ρ' : Fr} {μ' : Mu} (h : PostS K ca W φ H (.nx ρ' μ') D) (S : Sim K ca φ H μ') (SF : SimF K φ H ρ' σ) : D.nx σ H := h φ H σ (Evo.refl _ _) S SF
end
/-- where a statement runs -/
structure StOk (X : Cx) (W : WX) (sc : Scope) (N : List Str) (k : Nat) (P : Pg) (F : Nat → List D → Mu → R D) (ca : Nat → Addr) (G : GT) (T : List Ty) : Prop where
  cx : CxOk X W sc N k P F ca G T
  fn : FnC X sc
  po : PassesOwn (model X.prog X.w) X.A X.env X.xe
section
variable {N : List Str} {k : Nat} {P : Pg} {F : Nat → List D → Mu → R D} {ca : Nat → Addr} {G : GT} {T : List Ty} {X : Cx} {W : WX} {sc : Scope} {n : Nat} {pos : Pos}
abbrev sS (X : Cx) (W : WX) (P : Pg) (F : Nat → List D → Mu → R D) (ca : Nat → Addr) (ls : LS) : TS := TLS X.K ca W (evS P F ls)
abbrev sB (X : Cx) (W : WX) (P : Pg) (F : Nat → List D → Mu → R D) (ca : Nat → Addr) (lb : LB) : TS := TLS X.K ca W (evB P F lb)
theorem PS_any {ι : Sort _} {X : Cx} {e : Stmt} {t : ι → TS} (h : ∀ i, PS X e (t i)) : PS X e (fun D σ H => ∃ i, t i D σ H) := ⟨fun pins s σ H D I ⟨i, q⟩ => (h i).run pins s σ H D I q⟩
theorem lcl_at {x : Str} (C : StOk X W sc N k P F ca G T) (h : lcl sc x = true) : X.env.scope.names.lookup x = some .local := by
  rw [C.cx.sc]
  unfold lcl at h
  split at h
  · assumption
  · cases h
theorem ss_par (C : StOk X W sc N k P F ca G T) {x y : Str} {a b : Expr} {p1 p2 p3 p4 : Pos} {k1 k2 : Nat} {i j : Nat} {es : LA} (hx : lcl sc x = true) (hy : lcl sc y = true) (hi : ix? N x = some i) (hj : ix? N y = some j) (hij : i ≠ j) (hl : (p2.line == p1.line) = true)
    (h1 : [a, b].all (foldedForSure 8) = false) (h2 : [a, b].all (constantsAlone 8) = false) (h3 : trA N G T n sc [a, b] = some es) : PS X (.Assign [.Tuple [.Name x p1, .Name y p2] k1 p3] (.Tuple [a, b] k2 p4) pos) (sS X W P F ca (.par [i, j] es)) := by
  have hxy : x ≠ y := by
    rintro rfl
    rw [hi] at hj
    exact hij (Option.some.inj hj)
  have hst : ([a, b].any fun | .Starred .. => true | _ => false) = false := by
    have q : ∀ e le m, trE N G T m sc e = some le → (match e with | .Starred .. => true | _ => false) = false := fun e le m h => by
      cases m with
      | zero => simp [trE] at h
      | succ m => cases e <;> first | rfl | (simp [trE] at h; done)
    cases n with
    | zero => simp [trA] at h3
    | succ n =>
      simp only [trA] at h3
      split at h3
      case h_2 => cases h3
      rename_i l1 l2 e1 e2
      cases n with
      | zero => simp [trA] at e2
      | succ n =>
        simp only [trA] at e2
        split at e2
        case h_2 => cases e2
        rename_i l3 l4 e3 e4
        exact Bool.or_eq_false_iff.mpr ⟨q _ _ _ e1, Bool.or_eq_false_iff.mpr ⟨q _ _ _ e3, rfl⟩⟩
  have hfun : ∀ {pins s σ H}, Inv X pins σ H s → X.env.scope.kind = .function := fun I => I.ok.kind
  refine ⟨fun pins s σ H D I ⟨φ, μ, ρ, S, SF, h⟩ => ?_⟩
  refine (ps_par C.cx.calm C.cx.nd (C.cx.at hi) (C.cx.at hj) hij (lcl_at C hx) (lcl_at C hy) ((snd_all n).a C.cx h3) (swapped_two (hfun I) (lcl_at C hx) (lcl_at C hy) hxy hl h1 h2 hst)).run pins s σ H D I ?_
  simp only [evS] at h
  refine TL.imp (TLS.step (Rel := rlA X.K) S SF h) fun vs H1 ⟨φ1, ds, μ1, e, S1, r, SF1, h1⟩ => ?_
  split at h1
  case h_2 => exact h1.elim
  rename_i ρ' hs
  obtain ⟨SF2, hlen⟩ := SimF.setSt SF1 hs r
  have hl2 : vs.length = 2 := by
    rw [← r.length, ← hlen]
    rfl
  match vs, hl2 with
  | [v, w], _ => exact ⟨v, w, rfl, h1.nx' S1 SF2⟩
theorem ss_name (C : StOk X W sc N k P F ca G T) {y : Str} {py : Pos} {e : Expr} {i : Nat} {le : LE} (hc : isComp e = false) (hl : locB sc y = true) (hi : ix? N y = some i) (he : trE N G T n sc e = some le) : PS X (.Assign [.Name y py] e pos) (sS X W P F ca (.asg (.nm i) le)) := by
  have hsw : swapsWith e (some (.Name y py)) pos.line X.env = pure false := by
    cases e <;> first | rfl | (simp [isComp] at hc; done)
  refine PS_imp (ps_set C.cx.nd (C.cx.at hi) (C.cx.loc hl) ((snd_all n).e C.cx he) hsw (C.fn _ hl)) fun D σ H ⟨φ, μ, ρ, S, SF, h⟩ => ?_
  simp only [evS] at h
  refine TL.imp (TLS.step (Rel := rlV X.K) S SF h) fun v H1 ⟨φ1, d, μ1, e, S1, r, SF1, h1⟩ => ?_
  exact h1.nx' S1 (SF1.set r)
theorem ss_comp (C : StOk X W sc N k P F ca G T) {y : Str} {py : Pos} {elt tg iter : Expr} {ifs : List Expr} {scope : Scope} {cpos : Pos} {i : Nat} {le : LE} (hsb : swB sc y py scope cpos = true) (hi : ix? N y = some i) (he : trE N G T n sc (.ListComp elt [⟨tg, iter, ifs, 0⟩] scope cpos) = some le) :
    PS X (.Assign [.Name y py] (.ListComp elt [⟨tg, iter, ifs, 0⟩] scope cpos) pos) (sS X W P F ca (.asg (.nm i) le)) := by
  unfold swB at hsb
  simp only [Bool.and_eq_true, Bool.not_eq_true'] at hsb
  have hk : X.env.scope.kind = .function := by
    rw [C.cx.sc]
    have := hsb.1.1.1
    split at this
    · assumption
    · cases this
  have hy := lcl_at C (x := y) hsb.1.1.2
  obtain ⟨wi, g, tt, te, own, L, q⟩ := (snd_all n).lc C.cx he
  refine PS_imp (ps_setLc C.cx.calm C.cx.nd (C.cx.at hi) hy (sw_true hk hy hsb.1.2 hsb.2) L.hi L.ok L.hg L.ht L.he L.hs) fun D σ H ⟨φ, μ, ρ, S, SF, h⟩ => ?_
  simp only [evS] at h
  refine q _ _ _ (TL.imp (TLS.step (Rel := rlV X.K) S SF h) fun v H1 ⟨φ1, d, μ1, e, S1, r, SF1, h1⟩ => ?_)
  exact h1.nx' S1 (SF1.set r)
theorem ss_tup (C : StOk X W sc N k P F ca G T) {ts : List Expr} {k1 : Nat} {p1 : Pos} {e : Expr} {is : List Nat} {le : LE} (hc : isTupE e = false) (hi : ts.mapM (trNm N sc sc) = some is) (he : trE N G T n sc e = some le) : PS X (.Assign [.Tuple ts k1 p1] e pos) (sS X W P F ca (.asg (.tp is) le)) := by
  obtain ⟨q1, q2, q3⟩ := pgs_names (raw := sc) C.cx C.fn hi
  have hw : swappedStores [.Tuple ts k1 p1] e X.env = pure none := by
    cases e <;> first | rfl | (simp [isTupE] at hc; done)
  refine PS_imp (ps_asg ((snd_all n).e C.cx he) (pg_tup C.cx.calm q1 q2 q3) (swaps_no e (.Tuple ts k1 p1) pos.line X.env fun _ _ z => by cases z) hw rfl) fun D σ H ⟨φ, μ, ρ, S, SF, h⟩ => ?_
  simp only [evS] at h
  refine TL.imp (TLS.step (Rel := rlV X.K) S SF h) fun v H1 ⟨φ1, d, μ1, e, S1, r, SF1, h1⟩ => ?_
  unfold asgT at h1
  cases d with
  | tup ds =>
    obtain ⟨a, xs, rfl, hs, hr⟩ := r
    dsimp only at h1
    split at h1
    case h_2 => exact h1.elim
    rename_i ρ' hb
    obtain ⟨SF', hl⟩ := SimF.setSt SF1 hb hr
    exact ⟨a, xs, rfl, hs, by rw [← hr.length, hl], by rw [← hr.length, hl], h1.nx' S1 SF'⟩
  | _ => exact h1.elim
theorem ss_sub (C : StOk X W sc N k P F ca G T) {o i e : Expr} {p1 : Pos} {lo li le : LE} (ho : trE N G T n sc o = some lo) (hi : trE N G T n sc i = some li) (he : trE N G T n sc e = some le) : PS X (.Assign [.Subscript o i p1] e pos) (sS X W P F ca (.asg (.sub lo li) le)) := by
  refine ⟨fun pins s σ H D I ⟨φ, μ, ρ, S, SF, h⟩ => ?_⟩
  simp only [evS] at h
  refine wpAny_Assign_Subscript (thn (((snd_all n).e C.cx he).run pins s σ H _ I (TLS.step (Rel := rlV X.K) S SF h)) fun r s1 ⟨v, H1, I1, rv, φ1, d, μ1, e1, S1, r1, SF1, h1⟩ => ?_) (swaps_no _ _ _ _ fun _ _ z => by cases z)
  unfold asgT at h1
  have h1' : PostS X.K ca W φ1 H1 ((evE P F lo ρ μ1).toS ρ fun x μ => (evE P F li ρ μ).toS ρ fun y μ => (match x with
        | .ref j => (match μ[j]?, y with
          | some (.lst xs), .int i => (match ixN xs.length i with
            | some n => .nx ρ (μ.set j (.lst (xs.set n d)))
            | none => .no)
          | some (.dct kvs), y => (match key? y with
            | some k => if kvs.length < sizeLine then .nx ρ (μ.set j (.dct (putD kvs k d))) else .no
            | none => .no)
          | _, _ => .no)
        | _ => .no)) D := by
    dsimp only at h1
    cases e2 : evE P F lo ρ μ1 with
    | ok x m =>
      rw [e2] at h1
      dsimp only [R.toS] at h1 ⊢
      cases e3 : evE P F li ρ m with
      | ok y m2 =>
        rw [e3] at h1
        exact h1
      | exc c fs m2 =>
        rw [e3] at h1
        exact h1
      | no =>
        rw [e3] at h1
        exact h1
    | exc c fs m =>
      rw [e2] at h1
      exact h1
    | no =>
      rw [e2] at h1
      exact h1
  refine thn (((snd_all n).e C.cx ho).run pins s1 σ H1 _ I1 (TLS.step (Rel := rlV X.K) S1 SF1 h1')) fun u s2 ⟨x, H2, I2, rx, φ2, dx, μ2, e2, S2, r2, SF2, h2⟩ => ?_
  refine thn (((snd_all n).e C.cx hi).run pins s2 σ H2 _ I2 (TLS.step (Rel := rlV X.K) S2 SF2 h2)) fun iv s3 ⟨y, H3, I3, ry, φ3, dy, μ3, e3, S3, r3, SF3, h3⟩ => ?_
  have rd := RepV.evo e3 _ _ (RepV.evo e2 _ _ r1)
  have rdx := RepV.evo e3 _ _ r2
  split at h3
  case h_2 => exact h3.elim
  rename_i j
  obtain ⟨a, ha, rfl⟩ := rdx
  obtain rfl : u = Value.ref a := rx
  split at h3
  · rename_i xs z em
    split at h3
    case h_2 => exact h3.elim
    rename_i q hq
    obtain ⟨b, h1, vs, h2, h4⟩ := S3.at em
    rw [ha] at h1
    cases h1
    obtain ⟨S4, E4⟩ := S3.set (ho := .lst (vs.set q v)) (o' := .lst (xs.set q d)) ha em fun e => ⟨_, upd_same, RepVs.evo e _ _ (h4.set rd q)⟩
    exact thn (set_list pins s3 σ H3 (.ref a) y v _ iv r _ I3 rfl ry rv ⟨a, vs, z, q, rfl, r3, h2, by rw [← h4.length]; exact hq, (rfl : _ = _)⟩) fun _ s4 ⟨H4, I4, e4⟩ => ⟨σ, H4, I4, by
      subst e4
      exact h3 _ _ _ E4 S4 (SF3.evo E4)⟩
  · rename_i kvs em
    split at h3
    case h_2 => exact h3.elim
    rename_i kk hk
    split at h3
    case isFalse => exact h3.elim
    rename_i hl
    obtain ⟨b, h1, vs, h2, h4⟩ := S3.at em
    rw [ha] at h1
    cases h1
    obtain ⟨S4, E4⟩ := S3.set (ho := .dK (putK vs kk v)) (o' := .dct (putD kvs kk d)) ha em fun e => ⟨_, upd_same, RepK.evo e _ _ (repK_put h4 rd)⟩
    exact d_setItem (un1 C.cx) I3 (.inl ⟨vs, kk, h2, key_kV hk r3, by rw [← repK_length h4]; exact hl, rfl⟩) ry rv fun s4 I4 => ⟨σ, _, I4, h3 _ _ _ E4 S4 (SF3.evo E4)⟩
  · exact h3.elim
theorem ss_at (C : StOk X W sc N k P F ca G T) {o e : Expr} {f : Str} {p1 : Pos} {lo le : LE} (ho : trE N G T n sc o = some lo) (he : trE N G T n sc e = some le) : PS X (.Assign [.Attribute o f p1] e pos) (sS X W P F ca (.asg (.at lo f) le)) := by
  refine PS_imp (ps_fld ((snd_all n).e C.cx ho) ((snd_all n).e C.cx he) (swaps_no _ _ _ _ fun _ _ z => by cases z)) fun D σ H ⟨φ, μ, ρ, S, SF, h⟩ => ?_
  simp only [evS] at h
  refine TL.imp (TLS.step (Rel := rlV X.K) S SF h) fun v H1 ⟨φ1, d, μ1, e1, S1, r1, SF1, h1⟩ => ?_
  unfold asgT at h1
  have h1' : PostS X.K ca W φ1 H1 ((evE P F lo ρ μ1).toS ρ fun x μ => (match x with
      | .ref j => (match μ[j]? with
        | some (.ins c fs) => (match P.cls[c]? with
          | some k => if k.exc = false ∧ f ∈ k.fields ∧ fs.length < 900 then .nx ρ (μ.set j (.ins c (putFD fs f d))) else .no
          | none => .no)
        | _ => .no)
      | _ => .no)) D := by
    dsimp only at h1
    cases e2 : evE P F lo ρ μ1 with
    | ok x m =>
      rw [e2] at h1
      exact h1
    | exc c fs m =>
      rw [e2] at h1
      exact h1
    | no =>
      rw [e2] at h1
      exact h1
  refine TL.imp (TLS.step (Rel := rlV X.K) S1 SF1 h1') fun x H2 ⟨φ2, dx, μ2, e2, S2, r2, SF2, h2⟩ => ?_
  have rd := RepV.evo e2 _ _ r1
  split at h2
  case h_2 => exact h2.elim
  rename_i j
  split at h2
  case h_2 => exact h2.elim
  rename_i c fs em
  split at h2
  case h_2 => exact h2.elim
  rename_i kc hk
  split at h2
  case isFalse => exact h2.elim
  rename_i hc
  obtain ⟨a, ha, rfl⟩ := r2
  obtain ⟨b, h1, dx, fv, h3, h4⟩ := S2.at em
  rw [ha] at h1
  cases h1
  obtain ⟨S4, E4⟩ := S2.set (ho := .ins (ca c) dx (putF f v fv)) (o' := .ins c (putFD fs f d)) ha em fun e => ⟨_, _, upd_same, RepF.evo e _ _ (repF_put rd h4)⟩
  exact ⟨a, ca c, dx, fv, rfl, h3, C.cx.lk.kit c kc hk hc.1, C.cx.lk.fld c kc f hk hc.2.1, by
    have := repF_length h4
    have := hc.2.2
    omega, h2 _ _ _ E4 S4 (SF2.evo E4)⟩
end
end Lt

set_option Elab.async false
set_option linter.all false
set_option maxRecDepth 100000
set_option maxHeartbeats 8000000
/-! Lt19: statements by induction. -/
namespace Lt
open PySem L2 PySem.Spec
open PyProof.Rows hiding St

section
variable {N : List Str} {k : Nat} {P : Pg} {F : Nat → List D → Mu → R D} {ca : Nat → Addr} {G : GT} {T : List Ty} {X : Cx} {W : WX} {sc : Scope} {n : Nat} {pos : Pos}
theorem ss_expr (C : StOk X W sc N k P F ca G T) {e : Expr} {le : LE} (hc : isComp e = false) (he : trE N G T n sc e = some le) : PS X (.Expr e pos) (sS X W P F ca (.expr le)) := by
  have hsw : swapsWith e none pos.line X.env = pure false := by
    cases e <;> first | rfl | (simp [isComp] at hc; done)
  refine PS_imp (ps_expr ((snd_all n).e C.cx he) hsw) fun D σ H ⟨φ, μ, ρ, S, SF, h⟩ => ?_
  simp only [evS] at h
  refine TL.imp (TLS.step (Rel := rlV X.K) S SF h) fun v H1 ⟨φ1, d, μ1, e, S1, r, SF1, h1⟩ => ?_
  exact h1.nx' S1 SF1
theorem ss_ret (C : StOk X W sc N k P F ca G T) {e : Expr} {le : LE} (he : trE N G T n sc e = some le) : PS X (.Return (some e) pos) (sS X W P F ca (.ret le)) := by
  refine PS_imp (ps_ret ((snd_all n).e C.cx he)) fun D σ H ⟨φ, μ, ρ, S, SF, h⟩ => ?_
  simp only [evS] at h
  refine TL.imp (TLS.step (Rel := rlV X.K) S SF h) fun v H1 ⟨φ1, d, μ1, e, S1, r, SF1, h1⟩ => ?_
  exact h1 φ1 H1 v (Evo.refl _ _) S1 r
theorem toS_toB {r : R D} {ρ : Fr} {f : Bool → Mu → RS} : (toB r).toS ρ f = r.toS ρ fun d μ => match d with | .bl b => f b μ | _ => .no := by
  cases r with
  | ok d m => cases d <;> rfl
  | exc c fs m => rfl
  | no => rfl
theorem ss_if (C : StOk X W sc N k P F ca G T) {c : Expr} {a b : List Stmt} {lc : LE} {la lb : LB} (hc : trC N G T n sc c = some lc) (ha : PSs X a (sB X W P F ca la)) (hb : PSs X b (sB X W P F ca lb)) : PS X (.If c a b pos) (sS X W P F ca (.ite lc la lb)) := by
  refine PS_imp (ps_if ((snd_all n).c C.cx hc).1 ha hb) fun D σ H ⟨φ, μ, ρ, S, SF, h⟩ => ?_
  have h' : PostS X.K ca W φ H ((toB (evE P F lc ρ μ)).toS ρ fun b μ => if b = true then evB P F la ρ μ else evB P F lb ρ μ) D := by
    rw [toS_toB]
    simp only [evS] at h
    cases e : evE P F lc ρ μ with
    | ok d m =>
      rw [e] at h
      cases d with
      | bl b => cases b <;> exact h
      | _ => exact h
    | exc c fs m =>
      rw [e] at h
      exact h
    | no =>
      rw [e] at h
      exact h
  refine TL.imp (TLS.step (f := fun ρ μ => toB (evE P F lc ρ μ)) (Rel := rlT) S SF h') fun c H1 ⟨φ1, d, μ1, e, S1, r, SF1, h1⟩ => ?_
  obtain rfl : c = d := r
  cases c with
  | true => exact ⟨φ1, μ1, ρ, S1, SF1, h1⟩
  | false => exact ⟨φ1, μ1, ρ, S1, SF1, h1⟩
theorem ss_for (C : StOk X W sc N k P F ca G T) {tg it : Expr} {body : List Stmt} {g : LG} {li : LI} {lb : LB} (hg : trTg N sc sc tg = some g) (hi : trI N G T n sc tg it = some li) (hb : PSs X body (sB X W P F ca lb)) : PS X (.For tg it body [] pos) (sS X W P F ca (.for g li lb)) := by
  obtain ⟨q1, q2⟩ := (snd_all n).i C.cx hi
  refine PS_imp (ps_for C.po C.cx.calm q1 (snd_tg C.cx C.fn hg) hb q2) fun D σ H ⟨φ, μ, ρ, S, SF, h⟩ => ?_
  simp only [evS] at h
  refine TL.imp (TLS.step (Rel := SrcR X.K ca) S SF h) fun J H1 ⟨φ1, src, μ1, e, S1, rJ, SF1, h1⟩ => ?_
  split at h1
  case h_2 => exact h1.elim
  rename_i xs hxs
  refine ⟨fun i m σ H => ∃ φc μc ρc, Evo φ1 H1 φc H ∧ Sim X.K ca φc H μc ∧ SimF X.K φc H ρc σ ∧ PostS X.K ca W φc H (forN src (fun d ρ μ => match bindG g d ρ with
      | some ρ' => evB P F lb ρ' μ
      | none => .no) m i ρc μc) D, ⟨xs.length, φ1, μ1, ρ, Evo.refl _ _, S1, SF1, h1⟩, ?_⟩
  intro i m σc Hc ⟨φc, μc, ρc, Ec, Sc, SFc, hc⟩
  cases m with
  | zero =>
    simp only [forN] at hc
    split at hc
    · rename_i hn
      exact .inl ⟨(rJ φc Hc μc i Ec Sc).2 hn, hc.nx' Sc SFc⟩
    · exact hc.elim
  | succ m =>
    simp only [forN] at hc
    split at hc
    case h_2 => exact hc.elim
    rename_i d hn
    obtain ⟨hgo, hyld⟩ := (rJ φc Hc μc i Ec Sc).1 d hn
    refine .inr ⟨hgo, fun σ' H' => ∃ m', m' < m + 1 ∧ _, fun σ' H' hN => hN, fun x H2 hy => ?_⟩
    obtain ⟨Ey, Sy, ry⟩ := hyld x H2 hy
    have hc := PostS.from Ey hc
    cases hbg : bindG g d ρc with
    | none =>
      rw [hbg] at hc
      exact hc.elim
    | some ρ' =>
      simp only [hbg] at hc
      refine ⟨φc, μc, ρc, d, ρ', Sy, SFc.evo Ey, ry, hbg, fun σ' SF' hl ho => ⟨φc, μc, ρ', Sy, SF', ?_⟩⟩
      cases er : evB P F lb ρ' μc with
      | nx ρ2 μ2 =>
        rw [er] at hc
        exact fun φ3 H3 σ3 E3 S3 SF3 => ⟨m, Nat.lt_succ_self m, φ3, μ2, ρ2, Ec.trans (Ey.trans E3), S3, SF3, PostS.from E3 hc⟩
      | ct ρ2 μ2 =>
        rw [er] at hc
        exact fun φ3 H3 σ3 E3 S3 SF3 => ⟨m, Nat.lt_succ_self m, φ3, μ2, ρ2, Ec.trans (Ey.trans E3), S3, SF3, PostS.from E3 hc⟩
      | brk ρ2 μ2 =>
        rw [er] at hc
        exact hc
      | ret d ρ2 μ2 =>
        rw [er] at hc
        exact hc
      | exc c fs ρ2 μ2 =>
        rw [er] at hc
        exact hc
      | no =>
        rw [er] at hc
        exact hc
theorem ss_while (C : StOk X W sc N k P F ca G T) {c : Expr} {body : List Stmt} {lc : LE} {lb : LB} (hc : trC N G T n sc c = some lc) (hb : PSs X body (sB X W P F ca lb)) : PS X (.While c body [] pos) (sS X W P F ca (.while lc lb)) := by
  refine PS_imp (ps_while C.po ((snd_all n).c C.cx hc).1 hb) fun D σ H ⟨φ, μ, ρ, S, SF, h⟩ => ?_
  simp only [evS] at h
  refine ⟨fun m σ H => ∃ φc μc ρc, Sim X.K ca φc H μc ∧ SimF X.K φc H ρc σ ∧ PostS X.K ca W φc H (whileN (evE P F lc) (evB P F lb) m ρc μc) D, ⟨P.fuel, φ, μ, ρ, S, SF, h⟩, ?_⟩
  intro m σc Hc ⟨φc, μc, ρc, Sc, SFc, hw⟩
  cases m with
  | zero => exact hw.elim
  | succ m =>
    have h' : PostS X.K ca W φc Hc ((toB (evE P F lc ρc μc)).toS ρc fun b μ1 => if b = true then (match evB P F lb ρc μ1 with
      | .nx ρ' μ' => whileN (evE P F lc) (evB P F lb) m ρ' μ'
      | .ct ρ' μ' => whileN (evE P F lc) (evB P F lb) m ρ' μ'
      | .brk ρ' μ' => .nx ρ' μ'
      | .ret d ρ' μ' => .ret d ρ' μ'
      | .exc c fs ρ' μ' => .exc c fs ρ' μ'
      | .no => .no) else .nx ρc μ1) D := by
      rw [toS_toB]
      simp only [whileN] at hw
      cases e : evE P F lc ρc μc with
      | ok d m =>
        rw [e] at hw
        cases d with
        | bl b => cases b <;> exact hw
        | _ => exact hw.elim
      | exc c fs m =>
        rw [e] at hw
        exact hw
      | no =>
        rw [e] at hw
        exact hw
    refine TL.imp (TLS.step (f := fun ρ μ => toB (evE P F lc ρ μ)) (Rel := rlT) Sc SFc h') fun c H1 ⟨φ1, d, μ1, e, S1, r, SF1, h1⟩ => ?_
    obtain rfl : c = d := r
    cases c with
    | false => exact h1.nx' S1 SF1
    | true =>
      refine ⟨fun σ' H' => ∃ m', m' < m + 1 ∧ _, fun σ' H' hN => hN, φ1, μ1, ρc, S1, SF1, ?_⟩
      simp only [if_true] at h1
      cases er : evB P F lb ρc μ1 with
      | nx ρ2 μ2 =>
        rw [er] at h1
        exact fun φ3 H3 σ3 E3 S3 SF3 => ⟨m, Nat.lt_succ_self m, φ3, μ2, ρ2, S3, SF3, PostS.from E3 h1⟩
      | ct ρ2 μ2 =>
        rw [er] at h1
        exact fun φ3 H3 σ3 E3 S3 SF3 => ⟨m, Nat.lt_succ_self m, φ3, μ2, ρ2, S3, SF3, PostS.from E3 h1⟩
      | brk ρ2 μ2 =>
        rw [er] at h1
        exact h1
      | ret d ρ2 μ2 =>
        rw [er] at h1
        exact h1
      | exc c fs ρ2 μ2 =>
        rw [er] at h1
        exact h1
      | no =>
        rw [er] at h1
        exact h1
theorem ss_cons {s : Stmt} {r : List Stmt} {ls : LS} {lb : LB} (h1 : PS X s (sS X W P F ca ls)) (h2 : PSs X r (sB X W P F ca lb)) : PSs X (s :: r) (sB X W P F ca (.cons ls lb)) :=
  PSs_imp (pss_cons h1 h2) fun D σ H ⟨φ, μ, ρ, S, SF, h⟩ => by
    refine ⟨φ, μ, ρ, S, SF, ?_⟩
    simp only [evB] at h
    cases e : evS P F ls ρ μ with
    | nx ρ' μ' =>
      rw [e] at h
      exact fun φ' H' σ' e' S' SF' => ⟨φ', μ', ρ', S', SF', PostS.from e' h⟩
    | brk ρ' μ' =>
      rw [e] at h
      exact h
    | ct ρ' μ' =>
      rw [e] at h
      exact h
    | ret d ρ' μ' =>
      rw [e] at h
      exact h
    | exc c fs ρ' μ' =>
      rw [e] at h
      exact h
    | no =>
      rw [e] at h
      exact h
theorem ss_nil : PSs X [] (sB X W P F ca .nil) := PSs_imp pss_nil fun D σ H ⟨φ, μ, ρ, S, SF, h⟩ => by
  simp only [evB] at h
  exact h.nx' S SF
mutual
theorem snd_S (C : StOk X W sc N k P F ca G T) : ∀ (n : Nat) (s : Stmt) (ls : LS), trS N G T n sc s = some ls → PS X s (sS X W P F ca ls)
  | 0, s, ls, h => by simp [trS] at h
  | n + 1, s, ls, h => by
    unfold trS at h
    split at h
    · -- two names
      split at h
      case isFalse => cases h
      rename_i c
      simp only [Bool.and_eq_true, Bool.not_eq_true'] at c
      split at h
      case h_2 => cases h
      rename_i i j es hi hj hes
      split at h
      case isFalse => cases h
      rename_i hij
      cases h
      exact ss_par C c.1.1.1.1.1.1 c.1.1.1.1.1.2 hi hj (by simpa using hij) c.1.1.2 c.1.2 c.2 hes
    · rename_i y py elt gs scope cpos p
      split at h
      case isFalse => cases h
      rename_i c
      rw [Bool.and_eq_true] at c
      split at h
      case h_2 => cases h
      rename_i i e hi he
      cases h
      match gs, he with
      | [], he => cases n <;> simp [trE] at he
      | _ :: _ :: _, he => cases n <;> simp [trE] at he
      | [⟨tg, it, ifs, as⟩], he =>
        by_cases has : as = 0
        · subst has
          exact ss_comp C c.1 hi he
        · cases n <;> simp [trE, has] at he
    · split at h
      · cases h
      rename_i hc
      split at h
      case isFalse => cases h
      rename_i c
      rw [Bool.and_eq_true] at c
      split at h
      case h_2 => cases h
      rename_i i e hi he
      cases h
      exact ss_name C (by simpa using hc) c.1 hi he
    · split at h
      · cases h
      rename_i hc
      split at h
      case h_2 => cases h
      rename_i i e hi he
      cases h
      simp only [Bool.or_eq_true, not_or] at hc
      exact ss_tup C (by simpa using hc.2) hi he
    · split at h
      case h_2 => cases h
      rename_i o k e h1 h2 h3
      cases h
      exact ss_sub C h1 h2 h3
    · split at h
      case h_2 => cases h
      rename_i o e h1 h2
      cases h
      exact ss_at C h1 h2
    · split at h
      · cases h
      rename_i hc
      rw [Option.map_eq_some_iff] at h
      obtain ⟨le, h1, rfl⟩ := h
      exact ss_expr C (by simpa using hc) h1
    · rw [Option.map_eq_some_iff] at h
      obtain ⟨le, h1, rfl⟩ := h
      exact ss_ret C h1
    · cases h
      exact PS_imp ps_retN fun D σ H ⟨φ, μ, ρ, S, SF, h⟩ => by
        simp only [evS] at h
        exact h φ H .non (Evo.refl _ _) S rfl
    · split at h
      case h_2 => cases h
      rename_i c a b h1 h2 h3
      cases h
      exact ss_if C h1 (snd_B C n _ _ h2) (snd_B C n _ _ h3)
    · split at h
      case h_2 => cases h
      rename_i g it b h1 h2 h3
      cases h
      exact ss_for C h1 h2 (snd_B C n _ _ h3)
    · split at h
      case h_2 => cases h
      rename_i c b h1 h2
      cases h
      exact ss_while C h1 (snd_B C n _ _ h2)
    · cases h
      exact PS_imp ps_pass fun D σ H ⟨φ, μ, ρ, S, SF, h⟩ => by
        simp only [evS] at h
        exact h.nx' S SF
    · cases h
      exact PS_imp ps_break fun D σ H ⟨φ, μ, ρ, S, SF, h⟩ => by
        simp only [evS] at h
        exact h φ H σ (Evo.refl _ _) S SF
    · cases h
      exact PS_imp ps_continue fun D σ H ⟨φ, μ, ρ, S, SF, h⟩ => by
        simp only [evS] at h
        exact h φ H σ (Evo.refl _ _) S SF
    · cases h
theorem snd_B (C : StOk X W sc N k P F ca G T) : ∀ (n : Nat) (s : List Stmt) (lb : LB), trL N G T n sc s = some lb → PSs X s (sB X W P F ca lb)
  | 0, s, ls, h => by simp [trL] at h
  | n + 1, [], ls, h => by
    simp only [trL, Option.some.injEq] at h
    subst h
    exact ss_nil
  | n + 1, s :: r, ls, h => by
    simp only [trL] at h
    split at h
    case h_2 => cases h
    rename_i l1 l2 h1 h2
    cases h
    exact ss_cons (snd_S C n _ _ h1) (snd_B C n _ _ h2)
end
end
end Lt

set_option Elab.async false
set_option linter.all false
set_option maxRecDepth 100000
set_option maxHeartbeats 8000000
/-! Lt20: defs, at any depth. -/
namespace Lt
open PySem L2 PySem.Spec
open PyProof.Rows hiding St

/-- a def's run -/
def runB (P : Pg) (F : Nat → List D → Mu → R D) (g : LFn) (ds : List D) (μ : Mu) : R D :=
  if ds.length = g.np then (match evB P F g.body (ds.map some ++ List.replicate (g.ns - g.np) none) μ with
    | .nx _ μ => .ok .non μ
    | .ret d _ μ => .ok d μ
    | .exc c fs _ μ => .exc c fs μ
    | _ => .no) else .no
theorem call_eq {P : Pg} {n f : Nat} {g : LFn} (h : P.fns[f]? = some g) : call P (n + 1) f = runB P (call P n) g := by
  funext ds μ
  simp only [call, h, runB]
  try rfl

section
variable {prog : Program} {w : World} {K : PySem.W.Frag} {mg : Str → Option Value} {base : Heap} {k : Nat} {P : Pg} {F : Nat → List D → Mu → R D} {ca : Nat → Addr} {G : GT} {T : List Ty}
/-- a def of the text, linked -/
structure FnL (prog : Program) (w : World) (K : PySem.W.Frag) (G : GT) (T : List Ty) (fa : Addr) (fd : FuncData) (ps : List Str) (g : LFn) : Prop where
  ex : ∃ (name qual : Str) (params : Arguments) (body : List Stmt) (scope : Scope) (dV kV doc pm cdv ct oc : Value) (an od : Option Addr) (osl : Array (Option Value)) (N : List Str) (m : Nat),
    K.lookup fa = some ⟨oc, od, .func (PySem.W.fnOf name qual params body scope dV kV doc pm an cdv ct), osl⟩ ∧ fd = PySem.W.fnOf name qual params body scope dV kV doc pm an cdv ct ∧ PySem.W.codeIn K cdv qual = true ∧ FnScope N ps scope ∧ trL N G T m scope body = some g.body ∧ g.np = ps.length ∧ g.ns = N.length
  binds : Binds K fd ps []
theorem simF_start {K : PySem.W.Frag} {φ : List Addr} {H : Hp} {N : List Str} {ds : List D} {vs : List V} {np ns : Nat} (h : RepVs K φ H ds vs) (h1 : ds.length = np) (h2 : ns = N.length) : SimF K φ H (ds.map some ++ List.replicate (ns - np) none) (start N vs) := by
  have hl := h.length
  refine ⟨?_, fun i d q => ?_⟩
  · unfold L2.start
    simp only [List.length_append, List.length_map, List.length_replicate]
    omega
  · unfold L2.start
    by_cases hi : i < ds.length
    · rw [List.getElem?_append_left (by simpa using hi)] at q
      rw [List.getElem?_append_left (by simpa [← hl] using hi)]
      rw [List.getElem?_map, Option.map_eq_some_iff] at q
      obtain ⟨d', q1, q2⟩ := q
      cases q2
      obtain ⟨v, r1, r2⟩ := h.get q1
      exact ⟨v, by rw [List.getElem?_map, r1]; rfl, r2⟩
    · rw [List.getElem?_append_right (by simpa using hi)] at q
      rw [List.getElem?_replicate] at q
      split at q <;> cases q
theorem fnG_run {fa : Addr} {fd : FuncData} {ps : List Str} {g : LFn} (lk : Lk prog w K mg base k P F ca G T) (L : FnL prog w K G T fa fd ps g) : FnG prog w K mg base (k + 2) fa fd ps (spL K ca (runB P F g) ps.length) := by
  obtain ⟨name, qual, params, body, scope, dV, kV, doc, pm, cdv, ct, oc, an, od, osl, N, m, e1, e2, e3, S, e4, e5, e6⟩ := L.ex
  subst e2
  refine fnG_of e1 e3 S (fun vs H Q E h => h.1) fun A outer s H vs Q E hr hgd hsp => ?_
  obtain ⟨hl, φ, μ, ds, Sm, rs, h⟩ := hsp
  have C : StOk (cxOf (L2.CX prog w) prog w K mg base N qual scope fa cdv A outer s H E) (fun cls d _ H => E cls d H) scope N k P F ca G T := {
    cx := {
      lk := lk
      n := rfl
      nd := S.nd
      sc := rfl
      calm := rfl
      hr := hr
      hg := by
        show (A.deeper (envOfC qual scope s.heap.objs.size fa cdv)).guards = some []
        exact hgd
      tk := takes_of (E₁ := fun e' s'' => L2.CX prog w outer H s E e' s'') rfl rfl rfl rfl }
    fn := fun x _ => .inl rfl
    po := passes_of (K := fun e s'' => L2.CX prog w outer H s E e s'') (E₁ := fun e' s'' => L2.CX prog w outer H s E e' s'') rfl }
  refine ⟨_, snd_B C m body g.body e4, φ, μ, ds.map some ++ List.replicate (g.ns - g.np) none, Sm, simF_start rs (by rw [rs.length, hl, e5]) e6, ?_⟩
  unfold runB at h
  rw [if_pos (by rw [rs.length, hl, e5])] at h
  cases er : evB P F g.body (ds.map some ++ List.replicate (g.ns - g.np) none) μ with
  | nx ρ' μ' =>
    rw [er] at h
    exact fun φ' H' σ' e' S' SF' => h φ' H' .non e' S' rfl
  | brk ρ' μ' =>
    rw [er] at h
    exact h.elim
  | ct ρ' μ' =>
    rw [er] at h
    exact h.elim
  | ret d ρ' μ' =>
    rw [er] at h
    exact h
  | exc c fs ρ' μ' =>
    rw [er] at h
    exact fun φ' H' cls dd σ' e' S' SF' r => h φ' H' cls dd e' S' r
  | no =>
    rw [er] at h
    exact h.elim

/-- the text, linked -/
structure Link (prog : Program) (w : World) (K : PySem.W.Frag) (mg : Str → Option Value) (base : Heap) (P : Pg) (ca : Nat → Addr) (G : GT) (T : List Ty) (fa : Nat → Addr) (fd : Nat → FuncData) (pn : Nat → List Str) : Prop where
  sys : ∃ o es ep, base.get? sysModules = some o ∧ o.data = .dict es ep
  blt : ∀ x ∈ bltNames, mg x = none
  isi : IsiK K P ca T
  cst : ∀ x d, G.lookup x = some (.cst d) → ∃ u v, mg x = some u ∧ RelV v u ∧ ∀ φ H, RepV K φ H d v
  fns : ∀ f g, P.fns[f]? = some g → FnL prog w K G T (fa f) (fd f) (pn f) g
  fn : ∀ x f ps, G.lookup x = some (.fn f ps) → mg x = some (.ref (fa f)) ∧ PySem.W.keepIn K (.ref (fa f)) = true
  cls : ∀ x c ps kn, G.lookup x = some (.cls c ps kn) → mg x = some (.ref (ca c)) ∧ PySem.W.keepIn K (.ref (ca c)) = true
  mkI : ∀ c kc, P.cls[c]? = some kc → kc.exc = false → ∀ fi, kc.init = some fi → Mk K (ca c) (fa fi) ∧ ∃ p0 ps, pn fi = p0 :: ps
  mkE : ∀ k F c kc, P.cls[c]? = some kc → kc.exc = true → CalD prog w K mg base k ca (.ref (ca c)) (mkD P F c)
  mkK : ∀ k F x c a, G.lookup x = some (.cls c [a] true) → CalK prog w K mg base k ca (.ref (ca c)) a (mkD P F c)
  kit : ∀ c kc, P.cls[c]? = some kc → kc.exc = false → Cls K (ca c)
  fld : ∀ c kc f, P.cls[c]? = some kc → f ∈ kc.fields → NoAttr K (ca c) f
  prop : ∀ c kc f p, P.cls[c]? = some kc → kc.exc = false → kc.props.lookup f = some p → (pn p).length = 1 ∧ p < P.fns.length ∧ ∃ pa, PropOf K (ca c) f pa (fa p)
  meth : ∀ c kc m f, P.cls[c]? = some kc → kc.exc = false → kc.meths.lookup m = some f → Meth K (ca c) m (fa f)
theorem calD_no {prog : Program} {w : World} {f : Value} {g : List D → Mu → R D} (h : ∀ ds μ, g ds μ = .no) : CalD prog w K mg base k ca f g := by
  intro X W e1 e2 e3 e4 e5 hc hr hgd tk pins s σ H xs us Q I r ⟨φ, μ, ds, S, rs, q⟩
  rw [h] at q
  exact q.elim
theorem call_none {P : Pg} {n f : Nat} (h : P.fns[f]? = none) (ds : List D) (μ : Mu) : call P n f ds μ = .no := by
  cases n with
  | zero => rfl
  | succ n => simp only [call, h]
theorem call_len {P : Pg} {n f : Nat} {g : LFn} (h : P.fns[f]? = some g) {ds : List D} {μ : Mu} (hl : ds.length ≠ g.np) : call P n f ds μ = .no := by
  cases n with
  | zero => rfl
  | succ n =>
    rw [call_eq h]
    unfold runB
    rw [if_neg hl]
theorem lk_of {fa : Nat → Addr} {fd : Nat → FuncData} {pn : Nat → List Str} (L : Link prog w K mg base P ca G T fa fd pn) {n k : Nat} (hF : ∀ f g, P.fns[f]? = some g → FnG prog w K mg base k (fa f) (fd f) (pn f) (spL K ca (call P n f) (pn f).length)) :
    Lk prog w K mg base k P (call P n) ca G T := by
  have np : ∀ f g, P.fns[f]? = some g → g.np = (pn f).length := fun f g h => by
    obtain ⟨_, _, _, _, _, _, _, _, _, _, _, _, _, _, _, _, _, _, _, _, _, _, z, _⟩ := (L.fns f g h).ex
    exact z
  have cd : ∀ f, CalD prog w K mg base k ca (.ref (fa f)) (call P n f) := fun f => by
    cases h : P.fns[f]? with
    | none => exact calD_no (call_none h)
    | some g => exact calD_fn (hF f g h) (L.fns f g h).binds fun ds μ hl => call_len h (by rw [np f g h]; exact hl)
  exact {
    sys := L.sys
    blt := L.blt
    isi := L.isi
    cst := L.cst
    fn := fun x f ps h => ⟨fa f, (L.fn x f ps h).1, (L.fn x f ps h).2, cd f⟩
    cls := L.cls
    mkk := fun x c a h => L.mkK k (call P n) x c a h
    mkc := fun x c ps kn h => by
      cases hk : P.cls[c]? with
      | none => exact calD_no fun ds μ => by unfold mkD; rw [hk]
      | some kc =>
        cases hx : kc.exc with
        | true => exact L.mkE k (call P n) c kc hk hx
        | false =>
          cases hi : kc.init with
          | none => exact calD_no fun ds μ => by unfold mkD; rw [hk]; simp [hx, hi]
          | some fi =>
            obtain ⟨M, p0, ps, hp⟩ := L.mkI c kc hk hx fi hi
            cases hg : P.fns[fi]? with
            | none => exact calD_no fun ds μ => by unfold mkD; rw [hk]; simp [hx, hi, call_none hg, R.bind]
            | some g =>
              have h1 := hF fi g hg
              have h2 := (L.fns fi g hg).binds
              have h3 := np fi g hg
              rw [hp] at h1 h2 h3
              exact calD_make hk hx hi M h1 h2 fun ds μ hl => call_len hg (by rw [h3]; simpa using hl)
    kit := L.kit
    fld := L.fld
    prop := fun c kc f p hk hx hp => by
      obtain ⟨h1, h2, pa, h3⟩ := L.prop c kc f p hk hx hp
      have hg : P.fns[p]? = some P.fns[p] := List.getElem?_eq_getElem h2
      have h4 := hF p _ hg
      rw [h1] at h4
      exact ⟨pa, fa p, fd p, pn p, h3, (L.fns p _ hg).binds, h1, h4⟩
    meth := fun c kc m f hk hx hm => ⟨fa f, L.meth c kc m f hk hx hm, cd f⟩ }
/-- every def, at any depth -/
theorem fnG_all {fa : Nat → Addr} {fd : Nat → FuncData} {pn : Nat → List Str} (L : Link prog w K mg base P ca G T fa fd pn) : ∀ (n f : Nat) (g : LFn), P.fns[f]? = some g → FnG prog w K mg base (2 * n) (fa f) (fd f) (pn f) (spL K ca (call P n f) (pn f).length)
  | 0, f, g, h => ⟨fun vs H Q E q => q.1, fun A outer s H args us vs Q E _ _ _ _ _ ⟨_, φ, μ, ds, _, _, q⟩ => q.elim⟩
  | n + 1, f, g, h => by
    rw [call_eq h]
    exact fnG_run (lk_of L (fnG_all L n)) (L.fns f g h)
end
end Lt

set_option Elab.async false
set_option linter.all false
set_option maxRecDepth 100000
set_option maxHeartbeats 8000000
/-! Lt21: an own exception whose __init__ says super().__init__('..') and keeps one field. -/
namespace Lt
open PySem L2 PySem.Spec
open PyProof.Rows hiding St
open PySem.W (Frag clsIn findIn subIn typeIn nsIn codeIn)

structure ExcI (prog : Program) (K : Frag) (C fI : Addr) (a f : Str) (fd : FuncData) : Prop where
  T : OexC K C
  iC : findIn K (.ref C) "__init__" = some (some (.ref fI))
  tI : typeIn K (.ref fI) = some (.type "function")
  lk : ∃ oc od osl, K.lookup fI = some ⟨oc, od, .func fd, osl⟩
  body : ∃ (p0 p1 p2 p3 p4 p5 p6 p7 p8 p9 : Pos) (j : Nat) (msg : Str), fd.body = .stmts [.Expr (.Call (.Attribute (.Call (.Name "super" p0) [] [] p1) "__init__" p2) [.Constant (.str msg) j p3] [] p4) p5, .Assign [.Attribute (.Name "self" p6) f p7] (.Name a p8) p9] ∧ (p2.endLine == p4.line) = true
  code : codeIn K fd.code fd.qualname = true
  ns : fd.scope.names.lookup ("self" : Str) = some .local ∧ fd.scope.names.lookup a = some .local ∧ fd.scope.names.lookup ("super" : Str) = some .globalImplicit ∧ fd.scope.names.lookup ("__class__" : Str) = some .free ∧ ∀ x ∈ fd.scope.names, x.2 ≠ .cell
  sc : fd.scope.isCoroutine = false ∧ fd.scope.isGenerator = false ∧ fd.scope.kind = .function
  bind : ∀ (s : Shared) (u v : Value), BindsTo s fd ⟨[u, v], []⟩ [("self", u), (a, v)]
  bindK : ∀ (s : Shared) (u v : Value), BindsTo s fd ⟨[u], [(a, v)]⟩ [("self", u), (a, v)]
  glb : fd.globals = mainGlobals ∧ fd.builtins = builtinsNs
  par : ∃ ar, (fd.params.posonlyargs ++ fd.params.args).head? = some ar ∧ ar.arg = "self"
  clo : ∃ cc cl cld csl, fd.closure.lookup ("__class__" : Str) = some cc ∧ K.lookup cc = some ⟨cl, cld, .cell (some (.ref C)), csl⟩
  cdo : ∃ cda ccl cdd vs ccs file tf, fd.code = .ref cda ∧ K.lookup cda = some ⟨ccl, cdd, .fields vs, ccs⟩ ∧ vs[2]? = some (.str file tf) ∧ ((prog.main.file : Str) == file) = true
  top : (prog.main.scope.names.lookup ("super" : Str)).isSome = false
  op : nsIn K cStatics "thirdparty.any" = some none
  mro : PySem.W.mroIn K C (.ref C) = some true
  sup : PySem.W.ks_superIn K C C "__init__" = some (some (.builtin "ValueError.__init__"))
  hB : subIn K (.ref C) (.type "ValueError") = some true
  an : a ≠ "self" ∧ (a == ("__debug__" : Str)) = false
  fno : findIn K (.ref C) f = some none

section
variable {prog : Program} {w : World} {A : Around} {h : Heap} {g : Array GenState} {d : Drawn} {t : Nat} {os : OsState} {K : Frag} {mg : Str → Option Value} {base : Heap}
/-- the exception's object, as it is made -/
abbrev exO' (C t0 : Addr) (dd : Option Addr) : Obj := { cls := .ref C, dict := dd, data := .fields #[.ref t0, .none, .none, .none, .bool false, .none] }
variable {E : Value → Shared → Prop}
open PySem.ESX in
theorem call_mw {nm q : Str} {C N : Addr} {bs bm : List Value} {hdct : Bool} {sn : List Str} {sub : List Value} {ab : Bool} {col : Option Bool} {dd : Option Addr} {k0 k1 k2 k3 k5 : Option Value} {u e t0 : Addr} {rest : List Value} {Q : Value → Shared → Prop}
    (hC : h.get? C = some (excClassObj nm q C N bs bm hdct sn sub ab col dd k0 k1 k2 k3 k5 "ValueError.__new__")) (he : h.get? e = some (HandSPX.excO C t0)) (hu : h.get? u = some (PySem.W.kxs_mw "ValueError.__init__" e)) (hrest : rest.length ≤ sizeLine)
    (hq : ∀ h' t1, (∀ b o, b ≠ e → h.get? b = some o → h'.get? b = some o) → h'.get? e = some (HandSPX.excO C t1) → Q .none ⟨h', g, d, t, os⟩) :
    wpAny (model prog w) A (PySem.call (.ref u) rest) Q E ⟨h, g, d, t, os⟩ := by
  refine wpAny_call (codeAny_of_tree ?_)
  show wpAny _ A.in1 (callAny (.ref u) ⟨rest, []⟩) _ _ _
  simp only [callAny]
  refine wpAny_bind (wpAny_load hu ?_)
  simp only [PySem.W.kxs_mw, show (Value.type "method-wrapper" == Value.type "method" || Value.type "method-wrapper" == Value.type "builtin_function_or_method" || Value.type "method-wrapper" == Value.type "method-wrapper") = true by decide, if_true]
  refine W.KFB.if_so (by decide) ?_
  refine wpAny_bind (check_bound F.excBase_ValueError hC he rfl ?_)
  refine wpAny_bind (wpAny_pure (wpAny_pure ?_))
  refine ⟨Code.quiet_builtin _ (by decide +kernel), codeAny_builtin F.excBase_ValueError.initEntry ?_⟩
  rw [Around.under_plainId F.excBase_ValueError.init.plain _]
  wp_walk
  refine hq _ h.objs.size (fun b o hb ho => ?_) ?_
  · rw [Heap.get?_update_other _ _ (Ne.symm hb)]
    exact Heap.get?_push_of_some _ ho
  · rw [Heap.get?_update_self _ (Heap.get?_push_of_some _ he) rfl]
    rfl

theorem methcall_form {o : Expr} {m : Str} {apos pos : Pos} {env : Env} {ov : Value} {n : Nat} {as : List (Bool × Sem Value)} {ks : List (Option Str × Sem Value)} (hl : (apos.endLine == pos.line) = true) (hf : methodCallForm n as ks = true) :
    methodCall o m apos pos env ov n as ks = (do
      let (f, first) ← holding [ov] (getMethod ov m (do return (← importBound o env).getD true))
      callWith pos f first as ks) := by
  unfold methodCall
  rw [hf]
  unfold calleeOf methodCallPos
  rw [if_pos rfl]
  refine congrArg (bind _) (funext fun x => ?_)
  obtain ⟨f, first⟩ := x
  simp only [hl, Bool.not_true, Bool.false_or, if_true]
  rfl
theorem init_raw {C fI : Addr} {a f : Str} {fd : FuncData} (Z : ExcI prog K C fI a f fd) {e t0 : Addr} {u v : Value} {args : Args} {R : Result → Shared → Prop} (hdep : A.depth < recursionLimit)
    (X : K.In h) (hlim : h.NoLimit) (hg : h.Ns mainGlobals mg) (hms : mg "super" = none) {mb : Str → Option Value} (hb : h.Ns builtinsNs mb) (hbs : mb "super" = some (.type "super"))
    (he : h.get? e = some (HandSPX.excO C t0)) (hek : ∀ o, K.lookup e ≠ some o) (ha : args = ⟨[.ref e, v], []⟩ ∨ args = ⟨[.ref e], [(a, v)]⟩)
    (hq : ∀ h2 t' t1 dx, (∀ b o, b ≠ e → h.get? b = some o → h2.get? b = some o) → h2.get? e = some (exO' C t1 (some dx)) → h.get? dx = none → dx ≠ e → h2.Ns1 dx (fun y => if y = f then some v else none) → R (.ok (.ret .none)) ⟨h2, g, d, t', os⟩) :
    codeAny (model prog w) A (.call (.ref fI) args) R ⟨h, g, d, t, os⟩ := by
  obtain ⟨oc, od, osl, lk⟩ := Z.lk
  obtain ⟨p0, p1, p2, p3, p4, p5, p6, p7, p8, p9, j, msg, hbody, hline⟩ := Z.body
  obtain ⟨n1, n2, n3, n4, n5⟩ := Z.ns
  obtain ⟨s1, s2, s3⟩ := Z.sc
  obtain ⟨ar, hp1, hp2⟩ := Z.par
  obtain ⟨cc, cl, cld, csl, hcc, hcell⟩ := Z.clo
  obtain ⟨cda, ccl, cdd, vs, ccs, file, tf, hcode, hcda, hvs, hfile⟩ := Z.cdo
  obtain ⟨nm, q, N, bs, bm, sn, sub, ab, col, dd, k0, k1, k2, k3, k5, hC, hbm⟩ := Z.T.cls
  have hcl : clsIn K C = some { name := nm, bases := bs, mro := .ref C :: bm, ns := N, qualname := q, hasDict := true, slotNames := sn, subclasses := sub, abstract := ab, collection := col, hasDel := false } := by
    unfold PySem.W.clsIn
    rw [hC] <;> rfl
  have hbind : BindsTo (⟨h, g, d, t, os⟩ : Shared) fd args [("self", .ref e), (a, v)] := by
    rcases ha with rfl | rfl
    · exact Z.bind _ _ _
    · exact Z.bindK _ _ _
  refine ks_codeAny_call_defAt hdep (X _ _ lk) rfl hlim (PySem.W.codeRec_of X Z.code) hbody hbind n5 (fun y hy => ?_) (fun h1 hns hk => ?_) s1 s2 s3
  · simp only [List.mem_cons, List.not_mem_nil, or_false] at hy
    rcases hy with rfl | rfl
    · exact n1
    · exact n2
  have X1 : K.In h1 := X.keeps hk
  have he1 := hk _ _ he
  have hva : (fun x => ([((("self" : Str)), Value.ref e), (a, v)] : List (Str × Value)).reverse.lookup x) a = some v := by
    show List.lookup a [(a, v), (("self" : Str), Value.ref e)] = some v
    rw [List.lookup_cons, beq_self_eq_true]
  have hvs' : (fun x => ([((("self" : Str)), Value.ref e), (a, v)] : List (Str × Value)).reverse.lookup x) "self" = some (.ref e) := by
    show List.lookup ("self" : Str) [(a, v), (("self" : Str), Value.ref e)] = some (.ref e)
    rw [List.lookup_cons]
    have : ((("self" : Str)) == a) = false := by
      rw [beq_eq_false_iff_ne]
      exact Ne.symm Z.an.1
    rw [this, List.lookup_cons, beq_self_eq_true]
  generalize henv : callEnv fd h.objs.size fI = env at *
  have ek : env.scope.kind = .function := by subst henv; exact s3
  have esc : env.scope = fd.scope := by subst henv; rfl
  have eloc : env.locals = h.objs.size := by subst henv; rfl
  have hkn : ∀ x : Str, env.kindOf x = fd.scope.names.lookup x := fun x => by subst henv; rfl
  have gen : ∀ {hA : Heap} {tA : Tok} {Q : Flow → Shared → Prop} {E : Value → Shared → Prop}, (∀ b o, h1.get? b = some o → hA.get? b = some o) → (∀ h3 t' t1, (∀ b o, b ≠ e → hA.get? b = some o → h3.get? b = some o) → h3.get? e = some (HandSPX.excO C t1) → Q .next ⟨h3, g, d, t', os⟩) →
      _root_.PySem.wpAt (model prog w) (A.deeper env) (.func [.Expr (.Call (.Attribute (.Call (.Name "super" p0) [] [] p1) "__init__" p2) [.Constant (.str msg) j p3] [] p4) p5, .Assign [.Attribute (.Name "self" p6) f p7] (.Name a p8) p9] env) (exec (.Expr (.Call (.Attribute (.Call (.Name "super" p0) [] [] p1) "__init__" p2) [.Constant (.str msg) j p3] [] p4) p5) env) Q E ⟨hA, g, d, tA, os⟩ := by
    intro hA tA Q E kA hQ
    have XA : K.In hA := X1.keeps kA
    have kA' : ∀ b o, h.get? b = some o → hA.get? b = some o := fun b o q => kA b o (hk b o q)
    refine ks_wpAt_Expr_any ?_ (by unfold interactive; rw [ek]; rfl) rfl
    show _root_.PySem.wpAt _ _ _ (do
      let ov ← attributeBase (.Call (.Name "super" p0) [] [] p1) "__init__" env (eval (.Call (.Name "super" p0) [] [] p1) env)
      standAt p2.atName
      methodCall (.Call (.Name "super" p0) [] [] p1) "__init__" p2 p4 env ov 1 (backTo p4 (starEach [.Constant (.str msg) j p3] env)) (backToKw p4 (keywordEach [] env))) _ _ _
    have hI : W.InstAt hA e (HandSPX.excO C t0) C none := ⟨kA' _ _ he, rfl, rfl, trivial⟩
    refine _root_.PySem.wpAt_bind (ks_wpAt_super_base (env := env) (by rw [hkn]; exact n3) (by rw [hkn]; exact n4) rfl (by subst henv; rfl) (XA _ _ lk) rfl hp1 (by subst henv; exact hcode) (XA _ _ hcda) rfl hvs hfile Z.top ?_)
    refine PySem.W.ks_loadName_global ek (by rw [hkn]; exact n3) (Calls.loadGlobal_builtin (mg := mg) (mb := mb) (by subst henv; show hA.Ns fd.globals mg; rw [Z.glb.1]; exact hg.keeps kA') hms (by subst henv; show hA.Ns fd.builtins mb; rw [Z.glb.2]; exact hb.keeps kA') hbs ⟨rfl, ?_⟩)
    refine wpAny_loadName_free ek (by rw [hkn]; exact n4) (c := cc) (v := .ref C) (by subst henv; exact hcc) ⟨_, XA _ _ hcell, rfl⟩ ?_
    refine wpAny_loadName_local ek (by rw [hkn, hp2]; exact n1) (by rw [eloc]; exact hns.keeps kA) (by rw [hp2]; exact hvs') ?_
    refine ks_wpAny_isType_cls (XA _ _ hC) rfl ⟨rfl, ?_⟩
    refine ks_wpAny_call_super (XA _ _ hC) rfl (kA' _ _ he) rfl (fun c q => by cases q) (PySem.W.looks_mroIn XA Z.mro) (fun h4 hso k4 => ?_)
    · refine _root_.PySem.wpAt_of_wpAny (wpAny_bind (wpAny_standAt ?_))
      rw [methcall_form hline rfl]
      have X4 : K.In h4 := XA.keeps k4
      have I4 : W.InstAt h4 e (HandSPX.excO C t0) C none := ⟨k4 _ _ (kA' _ _ he), rfl, rfl, trivial⟩
      have hsup := Z.sup
      unfold PySem.W.ks_superIn at hsup
      rw [hcl] at hsup
      refine wpAny_bind (wpAny_holding (PySem.W.kxs_getMethod PySem.W.kxs_ValueError (x := e) (C := C) (D := C) hso (PySem.W.looks_opaque X4 Z.op) (l₀ := .ref C :: bm) (fun A Q E s k q => wpAny_bind ((PySem.W.looks_clsIn X4 hcl) A _ E s k (wpAny_pure q))) rfl X4 hsup (I4.type.andThen (PySem.W.looks_subIn X4 Z.hB)) (PySem.W.ks_ne X4 I4 hcl) (by decide) ?_))
      have up : ∀ b o, h4.get? b = some o → (h4.push (PySem.W.kxs_mw "ValueError.__init__" e)).get? b = some o := fun b o q => Heap.get?_push_of_some _ q
      have hu : (h4.push (PySem.W.kxs_mw "ValueError.__init__" e)).get? h4.objs.size = some (PySem.W.kxs_mw "ValueError.__init__" e) := Heap.get?_push_at rfl rfl
      show wpAny _ _ (callWith p4 (.ref h4.objs.size) [] [(false, eval (.Constant (.str msg) j p3) env)] []) _ _ _
      refine PySem.W.kxs_callWith (i := "ValueError.__init__") (x := e) rfl (Calls.evalArgs_plain (Calls.spliced_cons (Calls.Constant_str (Calls.spliced_nil ⟨hu, ?_⟩))))
      refine call_mw (X4.keeps up _ _ hC) (up _ _ I4.at_) hu (show 1 ≤ sizeLine by decide) fun h' t1' kk ee => ?_
      exact hQ h' _ t1' (fun b o hb q => kk b o hb (up _ _ (k4 _ _ q))) ee
  refine ks_wpAt_execs_cons (gen (fun _ _ q => q) fun h3 t3 t1 k3' e3 => ?_)
  have k3 : ∀ b o, b ≠ e → h.get? b = some o → h3.get? b = some o := fun b o hb q => k3' b o hb (hk b o q)
  have X3 : K.In h3 := fun b o q => k3 b o (fun z => hek o (by rw [← z]; exact q)) (X b o q)
  have hLe : h.objs.size ≠ e := fun z => Nat.lt_irrefl _ (by
    have q := Heap.lt_size he
    rw [← z] at q
    exact q)
  have hns3 : h3.Ns env.locals (fun x => ([((("self" : Str)), Value.ref e), (a, v)] : List (Str × Value)).reverse.lookup x) := by
    rw [eloc]
    obtain ⟨oL, es, ep, q1, q2⟩ := hns
    exact ⟨oL, es, ep, k3' _ _ hLe q1, q2⟩
  refine _root_.PySem.wpAt_of_wpAny ?_
  refine wpAny_execs_cons (plainObj_wpAny_Assign_Attribute (ESX.ldL hns3 hva (ESX.ldL hns3 hvs' ?_ ek (by rw [hkn]; exact n1)) ek (by rw [hkn]; exact n2) Z.an.2) rfl)
  refine PySem.W.set_plain X3 (ox := exO' C t1 none) (od := none) ⟨e3, rfl, rfl, trivial⟩ Z.T.sa ?_
  refine PySem.HandSPX.exc_osa X3 e3 hcl (show PySem.HandSPX.refsVE (.ref C :: bm) = true from hbm) rfl Z.fno (fun h' tk' dx k dn dne hx hn => ?_)
  show wpAny _ _ (execs [] env) _ _ _
  refine wpAny_execs_nil ?_
  refine hq h' tk' t1 dx (fun b o hb q => k b o hb (k3 b o hb q)) hx ?_ dne hn
  cases q : h.get? dx with
  | none => rfl
  | some o =>
    have := Heap.lt_size (k3 dx o dne q)
    exact absurd this (Nat.not_lt.mpr dn)
end
end Lt

set_option Elab.async false
set_option linter.all false
set_option maxRecDepth 100000
set_option maxHeartbeats 8000000
/-! Lt22: an own exception is made, its field named or not. -/
namespace Lt
open PySem L2 PySem.Spec PySem.HandSPX
open PyProof.Rows hiding St

section
variable {prog : Program} {w : World} {M : Model} {A : Around} {E : Value → Shared → Prop} {R : Result → Shared → Prop} {h : Heap} {g : Array GenState} {d : Drawn} {t : Nat} {os : OsState}
variable {nm q : Str} {C N : Addr} {bs bm bmB : List Value} {hdct : Bool} {sn : List Str} {sub : List Value} {ab : Bool} {col : Option Bool} {dd : Option Addr} {k0 k1 k2 k3 k5 : Option Value} {B newId initId : String} {rest : List Value} {kw : List (Str × Value)}
theorem check_newK (F : ExcBaseFacts B newId initId bmB) (hT : ∀ X : String, bm.contains (.type X) = bmB.contains (.type X)) {Q : Unit → Shared → Prop}
    (hC : h.get? C = some (excClassObj nm q C N bs bm hdct sn sub ab col dd k0 k1 k2 k3 k5 newId)) (hq : Q () ⟨h, g, d, t, os⟩) : wpAny M A (checkBuiltinCall newId ⟨.ref C :: rest, kw⟩) Q E ⟨h, g, d, t, os⟩ := by
  have hcont : (Value.ref C :: bm).contains (.type B) = true := by rw [List.contains_cons, hT, F.hasB, Bool.or_true]
  have hstar := F.noStar
  simp only [checkBuiltinCall, F.newKind, F.newSplit, F.newRow]
  repeat (first | refine wpAny_loadPart_at hC ?_ | (refine wpAny_isSubtype_exc hC ?_; rw [hcont]) | refine wpAny_staticBase_exc hC ?_ | refine wpAny_madeBy_exc hC ?_ | simp only [bne_self_eq_false, Bool.false_eq_true, if_false] | wp_step)
  exact hq
theorem new_ownK (F : ExcBaseFacts B newId initId bmB) (hT : ∀ X : String, bm.contains (.type X) = bmB.contains (.type X))
    (hC : h.get? C = some (excClassObj nm q C N bs bm hdct sn sub ab col dd k0 k1 k2 k3 k5 newId))
    (hq : R (.ok (.ret (.ref (h.objs.size + 1)))) ⟨(h.push { cls := .type "tuple", data := .seq rest.toArray }).push
      { cls := .ref C, data := .fields #[.ref h.objs.size, .none, .none, .none, .bool false, .none] }, g, d, t, os⟩) (hrest : rest.length ≤ sizeLine) :
    codeAny (model prog w) A (.builtin newId ⟨.ref C :: rest, kw⟩) R ⟨h, g, d, t, os⟩ := by
  have hends := F.ends
  have hcB : (Value.ref C :: bm).contains (.type B) = true := by rw [List.contains_cons, hT, F.hasB, Bool.or_true]
  have hcA : (Value.ref C :: bm).contains (.type "AttributeError") = false := by rw [List.contains_cons, hT, F.noAttr]; rfl
  have hcN : (Value.ref C :: bm).contains (.type "NameError") = false := by rw [List.contains_cons, hT, F.noName]; rfl
  refine codeAny_builtinAt F.entry ?_
  unfold Builtin.«BaseException.__new__»
  refine _root_.PySem.wpAt_bind ?_
  show _root_.PySem.wpAt _ _ _ (stack >>= _) _ _ _
  refine _root_.PySem.wpAt_bind (_root_.PySem.wpAt_stack fun p below => _root_.PySem.wpAt_of_wpAny ?_)
  wp_walk
  refine _root_.PySem.wpAt_of_wpAny ?_
  rw [F.owner]
  repeat (first | with_reducible refine wpAny_madeHere_exc F.canon hC ?_ | with_reducible refine wpAny_loadPart_at hC ?_ | (with_reducible refine wpAny_isSubtype_exc hC ?_; first | rw [hcB] | rw [hcA] | rw [hcN]) | wp_step)
  show R _ _
  rw [Heap.size_push]
  exact hq
theorem type_callK (F : ExcBaseFacts B newId initId bmB) (hT : ∀ X : String, bm.contains (.type X) = bmB.contains (.type X)) {fI : Addr} {Q : Fin → Shared → Prop}
    (hC : h.get? C = some (excClassObj nm q C N bs bm hdct sn sub ab col dd k0 k1 k2 k3 k5 newId))
    (hi : W.Looks (model prog w) h (typeLookup (.ref C) "__init__") (some (.ref fI))) (hb : ∀ self, W.Looks (model prog w) h (bindSpecial (.ref fI) self) (.ref fI, [self])) (hrest : rest.length ≤ sizeLine)
    (hq : codeAny (model prog w) A (.call (.ref fI) ⟨.ref (h.objs.size + 1) :: rest, kw⟩)
      (fun r s' => match r with | .ok (.ret v) => v = .none ∧ Q (.done (.ret (.ref (h.objs.size + 1)))) s' | .ok _ => False | .error e => E e s')
      ⟨(h.push (W.kdv_tup rest)).push (excO C h.objs.size), g, d, t, os⟩) :
    wpAny (model prog w) A (Builtin.«type.__call__» ⟨.ref C :: rest, kw⟩) Q E ⟨h, g, d, t, os⟩ := by
  repeat (first | with_reducible refine wpAny_loadPart_at hC ?_ | with_reducible refine wpAny_madeBy_exc hC ?_ | wp_step)
  refine codeAny_call_builtin_code (Code.quiet_builtin _ F.quiet) (check_newK F hT hC ?_)
  refine new_ownK F hT hC ?_ hrest
  show wpAny _ _ _ _ _ _
  have k : ∀ b o, h.get? b = some o → ((h.push (W.kdv_tup rest)).push (excO C h.objs.size)).get? b = some o := fun b o e => Heap.get?_push_of_some _ (Heap.get?_push_of_some _ e)
  have hC₁ := k _ _ hC
  have hget : ((h.push (W.kdv_tup rest)).push (excO C h.objs.size)).get? (h.objs.size + 1) = some (excO C h.objs.size) := by heap_get
  have hcC : (Value.ref C :: bm).contains (.ref C) = true := by simp
  have i1 := hi.keeps k
  have b1 := (hb (.ref (h.objs.size + 1))).keeps k
  unfold isInstance
  repeat (first | with_reducible refine wpAny_loadPart_at hget ?_ | (with_reducible refine wpAny_isSubtype_exc hC₁ ?_; rw [hcC]) | wp_step)
  show wpAny _ _ (typeLookup (.ref C) _) _ _ _
  refine i1.at ?_
  refine wpAny_holding (wpAny_bind (b1.at ?_))
  refine wpAny_bind (wpAny_call (codeAny_mono hq fun r s' z => ?_))
  rcases r with e | (v | _ | _ | _) <;> first | exact z | exact z.elim | skip
  obtain ⟨rfl, z⟩ := z
  first
    | exact wpAny_pure (wpAny_pure z)
    | (wp_walk; exact z)
theorem call_ownK (F : ExcBaseFacts B newId initId bmB) (hT : ∀ X : String, bm.contains (.type X) = bmB.contains (.type X)) {fI : Addr}
    (hC : h.get? C = some (excClassObj nm q C N bs bm hdct sn sub ab col dd k0 k1 k2 k3 k5 newId))
    (hi : W.Looks (model prog w) h (typeLookup (.ref C) "__init__") (some (.ref fI))) (hb : ∀ self, W.Looks (model prog w) h (bindSpecial (.ref fI) self) (.ref fI, [self])) (hrest : rest.length ≤ sizeLine)
    (hq : codeAny (model prog w) (A.under (.builtin "type.__call__" ⟨.ref C :: rest, kw⟩)) (.call (.ref fI) ⟨.ref (h.objs.size + 1) :: rest, kw⟩) (W.InitBack (h.objs.size + 1) R)
      ⟨(h.push (W.kdv_tup rest)).push (excO C h.objs.size), g, d, t, os⟩) :
    codeAny (model prog w) A (.call (.ref C) ⟨rest, kw⟩) R ⟨h, g, d, t, os⟩ := by
  have f1 := tc_lookup
  have f2 := tc_bind (.ref C)
  have hTy : (⟨h, g, d, t, os⟩ : Shared).TypeIs (.ref C) "type" := ⟨_, hC, rfl⟩
  refine codeAny_of_tree ?_
  show wpAny _ _ (callAny (.ref C) _) _ _ _
  repeat (any_goals (first | assumption | with_reducible refine wpAny_loadPart_at hC ?_ | wp_step))
  refine ⟨rfl, ?_⟩
  refine codeAny_call_builtin_at (Code.quiet_builtin _ (by decide +kernel)) entry_typeCall (wpAny_check_type_call_sub hC (type_callK F hT hC hi hb hrest ?_))
  refine codeAny_mono hq fun r s' z => ?_
  rcases r with e | (v | _ | _ | _) <;> exact z
end
end Lt

set_option Elab.async false
set_option linter.all false
set_option maxRecDepth 100000
set_option maxHeartbeats 8000000
/-! Lt23: .. as a call by values. -/
namespace Lt
open PySem L2 PySem.Spec PySem.HandSPX
open PyProof.Rows hiding St

section
variable {X : Cx} {pins : List (Addr × Obj)} {σ : St} {H H' : Hp} {s s' : Shared}
/-- an object that is newer than s is tracked from s' on -/
theorem _root_.L2.Inv.trackN {a : Addr} {o : HO} (I : Inv X pins σ H s) (J : Inv X pins σ H' s') (ha : s.heap.get? a = none) (hn : H' a = none) (new : ObjOk X.prog X.w (upd H' a o) s'.heap a o) : Inv X pins σ (upd H' a o) s' where
  ok := J.ok
  os := J.os
  bare := J.bare
  base := {
    keep := J.base.keep
    slot := J.base.slot
    free := fun b ob q n hb => by
      have hba : b ≠ a := fun z => by
        obtain ⟨o', h'⟩ := I.base.there b ob q hb
        rw [z, ha] at h'
        cases h'
      rw [upd_ne hba]
      exact J.base.free b ob q n hb
    there := J.base.there
    tups := fun b xs q => by
      have := J.base.tups b xs q
      rw [upd_ne (ne_of_none this hn)]
      exact this
    frzs := fun b ob u q => by
      have := J.base.frzs b ob u q
      rw [upd_ne (ne_of_none this hn)]
      exact this
    tbls := fun b ps q => by
      obtain ⟨m, h⟩ := J.base.tbls b ps q
      exact ⟨m, by rw [upd_ne (ne_of_none h hn)]; exact h⟩ }
  loc := J.loc
  cell := J.cell
  free := by
    have h : X.env.locals ≠ a := fun z => by
      obtain ⟨m, oL, es, ep, q1, _⟩ := (⟨_, I.loc.choose_spec.1⟩ : ∃ m, s.heap.Ns X.env.locals m)
      rw [z, ha] at q1
      cases q1
    rw [upd_ne h]
    exact J.free
  freeC := fun x c e => by
    have h : c ≠ a := fun z => by
      obtain ⟨v, o', q1, _⟩ := I.cell x c e
      rw [z, ha] at q1
      cases q1
    rw [upd_ne h]
    exact J.freeC x c e
  pin := fun p hp => by
    have h : p.1 ≠ a := fun z => by
      have q1 := (I.pin p hp).1
      rw [z, ha] at q1
      cases q1
    obtain ⟨q1, q2, q3⟩ := J.pin p hp
    exact ⟨q1, by rw [upd_ne h]; exact q2, q3⟩
  hok := J.hok.laidN (fun _ _ q => q) hn new
  len := J.len
end
theorem exX_ok {P : Program} {w : World} {H : Hp} {h : Heap} {C a t0 : Addr} {dd : Option Addr} (e : h.get? a = some (exO' C t0 dd)) : ObjOk P w H h a (exX C a dd t0) := by
  refine ⟨⟨#[.ref t0, .none, .none, .none, .bool false, .none], e, rfl, rfl, rfl, show 4 < 6 by decide⟩, ⟨_, e⟩, fun h1 h2 ⟨fv, q, r⟩ k => ⟨fv, k _ q, r⟩⟩
section
variable {prog : Program} {w : World} {K : PySem.W.Frag} {mg : Str → Option Value} {base : Heap} {k : Nat} {ca : Nat → Addr} {P : Pg} {F : Nat → List D → Mu → R D}
theorem exc_core {X : Cx} {pins : List (Addr × Obj)} {s : Shared} {σ : St} {H : Hp} {x : V} {u : Value} {Q : VK} {W : WX} {c : Nat} {kc : LCls} {fI : Addr} {a f : Str} {fd : FuncData} {φ : List Addr} {μ : Mu} {d : D} {rest : List Value} {kw : List (Str × Value)}
    (Z : ExcI X.prog X.K (ca c) fI a f fd) (hk : P.cls[c]? = some kc) (hx : kc.exc = true) (hf : kc.field = some f) (hms : X.mg "super" = none) (hr : Room (k + 1) X.A)
    (ha : (rest = [u] ∧ kw = []) ∨ (rest = [] ∧ kw = [(a, u)])) (I : Inv X pins σ H s) (rx : RelV x u) (S : Sim X.K ca φ H μ) (r : RepV X.K φ H d x) (h : Post X.K ca (rlV X.K) W σ φ H (mkD P F c [d] μ) Q) :
    wpAny (model X.prog X.w) X.A (PySem.call (.ref (ca c)) rest kw) (EP X pins σ Q) X.xe s := by
  obtain ⟨nm, q, N, bs, bm, sn, sub, ab, col, dd, k0, k1, k2, k3, k5, hC, hbm⟩ := Z.T.cls
  obtain ⟨hp, g, dr, tk, os⟩ := s
  have hmk : mkD P F c [d] μ = new μ (.exc c [(f, d)] none) := by
    unfold mkD
    rw [hk]
    simp only [hx, if_true]
    unfold excArgs
    rw [hk]
    simp only [hx, if_true, hf]
  rw [hmk] at h
  have kk : ∀ b o, hp.get? b = some o → ((hp.push (PySem.W.kdv_tup rest)).push (excO (ca c) hp.objs.size)).get? b = some o := fun b o e => Heap.get?_push_of_some _ (Heap.get?_push_of_some _ e)
  have hget : ((hp.push (PySem.W.kdv_tup rest)).push (excO (ca c) hp.objs.size)).get? (hp.objs.size + 1) = some (excO (ca c) hp.objs.size) := by heap_get
  have hnew : hp.get? (hp.objs.size + 1) = none := by
    cases q : hp.get? (hp.objs.size + 1) with
    | none => rfl
    | some o => exact absurd (Heap.lt_size q) (Nat.not_lt.mpr (Nat.le_succ _))
  have hek : ∀ o, X.K.lookup (hp.objs.size + 1) ≠ some o := fun o q => by
    have := I.kIn _ _ q
    have this : hp.get? (hp.objs.size + 1) = some o := this
    rw [hnew] at this
    cases this
  obtain ⟨mb, b1, b2⟩ := I.mod.blt
  refine wpAny_call (call_ownK PySem.F.excBase_ValueError (fun Y => PySem.HandSPX.refsVE_contains Y bm hbm) (I.kIn _ _ hC) (PySem.W.looks_findIn I.kIn Z.iC) (fun self => PySem.W.bind_fn I.kIn self Z.tI) (by rcases ha with ⟨rfl, _⟩ | ⟨rfl, _⟩; exact (show 1 ≤ sizeLine by decide); exact Nat.zero_le _) ?_)
  refine init_raw (mg := X.mg) (mb := mb) Z (e := hp.objs.size + 1) (t0 := hp.objs.size) (u := u) (v := u) (hr.make (ca c) rest kw).depth (K := X.K) (fun b o q => kk b o (I.kIn b o q)) (I.nolimit.keeps kk) ((I.mod.glob.keeps I.bk).keeps kk) hms ((b1.keeps I.bk).keeps kk) ((b2 "super" (by decide)).trans rfl) hget hek ?_ ?_
  · rcases ha with ⟨rfl, rfl⟩ | ⟨rfl, rfl⟩
    · exact .inl rfl
    · exact .inr rfl
  · intro h2 t' t1 dx k2 e2 dxn dxe hns
    show _ ∧ _
    have kk2 : ∀ b o, hp.get? b = some o → h2.get? b = some o := fun b o q => k2 b o (fun z => by
      rw [z, hnew] at q
      cases q) (kk b o q)
    have dxn' : hp.get? dx = none := by
      cases q : hp.get? dx with
      | none => rfl
      | some o =>
        have := kk _ _ q
        rw [dxn] at this
        cases this
    have J0 : Inv X pins σ H ⟨h2, g, dr, t', os⟩ := I.kept (t' := t') kk2
    have hd : H dx = none := I.hok.gone dxn'
    have he : H (hp.objs.size + 1) = none := I.hok.gone hnew
    have J1 : Inv X pins σ (upd H dx (.xd [(f, x)])) ⟨h2, g, dr, t', os⟩ := I.trackN J0 dxn' hd ⟨_, hns, relO_put (fs := []) rx fun g => True.intro⟩
    have he1 : upd H dx (.xd [(f, x)]) (hp.objs.size + 1) = none := by
      rw [upd_ne (Ne.symm dxe)]
      exact he
    have J2 := I.trackN J1 hnew he1 (exX_ok (C := ca c) (t0 := t1) (dd := some dx) e2)
    obtain ⟨S1, E1⟩ := S.lay (ho := .xd [(f, x)]) hd
    refine ⟨rfl, .ref (hp.objs.size + 1), _, J2, rfl, ?_⟩
    refine Post.new (Post.from E1 h) S1 he1 fun e => ?_
    refine ⟨some dx, t1, upd_same, .inr ⟨dx, [(f, x)], rfl, ?_, ⟨x, [], rfl, RepV.evo e _ _ (RepV.evo E1 _ _ r), rfl⟩⟩, fun s z => by cases z⟩
    rw [upd_ne dxe, upd_same]
theorem exc_plain {X : Cx} {pins : List (Addr × Obj)} {s : Shared} {σ : St} {H : Hp} {x : V} {u : Value} {Q : VK} {W : WX} {c : Nat} {kc : LCls} {φ : List Addr} {μ : Mu} {d : D} {bmB : List Value}
    (FB : ExcBaseFacts "ValueError" "ValueError.__new__" "ValueError.__init__" bmB) (hq : PySem.W.excIn X.K (ca c) bmB "ValueError.__new__" = true) (hk : P.cls[c]? = some kc) (hx : kc.exc = true) (hf : kc.field = none)
    (I : Inv X pins σ H s) (rx : RelV x u) (S : Sim X.K ca φ H μ) (r : RepV X.K φ H d x) (h : Post X.K ca (rlV X.K) W σ φ H (mkD P F c [d] μ) Q) :
    wpAny (model X.prog X.w) X.A (PySem.call (.ref (ca c)) [u]) (EP X pins σ Q) X.xe s := by
  unfold mkD at h
  rw [hk] at h
  simp only [hx, if_true] at h
  unfold excArgs at h
  rw [hk] at h
  simp only [hx, if_true, hf] at h
  cases d with
  | str m =>
    have h : Post X.K ca (rlV X.K) W σ φ H (new μ (.exc c [] (some m))) Q := h
    obtain ⟨bm, N, nm, qn, bs, hdct, sn, sub, ab, col, dd, k0, k1, k2, k3, k5, mN, hC, hN, hni, T⟩ := exc_obj I.kIn hq
    obtain ⟨hp, g, dr, tk, os⟩ := s
    refine wpAny_call_exc_subT FB T hC hN hni (fun h' e hm => ?_) (show 1 ≤ sizeLine by decide)
    obtain ⟨t0, ht, htn, htt⟩ := hm.there
    have J0 : Inv X pins σ H ⟨h', g, dr, tk, os⟩ := I.kept (t' := tk) hm.keeps
    have h0 : H t0 = none := I.hok.gone htn
    have he : H e = none := I.hok.gone hm.new
    have hne : t0 ≠ e := fun z => by
      rw [z, ht] at htt
      cases htt
    have J1 : Inv X pins σ (upd H t0 (.tup [x])) ⟨h', g, dr, tk, os⟩ := I.trackN J0 htn h0 ⟨show 1 ≤ sizeLine by decide, [u], .cons rx .nil, _, htt, rfl, 0, rfl⟩
    have he1 : upd H t0 (.tup [x]) e = none := by
      rw [upd_ne (Ne.symm hne)]
      exact he
    have J2 := I.trackN J1 hm.new he1 (exX_ok (C := ca c) (t0 := t0) (dd := none) ht)
    obtain ⟨S1, E1⟩ := S.lay (ho := .tup [x]) h0
    refine ⟨.ref e, _, J2, rfl, ?_⟩
    refine Post.new (Post.from E1 h) S1 he1 fun e' => ?_
    refine ⟨none, t0, upd_same, .inl ⟨rfl, rfl⟩, fun z q => ?_⟩
    cases q
    rw [upd_ne hne, upd_same, r.str]
  | _ => exact h.elim
/-- how an exception's class makes its objects -/
def ExcM (prog : Program) (K : PySem.W.Frag) (C : Addr) (kc : LCls) : Prop :=
  (∃ f fI a fd, kc.field = some f ∧ ExcI prog K C fI a f fd) ∨ (kc.field = none ∧ ∃ bmB, ExcBaseFacts "ValueError" "ValueError.__new__" "ValueError.__init__" bmB ∧ PySem.W.excIn K C bmB "ValueError.__new__" = true)
theorem excArgs_one {c : Nat} {kc : LCls} (hk : P.cls[c]? = some kc) (hx : kc.exc = true) {ds : List D} (h : ∀ d, ds ≠ [d]) : excArgs P c ds = none := by
  unfold excArgs
  rw [hk]
  simp only [hx, if_true]
  split
  · exact absurd rfl (h _)
  · exact absurd rfl (h _)
  · rfl
theorem calD_exc {c : Nat} {kc : LCls} (hk : P.cls[c]? = some kc) (hx : kc.exc = true) (M : ExcM prog K (ca c) kc) (hms : mg "super" = none) : CalD prog w K mg base k ca (.ref (ca c)) (mkD P F c) := by
  intro X W e1 e2 e3 e4 e5 hc hr hgd tk pins s σ H xs us Q I r ⟨φ, μ, ds, S, rs, h⟩
  subst e1 e2 e3 e4 e5
  by_cases hds : ∃ d, ds = [d]
  · obtain ⟨d, rfl⟩ := hds
    obtain ⟨x, w', rfl, r1, r2⟩ := rs
    rw [show w' = [] from r2] at r
    obtain ⟨u, rfl, ru⟩ := vals1 r
    rcases M with ⟨f, fI, a, fd, hf, Z⟩ | ⟨hf, bmB, FB, hq⟩
    · exact exc_core (kw := []) Z hk hx hf hms hr (.inl ⟨rfl, rfl⟩) I ru S r1 h
    · exact exc_plain FB hq hk hx hf I ru S r1 h
  · unfold mkD at h
    rw [hk] at h
    simp only [hx, if_true] at h
    rw [excArgs_one hk hx fun d z => hds ⟨d, z⟩] at h
    exact h.elim
theorem calK_exc {c : Nat} {kc : LCls} {f : Str} {fI : Addr} {a : Str} {fd : FuncData} (hk : P.cls[c]? = some kc) (hx : kc.exc = true) (hf : kc.field = some f) (Z : ExcI prog K (ca c) fI a f fd) (hms : mg "super" = none) : CalK prog w K mg base k ca (.ref (ca c)) a (mkD P F c) := by
  intro X W e1 e2 e3 e4 e5 hc hr hgd tk pins s σ H x u Q I r ⟨φ, μ, d, S, rs, h⟩
  subst e1 e2 e3 e4 e5
  exact exc_core Z hk hx hf hms hr (.inr ⟨rfl, rfl⟩) I r S rs h
end
end Lt

set_option Elab.async false
set_option linter.all false
set_option maxRecDepth 100000
set_option maxHeartbeats 8000000
/-! Lt24: the law's call, from the evaluator's answer. -/
namespace Lt
open PySem L2 PySem.Spec
open PyProof.Rows hiding St
open PySem.W (Frag)

theorem repVs_ints {K : Frag} {φ : List Addr} {H : Hp} : ∀ ns : List Int, RepVs K φ H (ns.map D.int) (ns.map V.int)
  | [] => rfl
  | n :: ns => ⟨.int n, _, rfl, rfl, repVs_ints ns⟩
theorem law_call' {prog : Program} {w : World} {K : Frag} {mg mb : Str → Option Value} {P : Pg} {ca : Nat → Addr} {G : GT} {T : List Ty} {fa : Nat → Addr} {fd : Nat → FuncData} {pn : Nat → List Str} {m f : Nat} {g : LFn} {x : Str} {a : Addr} {s₁ : Shared} {vs : List Value} {ns : List Int}
    (KX : K.In s₁.heap) (hns : s₁.heap.Ns mainGlobals mg) (hb : s₁.heap.Ns builtinsNs mb) (hbb : ∀ x : Str, x ≠ "__name__" → mb x = bootBuiltins x) (hlim : s₁.heap.NoLimit) (hsee : s₁.heap.NoSeer) (hg : s₁.gens = #[])
    (ha : s₁.heap.get? a = some { cls := .type "list", data := .seq vs.toArray }) (hi : IntsAre vs ns) (hl : ns.length ≤ sizeLine) (hr : Room (2 * m) callerA)
    (L : ∀ base : Heap, K.In base → base.Ns mainGlobals mg → (∃ o es ep, base.get? sysModules = some o ∧ o.data = .dict es ep) → Link prog w K mg base P ca G T fa fd pn)
    (hf : P.fns[f]? = some g) (hps : pn f = [x]) (hbind : ∀ (s : Shared) (u : Value), BindsTo s (fd f) ⟨[u], []⟩ [(x, u)])
    (hrun : ∃ μ, call P m f [.rol (ns.map D.int)] [] = .ok (.bl true) μ) :
    codeAny (model prog w) callerA (.call (.ref (fa f)) ⟨[.ref a], []⟩) (fun r s' => r = .ok (.ret (.bool true)) ∧ OldK s₁.heap s'.heap ∧ s'.os = s₁.os ∧ AllBare s'.gens) s₁ := by
  have rv := vals_ints hi
  have lenV := hi.length
  have core : ∀ H : Hp, Only H → SqR K H a (ns.map V.int) → HOk prog w H s₁.heap → (∀ b, H b ≠ none → b = a) → (H a ≠ none → K.lookup a = none) →
      codeAny (model prog w) callerA (.call (.ref (fa f)) ⟨[.ref a], []⟩) (fun r s' => r = .ok (.ret (.bool true)) ∧ OldK s₁.heap s'.heap ∧ s'.os = s₁.os ∧ AllBare s'.gens) s₁ := by
    intro H hO hS hok hA hK
    have base_of : ∀ {b : Addr} {o : Obj}, s₁.heap.get? b = some o → H b = none → (hidT s₁.heap H).get? b = some o := fun e n => hidT_get e n
    have noA : ∀ {b : Addr} {o : Obj} {es : Array DictEntry} {ep : Nat}, s₁.heap.get? b = some o → o.data = .dict es ep → H b = none := fun {b o es ep} e d => by
      cases q : H b with
      | none => rfl
      | some u =>
        have e' : b = a := hA b (by rw [q]; simp)
        subst e'
        rw [ha] at e; cases e
        have d' : Data.seq vs.toArray _ = Data.dict es ep := d
        cases d'
    have nsK : ∀ {b : Addr} {m : Str → Option Value}, s₁.heap.Ns b m → (hidT s₁.heap H).Ns b m := fun {b m} ⟨o, es, ep, e, d, r⟩ => ⟨o, es, ep, base_of e (noA e d), d, r⟩
    have hKb : K.In (hidT s₁.heap H) := fun b o e => base_of (KX b o e) (by
      cases q : H b with
      | none => rfl
      | some u =>
        have e' : b = a := hA b (by rw [q]; simp)
        subst e'
        rw [hK (by rw [q]; simp)] at e; cases e)
    have hM : Mod K mg (hidT s₁.heap H) := ⟨hKb, nsK hns, ⟨mb, nsK hb, hbb⟩, let ⟨mc, h1, h2⟩ := hlim; ⟨mc, nsK h1, h2⟩⟩
    have hsys : ∃ o es ep, (hidT s₁.heap H).get? sysModules = some o ∧ o.data = .dict es ep := by
      obtain ⟨mm, h1, _⟩ := hsee.mods
      obtain ⟨o, es, ep, e, d, _⟩ := nsK h1
      exact ⟨o, es, ep, e, d⟩
    have e0 : Env0 prog w K mg (hidT s₁.heap H) callerA [] s₁ H := ⟨rfl, hM, fun b o e => of_hidT e, Nat.le_of_eq (hidT_size _ _), trivial, fun b hb => absurd (show b ∈ ([] : List Addr) from hb) (by simp), hok, .of_eq hg⟩
    have Lk := L _ hKb (nsK hns) hsys
    have FG := fnG_all Lk m f g hf
    have hb' : BindsTo s₁ (fd f) ⟨[.ref a], []⟩ ((pn f).zip [.ref a]) := by
      rw [hps]
      exact hbind s₁ (.ref a)
    obtain ⟨μ, hrun⟩ := hrun
    have S0 : Sim K ca [] H [] := ⟨rfl, List.nodup_nil, fun i a o h _ => by simp at h⟩
    have hsp : spL K ca (call P m f) (pn f).length [.ref a] H (fun v _ => v = .bl true) (fun _ _ _ => False) := by
      refine ⟨by rw [hps]; rfl, [], [], [.rol (ns.map D.int)], S0, ⟨_, _, rfl, ⟨a, _, rfl, hS, repVs_ints ns⟩, rfl⟩, ?_⟩
      rw [hrun]
      exact fun φ' H' v e S r => r
    refine codeAny_mono (FG.run callerA [] s₁ H ⟨[.ref a], []⟩ [.ref a] [.ref a] _ (fun _ _ _ => False) hr rfl e0 hb' (.cons rfl .nil) hsp) fun r s' h => ?_
    cases r with
    | error e =>
      obtain ⟨_, _, _, _, _, _, _, _, _, _, _, _, z⟩ := h
      exact z.elim
    | ok fl =>
      cases fl with
      | next => exact False.elim h
      | brk => exact False.elim h
      | cont => exact False.elim h
      | ret u =>
        obtain ⟨v, H', os, bare, un, hok', r', q⟩ := h
        have q' : v = .bl true := q
        subst q'
        obtain rfl : u = Value.bool true := r'
        refine ⟨rfl, OldK.of_keep fun b o e => ?_, os, bare⟩
        cases q : H b with
        | none => exact un.keep b o e q (by intro z; exact absurd (show b ∈ ([] : List Addr) from z) (by simp)) (by simp)
        | some u =>
          rcases hO b with z | ⟨ob, xs, z⟩
          · rw [q] at z; cases z
          · have z2 := un.frzs b ob _ z
            obtain ⟨e1, _⟩ := hok b _ z
            obtain ⟨e2, _⟩ := hok' b _ z2
            rw [e] at e1; cases e1
            exact e2
  cases hk : K.lookup a with
  | some o =>
    have e := KX a o hk
    rw [ha] at e
    cases e
    refine core (fun _ => none) (fun _ => .inl rfl) (.inr fun H' => .inr ⟨_, vs.toArray, _, hk, rfl, rfl, rfl, by rw [List.size_toArray, lenV]; exact hl, by simpa using rv⟩) (fun b u z => by have z' : (none : Option HO) = some u := z; cases z') (fun b z => absurd rfl z) fun z => absurd rfl z
  | none =>
    refine core (fun b => if b = a then some (.frz { cls := .type "list", data := .seq vs.toArray } (.lst (ns.map V.int))) else none) (fun b => ?_) (.inl ⟨{ cls := .type "list", data := .seq vs.toArray }, if_pos rfl⟩) (fun b u z => ?_) (fun b z => ?_) fun _ => hk
    · by_cases hb : b = a
      · exact .inr ⟨_, _, if_pos hb⟩
      · exact .inl (if_neg hb)
    · by_cases hb : b = a
      · have z' := (if_pos hb).symm.trans z
        cases z'
        subst hb
        exact ⟨ha, by rw [List.length_map]; exact hl, vs, _, rv, ha⟩
      · have z' := (if_neg hb).symm.trans z
        cases z'
    · by_cases hb : b = a
      · exact hb
      · exact absurd (if_neg hb) z

/-- the goal that k_head leaves -/
theorem walk_lt {l : PySem.W.OpenLaw} {n m : Nat} {q : Program} {loose : List Str} {XP : (Str → Option Value) → Heap → Prop} {YP : World → Heap → Prop} {d : DefRec} {K : Params → Frag} {P : Pg} {ca : Nat → Addr} {G : GT} {T : List Ty} {fa : Nat → Addr} {fd : Params → Nat → FuncData} {pn : Nat → List Str} {f : Nat} {g : LFn} {x : Str}
    (hn : l.most = some n) (hn2 : n ≤ sizeLine) (hdf : d.params.defaults = []) (hq : importsNone q = true) (hr : Room (2 * m) callerA)
    (hY : ∀ (w : World) (h : Heap), YP w h → (K w.params).In h)
    (L : ∀ (w : World) (mg : Str → Option Value) (base : Heap), (K w.params).In base → base.Ns mainGlobals mg → (∃ o es ep, base.get? sysModules = some o ∧ o.data = .dict es ep) → Link l.prog w (K w.params) mg base P ca G T fa (fd w.params) pn)
    (hlaw : ∀ w : World, PySem.W.nsIn (K w.params) mainGlobals d.name = some (some (.ref (fa f))))
    (hf : P.fns[f]? = some g) (hps : pn f = [x]) (hbind : ∀ (w : World) (s : Shared) (u : Value), BindsTo s (fd w.params f) ⟨[u], []⟩ [(x, u)])
    (hrun : ∀ ns : List Int, ns.length ≤ n → ∃ μ, call P m f [.rol (ns.map D.int)] [] = .ok (.bl true) μ) :
    PySem.W.WalkO q loose XP YP l.row.toRowW d [] (fun f vs => PySem.call f vs) := by
  refine Att.attach_call hn hdf fun w s₀ s₁ mg mb fa' o pm cd doc a vs ns G Y ho hd hcd hmg hobj hints hlen hg => ?_
  have KX := hY w _ Y
  have e : fa' = fa f := by
    have h1 := PySem.W.mg_of KX G.T.g (hlaw w)
    rw [hmg] at h1
    cases h1
    rfl
  subst e
  exact law_call' KX G.T.g G.T.b G.T.builtins G.T.nolimit (G.T.seer hq) hg hobj hints (Nat.le_trans hlen hn2) hr (fun base h1 h2 h3 => L w mg base h1 h2 h3) hf hps (hbind w) (hrun ns hlen)

/-! ### the link's facts, computed -/
def fnScopeB (N P : List Str) (sc : Scope) : Bool :=
  (match sc.kind with | .function => true | _ => false) && !sc.isCoroutine && !sc.isGenerator && decide N.Nodup && decide (N.take P.length = P) &&
    (P.all fun x => match sc.names.lookup x with | some .local => true | some .cell => true | _ => false) && (sc.names.all fun y => match y.2 with | .free => false | _ => true)
theorem fnScope_of {N P : List Str} {sc : Scope} (h : fnScopeB N P sc = true) : FnScope N P sc := by
  unfold fnScopeB at h
  simp only [Bool.and_eq_true, Bool.not_eq_true', decide_eq_true_eq, List.all_eq_true] at h
  obtain ⟨⟨⟨⟨⟨⟨h1, h2⟩, h3⟩, h4⟩, h5⟩, h6⟩, h7⟩ := h
  refine ⟨?_, h2, h3, h4, h5, fun x hx => ?_, fun y hy e => ?_⟩
  · split at h1
    · assumption
    · cases h1
  · have q := h6 x hx
    split at q
    · rename_i e; exact .inl e
    · rename_i e; exact .inr e
    · cases q
  · have q := h7 y hy
    rw [e] at q
    cases q
def isiB (K : Frag) (P : Pg) (ca : Nat → Addr) (T : List Ty) : Bool :=
  (PySem.W.specialIn K (.builtin "object.__class__") "__get__" == some (some (.builtin "getset_descriptor.__get__"))) && (PySem.W.takesIn K (.builtin "object.__class__") == some true) &&
  (baseTys.all fun n => T.all fun t => PySem.W.kitOne K (.type n) (tyV ca t) == some (subT P (.py n) t)) &&
  ((List.range P.cls.length).all fun c => T.all fun t => PySem.W.kitOne K (.ref (ca c)) (tyV ca t) == some (subT P (.cls c) t)) &&
  ((List.range P.cls.length).all fun c => match P.cls[c]? with
    | none => true
    | some k => if k.exc then
        (PySem.W.clsIn K (ca c)).isSome && (PySem.W.findIn K (.ref (ca c)) "__getattribute__" == some (some (.builtin "BaseException.__getattribute__"))) && (PySem.W.findIn K (.ref (ca c)) "__getattr__" == some none) &&
        (PySem.W.subIn K (.ref (ca c)) (.type "BaseException") == some true) && (PySem.W.findIn K (.ref (ca c)) "__class__" == some (some (.builtin "object.__class__"))) && (PySem.W.mroIn K (ca c) (.type "object") == some true) &&
        PySem.W.hasDictIn K (ca c) && (PySem.W.findIn K (.ref (ca c)) "__str__" == some (some (.builtin "BaseException.__str__")))
      else PySem.W.plainGet K (ca c) Str.empty && PySem.W.hasDictIn K (ca c) && PySem.W.plainOver K (ca c) && (PySem.W.findIn K (.ref (ca c)) "__setattr__" == some (some (.builtin "object.__setattr__"))) &&
        (PySem.W.findIn K (.ref (ca c)) "__class__" == some (some (.builtin "object.__class__"))) && (PySem.W.mroIn K (ca c) (.type "object") == some true))
theorem isiK_of {K : Frag} {P : Pg} {ca : Nat → Addr} {T : List Ty} (h : isiB K P ca T = true) : IsiK K P ca T ∧ ∀ c kc, P.cls[c]? = some kc → kc.exc = false → Cls K (ca c) := by
  unfold isiB at h
  simp only [Bool.and_eq_true, List.all_eq_true, beq_iff_eq, List.mem_range] at h
  obtain ⟨⟨⟨⟨h1, h2⟩, h3⟩, h4⟩, h5⟩ := h
  have lt : ∀ {c : Nat} {k : LCls}, P.cls[c]? = some k → c < P.cls.length := fun e => (List.getElem?_eq_some_iff.mp e).1
  have hi : ∀ c k, P.cls[c]? = some k → k.exc = false → InsK K (ca c) := fun c k hk hx => by
    have q := h5 c (lt hk)
    rw [hk] at q
    simp only [hx, Bool.false_eq_true, if_false, Bool.and_eq_true, beq_iff_eq] at q
    obtain ⟨⟨⟨⟨⟨q1, q2⟩, q3⟩, q4⟩, q5⟩, q6⟩ := q
    exact ⟨⟨q1, q2, q3, q4⟩, q5, q6⟩
  refine ⟨⟨h1, h2, fun n hn t ht => h3 n hn t ht, fun c k hk t ht => h4 c (lt hk) t ht, hi, fun c k hk hx => ?_⟩, fun c k hk hx => (hi c k hk hx).cl⟩
  have q := h5 c (lt hk)
  rw [hk] at q
  simp only [hx, if_true, Bool.and_eq_true, beq_iff_eq] at q
  obtain ⟨⟨⟨⟨⟨⟨⟨q1, q2⟩, q3⟩, q4⟩, q5⟩, q6⟩, q7⟩, q8⟩ := q
  exact ⟨q1, q2, q3, q4, q5, q6, q7, q8⟩
/-- the names -/
def nmsB (K : Frag) (P : Pg) (ca fa : Nat → Addr) (G : GT) : Bool :=
  (bltNames.all fun x => PySem.W.nsIn K mainGlobals x == some none) &&
  (G.all fun y => match y.2 with
    | .fn f _ => (PySem.W.nsIn K mainGlobals y.1 == some (some (.ref (fa f)))) && PySem.W.keepIn K (.ref (fa f))
    | .cls c _ _ => (PySem.W.nsIn K mainGlobals y.1 == some (some (.ref (ca c)))) && PySem.W.keepIn K (.ref (ca c))
    | .cst _ => true) &&
  ((List.range P.cls.length).all fun c => match P.cls[c]? with
    | none => true
    | some k => k.fields.all fun f => PySem.W.findIn K (.ref (ca c)) f == some none)
theorem lookup_mem {α : Type} {x : Str} {v : α} : ∀ {l : List (Str × α)}, l.lookup x = some v → (x, v) ∈ l
  | [], h => by simp at h
  | (y, u) :: r, h => by
    rw [List.lookup_cons] at h
    cases e : x == y with
    | true =>
      rw [e] at h
      cases h
      rw [beq_iff_eq.mp e]
      exact List.mem_cons_self
    | false =>
      rw [e] at h
      exact List.mem_cons_of_mem _ (lookup_mem h)
theorem nms_of {K : Frag} {P : Pg} {ca fa : Nat → Addr} {G : GT} {mg : Str → Option Value} {base : Heap} (X : K.In base) (hm : base.Ns mainGlobals mg) (h : nmsB K P ca fa G = true) :
    (∀ x ∈ bltNames, mg x = none) ∧ (∀ x f ps, G.lookup x = some (.fn f ps) → mg x = some (.ref (fa f)) ∧ PySem.W.keepIn K (.ref (fa f)) = true) ∧
    (∀ x c ps kn, G.lookup x = some (.cls c ps kn) → mg x = some (.ref (ca c)) ∧ PySem.W.keepIn K (.ref (ca c)) = true) ∧ (∀ c kc f, P.cls[c]? = some kc → f ∈ kc.fields → NoAttr K (ca c) f) := by
  unfold nmsB at h
  simp only [Bool.and_eq_true, List.all_eq_true, beq_iff_eq, List.mem_range] at h
  obtain ⟨⟨h1, h2⟩, h3⟩ := h
  refine ⟨fun x hx => PySem.W.mg_none_of X hm (h1 x hx), fun x f ps e => ?_, fun x c ps kn e => ?_, fun c kc f hk hf => ?_⟩
  · have q := h2 _ (lookup_mem e)
    simp only [Bool.and_eq_true, beq_iff_eq] at q
    exact ⟨PySem.W.mg_of X hm q.1, q.2⟩
  · have q := h2 _ (lookup_mem e)
    simp only [Bool.and_eq_true, beq_iff_eq] at q
    exact ⟨PySem.W.mg_of X hm q.1, q.2⟩
  · have q := h3 c (List.getElem?_eq_some_iff.mp hk).1
    rw [hk] at q
    simp only [List.all_eq_true, beq_iff_eq] at q
    exact q f hf
end Lt

set_option Elab.async false
set_option linter.all false
set_option maxRecDepth 100000
set_option maxHeartbeats 8000000
/-! Lt25: the link's parts, put together. -/
namespace Lt
open PySem L2 PySem.Spec
open PyProof.Rows hiding St
open PySem.W (Frag)

def fdNo : FuncData := PySem.W.fnOf "" "" { posonlyargs := [], args := [], vararg := none, kwonlyargs := [], kw_defaults := [], kwarg := none, defaults := [] } [] { kind := .function, names := [], isGenerator := false, isCoroutine := false } .none .none .none .none none .none .none
/-- the def at a -/
def fdAt (K : Frag) (a : Addr) : FuncData := match K.lookup a with
  | some ⟨_, _, .func fd, _⟩ => fd
  | _ => fdNo
theorem fdAt_of {K : Frag} {a : Addr} {oc : Value} {od : Option Addr} {fd : FuncData} {osl : Array (Option Value)} (h : K.lookup a = some ⟨oc, od, .func fd, osl⟩) : fdAt K a = fd := by
  unfold fdAt
  rw [h]
theorem fnL_of {prog : Program} {w : World} {K : Frag} {G : GT} {T : List Ty} {fa : Addr} {ps : List Str} {g : LFn} {name qual : Str} {params : Arguments} {body : List Stmt} {scope : Scope} {dV kV doc pm cdv ct oc : Value} {an od : Option Addr} {osl : Array (Option Value)} (N : List Str) (m : Nat)
    (h1 : K.lookup fa = some ⟨oc, od, .func (PySem.W.fnOf name qual params body scope dV kV doc pm an cdv ct), osl⟩) (h2 : PySem.W.codeIn K cdv qual = true) (h3 : fnScopeB N ps scope = true) (h4 : trL N G T m scope body = some g.body) (h5 : g.np = ps.length) (h6 : g.ns = N.length)
    (h7 : ∀ us : List Value, us.length = ps.length → bindArgs (PySem.W.fnOf name qual params body scope dV kV doc pm an cdv ct) ⟨us, []⟩ = pure (ps.zip us)) : FnL prog w K G T fa (fdAt K fa) ps g := by
  rw [fdAt_of h1]
  exact ⟨⟨name, qual, params, body, scope, dV, kV, doc, pm, cdv, ct, oc, an, od, osl, N, m, h1, rfl, h2, fnScope_of h3, h4, h5, h6⟩, Binds.all h7⟩
theorem bd1 {fd : FuncData} {p : Str} (h : ∀ a, bindArgs fd ⟨[a], []⟩ = pure [(p, a)]) : ∀ us : List Value, us.length = [p].length → bindArgs fd ⟨us, []⟩ = pure ([p].zip us)
  | [a], _ => h a
  | [], z => by simp at z
  | _ :: _ :: _, z => by simp at z
theorem bd0 {fd : FuncData} (h : bindArgs fd ⟨[], []⟩ = pure []) : ∀ us : List Value, us.length = ([] : List Str).length → bindArgs fd ⟨us, []⟩ = pure (([] : List Str).zip us)
  | [], _ => h
  | _ :: _, z => by simp at z
theorem bd2 {fd : FuncData} {p q : Str} (h : ∀ a b, bindArgs fd ⟨[a, b], []⟩ = pure [(p, a), (q, b)]) : ∀ us : List Value, us.length = [p, q].length → bindArgs fd ⟨us, []⟩ = pure ([p, q].zip us)
  | [a, b], _ => h a b
  | [], z => by simp at z
  | [_], z => by simp at z
  | _ :: _ :: _ :: _, z => by simp at z
theorem bd3 {fd : FuncData} {p q r : Str} (h : ∀ a b c, bindArgs fd ⟨[a, b, c], []⟩ = pure [(p, a), (q, b), (r, c)]) : ∀ us : List Value, us.length = [p, q, r].length → bindArgs fd ⟨us, []⟩ = pure ([p, q, r].zip us)
  | [a, b, c], _ => h a b c
  | [], z => by simp at z
  | [_], z => by simp at z
  | [_, _], z => by simp at z
  | _ :: _ :: _ :: _ :: _, z => by simp at z
theorem bd4 {fd : FuncData} {p q r t : Str} (h : ∀ a b c d, bindArgs fd ⟨[a, b, c, d], []⟩ = pure [(p, a), (q, b), (r, c), (t, d)]) : ∀ us : List Value, us.length = [p, q, r, t].length → bindArgs fd ⟨us, []⟩ = pure ([p, q, r, t].zip us)
  | [a, b, c, d], _ => h a b c d
  | [], z => by simp at z
  | [_], z => by simp at z
  | [_, _], z => by simp at z
  | [_, _, _], z => by simp at z
  | _ :: _ :: _ :: _ :: _ :: _, z => by simp at z
/-- one for each of a list -/
def AllI {α : Type} (R : Nat → α → Prop) : Nat → List α → Prop
  | _, [] => True
  | i, g :: r => R i g ∧ AllI R (i + 1) r
theorem allI_at {α : Type} {R : Nat → α → Prop} : ∀ {l : List α} {i : Nat}, AllI R i l → ∀ (f : Nat) (g : α), l[f]? = some g → R (i + f) g
  | [], _, _, f, g, h => by simp at h
  | x :: r, i, q, 0, g, h => by
    simp at h
    subst h
    exact q.1
  | x :: r, i, q, f + 1, g, h => by
    have := allI_at (i := i + 1) q.2 f g (by simpa using h)
    rwa [Nat.add_assoc, Nat.add_comm 1 f] at this
theorem all_at {α : Type} {R : Nat → α → Prop} {l : List α} (h : AllI R 0 l) (f : Nat) (g : α) (e : l[f]? = some g) : R f g := by
  have := allI_at h f g e
  rwa [Nat.zero_add] at this
/-- an exception whose field may be named in the call -/
def KwM (prog : Program) (K : Frag) (ca : Nat → Addr) (P : Pg) (y : Str × GV) : Prop := match y.2 with
  | .cls c [a] true => ∃ kc f fI fd, P.cls[c]? = some kc ∧ kc.exc = true ∧ kc.field = some f ∧ ExcI prog K (ca c) fI a f fd
  | _ => True
theorem kw_of {prog : Program} {w : World} {K : Frag} {mg : Str → Option Value} {base : Heap} {P : Pg} {ca : Nat → Addr} {G : GT} (hms : mg "super" = none) (h : AllI (fun _ y => KwM prog K ca P y) 0 G) : ∀ k F x c a, G.lookup x = some (.cls c [a] true) → CalK prog w K mg base k ca (.ref (ca c)) a (mkD P F c) := fun k F x c a e => by
  obtain ⟨i, hi, he⟩ := List.getElem_of_mem (lookup_mem e)
  have q := all_at h i _ (List.getElem?_eq_getElem hi)
  rw [he] at q
  obtain ⟨kc, f, fI, fd, q1, q2, q3, q4⟩ := q
  exact calK_exc q1 q2 q3 q4 hms
end Lt

set_option Elab.async false
set_option linter.all false
set_option maxRecDepth 100000
/-! Pl0: reasoning about the evaluator. -/
namespace Lt
open PySem

def R.Ok {α : Type} (r : R α) (Q : α → Mu → Prop) : Prop := match r with
  | .ok a m => Q a m
  | _ => False
theorem ok_bind {α β : Type} {r : R α} {f : α → Mu → R β} {Q : β → Mu → Prop} : (r.bind f).Ok Q ↔ r.Ok fun a m => (f a m).Ok Q := by
  cases r <;> exact Iff.rfl
theorem ok_ok {α : Type} {a : α} {m : Mu} {Q : α → Mu → Prop} : (R.ok a m).Ok Q ↔ Q a m := Iff.rfl
theorem R.Ok.imp {α : Type} {r : R α} {Q Q' : α → Mu → Prop} (h : r.Ok Q) (i : ∀ a m, Q a m → Q' a m) : r.Ok Q' := by
  cases r with
  | ok a m => exact i a m h
  | _ => exact h
theorem R.Ok.ex {α : Type} {r : R α} {Q : α → Mu → Prop} (h : r.Ok Q) : ∃ a m, r = .ok a m ∧ Q a m := by
  cases r with
  | ok a m => exact ⟨a, m, rfl, h⟩
  | _ => exact h.elim
/-- a statement that goes on -/
def RS.Nx (r : RS) (Q : Fr → Mu → Prop) : Prop := match r with
  | .nx ρ m => Q ρ m
  | _ => False
def RS.Rt (r : RS) (Q : D → Mu → Prop) : Prop := match r with
  | .ret d _ m => Q d m
  | _ => False
/-- a block's end -/
def RS.En (r : RS) (N : Fr → Mu → Prop) (Q : D → Mu → Prop) : Prop := match r with
  | .nx ρ m => N ρ m
  | .ret d _ m => Q d m
  | _ => False
theorem en_thn {r : RS} {f : Fr → Mu → RS} {N : Fr → Mu → Prop} {Q : D → Mu → Prop} : (r.thn f).En N Q ↔ r.En (fun ρ m => (f ρ m).En N Q) Q := by
  cases r <;> exact Iff.rfl
theorem en_toS {α : Type} {r : R α} {ρ : Fr} {f : α → Mu → RS} {N : Fr → Mu → Prop} {Q : D → Mu → Prop} : (r.toS ρ f).En N Q ↔ r.Ok (fun a m => (f a m).En N Q) := by
  cases r <;> exact Iff.rfl
theorem call_ok {P : Pg} {n f : Nat} {g : LFn} {ds : List D} {μ : Mu} {Q : D → Mu → Prop} (h : P.fns[f]? = some g) (hl : ds.length = g.np)
    (hb : (evB P (call P n) g.body (ds.map some ++ List.replicate (g.ns - g.np) none) μ).En (fun _ m => Q .non m) Q) : (call P (n + 1) f ds μ).Ok Q := by
  simp only [call, h, hl, if_true]
  revert hb
  cases evB P (call P n) g.body (ds.map some ++ List.replicate (g.ns - g.np) none) μ <;> exact id
theorem toNat_map_inj : ∀ {a b : List Char}, a.map Char.toNat = b.map Char.toNat → a = b
  | [], [], _ => rfl
  | [], _ :: _, h => by simp at h
  | _ :: _, [], h => by simp at h
  | x :: a, y :: b, h => by
    simp only [List.map_cons, List.cons.injEq] at h
    have e : x = y := Char.toNat_inj.mp h.1
    rw [e, toNat_map_inj h.2]
theorem str_inj (a b : String) : (Str.ofString a = Str.ofString b) ↔ a = b := by
  constructor
  · intro h
    rw [Str.ofString_eq_toList, Str.ofString_eq_toList] at h
    injection h with h
    have h2 : a.toList = b.toList := toNat_map_inj (by simpa using h)
    exact String.toList_inj.mp h2
  · intro h; rw [h]
end Lt

set_option Elab.async false
set_option linter.all false
set_option maxRecDepth 100000
set_option maxHeartbeats 4000000
/-! Pl1: the draws. -/
namespace Lt
open PySem

/-- a comprehension whose step leaves the store -/
theorem compN_pure {src : Src} {step : D → Mu → R (Option D)} {μ : Mu} {xs : List D} {f : D → Option D} (hs : src.all μ = some xs) (hstep : ∀ d ∈ xs, step d μ = .ok (f d) μ) :
    ∀ (n k : Nat) (acc : List D), n + k = xs.length → acc.length + n ≤ sizeLine → compN src step n k acc μ = .ok (acc ++ (xs.drop k).filterMap f) μ
  | 0, k, acc, h, _ => by
    have hk : xs[k]? = none := List.getElem?_eq_none (by omega)
    simp only [compN, Src.next, hs, Option.map_some, hk]
    rw [List.drop_eq_nil_of_le (by omega)]
    simp
  | n + 1, k, acc, h, hz => by
    have hk : k < xs.length := by omega
    have hx : xs[k]? = some xs[k] := List.getElem?_eq_getElem hk
    simp only [compN, Src.next, hs, Option.map_some, hx, hstep _ (List.getElem_mem hk)]
    rw [List.drop_eq_getElem_cons hk, List.filterMap_cons]
    cases e : f xs[k] with
    | none =>
      simp only [e]
      exact compN_pure hs hstep n (k + 1) acc (by omega) (by omega)
    | some y =>
      simp only [e]
      rw [if_pos (by omega), compN_pure hs hstep n (k + 1) (acc ++ [y]) (by omega) (by simp; omega)]
      simp
def dBegun : LB := .cons (.asg (.nm 1) (.comp [2] (.nm 2) (.exp (.var 0)) (.cons (.cmp .GtE (.bi .abs (.cons (.var 2) .nil)) (.bin .Pow (.cst (.int 10)) (.cst (.int 18)))) .nil) (.bin .Sub (.bi .abs (.cons (.var 2) .nil)) (.bin .Pow (.cst (.int 10)) (.cst (.int 18)))))) (.cons (.ret (.dct (.cons (.cst (.str "wide")) (.cons (.var 1) (.cons (.cst (.str "cells")) (.cons (.comp [2] (.nm 2) (.exp (.var 0)) (.nil) (.bin .Mod (.bi .int (.cons (.bi .abs (.cons (.var 2) .nil)) .nil)) (.cst (.int 2147483629)))) (.cons (.cst (.str "rest")) (.cons (.cst (.int 0)) (.cons (.cst (.str "turn")) (.cons (.cst (.int 0)) .nil)))))))))) .nil)
def dMixed : LB := .cons (.par [1, 2] (.cons (.bin .Add (.ix (.var 0) (.cst (.str "turn"))) (.cst (.int 1))) (.cons (.cst (.int 0)) .nil))) (.cons (.asg (.sub (.var 0) (.cst (.str "turn"))) (.var 1)) (.cons (.for (.nm 3) (.exp (.lst (.cons (.cst (.int 2147483629)) (.cons (.cst (.int 2147483587)) (.cons (.cst (.int 2147483579)) (.cons (.cst (.int 2147483563)) .nil)))))) (.cons (.asg (.nm 4) (.bin .Add (.bin .Mult (.cst (.int 50021)) (.var 1)) (.bin .FloorDiv (.var 3) (.cst (.int 17))))) (.cons (.for (.nm 5) (.exp (.ix (.var 0) (.cst (.str "cells")))) (.cons (.asg (.nm 4) (.bin .Mod (.bi .int (.cons (.bin .Add (.bin .Add (.bin .Mult (.var 4) (.cst (.int 48271))) (.var 5)) (.var 1)) .nil)) (.var 3))) .nil)) (.cons (.asg (.nm 2) (.bin .Add (.bin .Mult (.var 2) (.cst (.int 2147483647))) (.bin .Mod (.bi .int (.cons (.bin .Pow (.var 4) (.cst (.int 5))) .nil)) (.var 3)))) .nil)))) (.cons (.ret (.var 2)) .nil)))
def dTake : LB := .cons (.ite (.cmp .Eq (.ix (.var 0) (.cst (.str "rest"))) (.cst (.int 0))) (.cons (.asg (.sub (.var 0) (.cst (.str "rest"))) (.ite (.cmp .NotEq (.ix (.var 0) (.cst (.str "wide"))) (.lst (.nil))) (.meth (.ix (.var 0) (.cst (.str "wide"))) "pop" (.cons (.cst (.int 0)) .nil)) (.fn 1 (.cons (.var 0) .nil)))) .nil) (.nil)) (.cons (.asg (.nm 2) (.bin .Mod (.bi .int (.cons (.ix (.var 0) (.cst (.str "rest"))) .nil)) (.var 1))) (.cons (.asg (.sub (.var 0) (.cst (.str "rest"))) (.bin .FloorDiv (.ix (.var 0) (.cst (.str "rest"))) (.var 1))) (.cons (.ret (.var 2)) .nil)))
def dPick : LB := .cons (.ret (.ix (.var 1) (.fn 2 (.cons (.var 0) (.cons (.bi .len (.cons (.var 1) .nil)) .nil))))) .nil

/-- the draws' objects: the great cells, the cells, the draw -/
structure Draw (n : Nat) (t : Int) (μ : Mu) : Prop where
  wide : ∃ ws : List Int, μ[0]? = some (.lst (ws.map .int)) ∧ (∀ z ∈ ws, 0 ≤ z) ∧ ws.length ≤ n
  cells : ∃ cs : List Int, μ[1]? = some (.lst (cs.map .int)) ∧ cs.length ≤ n
  draw : ∃ r u : Int, μ[2]? = some (.dct [(.inr "wide", .ref 0), (.inr "cells", .ref 1), (.inr "rest", .int r), (.inr "turn", .int u)]) ∧ 0 ≤ r ∧ 0 ≤ u ∧ u ≤ t
theorem abs_ev (z : Int) : (if z < 0 then -z else z) = (z.natAbs : Int) := by
  split <;> omega
/-- a comprehension whose step leaves the store, as a value -/
theorem comp_pure {P : Pg} {F : Nat → List D → Mu → R D} {own : List Nat} {tg : LG} {it : LI} {c : LA} {e : LE} {ρ : Fr} {μ : Mu} {src : Src} {xs : List D} (f : D → Option D) (hi : evI P F it ρ μ = .ok src μ) (hs : src.all μ = some xs) (hz : xs.length ≤ sizeLine)
    (hstep : ∀ d ∈ xs, ∃ ρ', bindG tg d (wipeF ρ own) = some ρ' ∧ ((evC P F c ρ' μ).bind fun b μ => if b then (evE P F e ρ' μ).bind fun x μ => .ok (some x) μ else .ok none μ) = .ok (f d) μ) :
    evE P F (.comp own tg it c e) ρ μ = .ok (.ref μ.length) (μ ++ [.lst (xs.filterMap f)]) := by
  simp only [evE, hi, hs]
  rw [compN_pure (xs := xs) (f := f) hs (fun d hd => ?_) _ 0 [] (by simp) (by simpa using hz)]
  · simp [new]
  · obtain ⟨ρ', h1, h2⟩ := hstep d hd
    simp only [h1]
    exact h2
theorem begun_ok {P : Pg} {n k : Nat} {ns : List Int} (h : P.fns[0]? = some ⟨1, 3, dBegun⟩) (hn : ns.length ≤ n) (hz : n ≤ sizeLine) : (call P (k + 1) 0 [.rol (ns.map .int)] []).Ok fun d μ => d = .ref 2 ∧ Draw n 0 μ ∧ μ.length = 3 := by
  refine call_ok h rfl ?_
  have c1 := fun (ρ : Fr) (hρ : ρ[0]? = some (some (D.rol (ns.map D.int)))) (h2 : 2 < ρ.length) => comp_pure (P := P) (F := call P k) (own := [2]) (tg := .nm 2) (it := .exp (.var 0)) (c := .cons (.cmp .GtE (.bi .abs (.cons (.var 2) .nil)) (.bin .Pow (.cst (.int 10)) (.cst (.int 18)))) .nil)
    (e := .bin .Sub (.bi .abs (.cons (.var 2) .nil)) (.bin .Pow (.cst (.int 10)) (.cst (.int 18)))) (ρ := ρ) (μ := []) (src := .live (.rol (ns.map D.int))) (xs := ns.map D.int)
    (fun d => match d with
      | .int z => if 10 ^ 18 ≤ (z.natAbs : Int) then some (.int ((z.natAbs : Int) - 10 ^ 18)) else none
      | _ => none) (by simp [evI, evE, hρ, R.bind, lst?]) rfl (by simp; omega) (fun d hd => by
        obtain ⟨z, hz, rfl⟩ := List.mem_map.mp hd
        refine ⟨_, rfl, ?_⟩
        simp [bindG, wipeF, evC, evE, evA, R.bind, biD, opD, cmpD, ordD, blR, abs_ev, h2]
        split <;> rfl)
  have c2 := fun (ρ : Fr) (μ : Mu) (hρ : ρ[0]? = some (some (D.rol (ns.map D.int)))) (h2 : 2 < ρ.length) => comp_pure (P := P) (F := call P k) (own := [2]) (tg := .nm 2) (it := .exp (.var 0)) (c := .nil)
    (e := .bin .Mod (.bi .int (.cons (.bi .abs (.cons (.var 2) .nil)) .nil)) (.cst (.int 2147483629))) (ρ := ρ) (μ := μ) (src := .live (.rol (ns.map D.int))) (xs := ns.map D.int)
    (fun d => match d with
      | .int z => some (.int ((z.natAbs : Int) % 2147483629))
      | _ => none) (by simp [evI, evE, hρ, R.bind, lst?]) rfl (by simp; omega) (fun d hd => by
        obtain ⟨z, hz, rfl⟩ := List.mem_map.mp hd
        refine ⟨_, rfl, ?_⟩
        simp [bindG, wipeF, evC, evE, evA, R.bind, biD, opD, cmpD, ordD, blR, abs_ev, h2])
  have e1 := c1 [some (D.rol (ns.map D.int)), none, none] rfl (by simp)
  have e2 := fun w => c2 [some (D.rol (ns.map D.int)), some (D.ref 0), none] [w] rfl (by simp)
  clear c1 c2
  show (evB P (call P k) dBegun [some (D.rol (ns.map D.int)), none, none] []).En _ _
  unfold dBegun
  generalize LE.comp [2] (.nm 2) (.exp (.var 0)) (.cons (.cmp .GtE (.bi .abs (.cons (.var 2) .nil)) (.bin .Pow (.cst (.int 10)) (.cst (.int 18)))) .nil) (.bin .Sub (.bi .abs (.cons (.var 2) .nil)) (.bin .Pow (.cst (.int 10)) (.cst (.int 18)))) = C1 at e1 ⊢
  generalize LE.comp [2] (.nm 2) (.exp (.var 0)) .nil (.bin .Mod (.bi .int (.cons (.bi .abs (.cons (.var 2) .nil)) .nil)) (.cst (.int 2147483629))) = C2 at e2 ⊢
  simp [evB, evS, en_thn, en_toS, e1, e2, ok_ok, asgT, evE, evA, R.bind, RS.En, R.toS, mkKv, key?, putD, kLook, new, RS.thn, str_inj]
  refine ⟨⟨ns.filterMap fun z => if 10 ^ 18 ≤ (z.natAbs : Int) then some ((z.natAbs : Int) - 10 ^ 18) else none, ?_, ?_, ?_⟩, ⟨ns.map fun z => (z.natAbs : Int) % 2147483629, ?_, by simpa using hn⟩, ⟨0, 0, rfl, Int.le_refl _, Int.le_refl _, Int.le_refl _⟩⟩
  · simp only [List.getElem?_cons_zero, Option.some.injEq, O.lst.injEq, List.map_filterMap]
    refine congrArg (fun g => List.filterMap g ns) (funext fun z => ?_)
    simp only [Function.comp_apply]
    split <;> simp_all
  · intro z hz
    rw [List.mem_filterMap] at hz
    obtain ⟨y, _, h2⟩ := hz
    split at h2
    · cases h2
      omega
    · cases h2
  · exact Nat.le_trans (List.length_filterMap_le _ _) hn
  · simp only [List.getElem?_cons_succ, List.getElem?_cons_zero, Option.some.injEq, O.lst.injEq, List.map_map]
    rw [← List.filterMap_eq_map]
    rfl
end Lt

set_option Elab.async false
set_option linter.all false
set_option maxRecDepth 100000
set_option maxHeartbeats 4000000
/-! Pv0: programs run on values that nobody changes: the pure evaluator, with drawn numbers. -/
namespace Lt
open PySem L2

inductive PV where
  | non | bl (b : Bool) | int (i : Int) | str (s : Str) | tup (l : List PV) | lst (l : List PV) | dct (l : List (Key × PV))
  | exc (c : Nat) (fs : List (Str × PV)) (m : Option Str) | ins (c : Nat) (fs : List (Str × PV)) | drw | rol (n : Nat)

/-- a tree of drawn numbers -/
inductive T (α : Type) where
  | ret (a : α)
  | drw (n : Nat) (k : Nat → T α)
  | exc (c : Nat) (fs : List (Str × PV))
  | bad
def T.bind {α β : Type} : T α → (α → T β) → T β
  | .ret a, f => f a
  | .drw n k, f => .drw n fun r => (k r).bind f
  | .exc c fs, _ => .exc c fs
  | .bad, _ => .bad
abbrev EX := Nat → Nat → List (Str × PV) → Prop
/-- with b draws at most: each end is as told -/
def T.All {α : Type} : Nat → T α → (Nat → α → Prop) → EX → Prop
  | b, .ret a, Q, _ => Q b a
  | b, .drw n k, Q, E => 0 < n ∧ n < 1073741824 ∧ 0 < b ∧ ∀ r, r < n → (k r).All (b - 1) Q E
  | b, .exc c fs, _, E => E b c fs
  | _, .bad, _, _ => False
theorem all_bind {α β : Type} {Q : Nat → β → Prop} {E : EX} {f : α → T β} : ∀ {t : T α} {b : Nat}, (t.bind f).All b Q E ↔ t.All b (fun b a => (f a).All b Q E) E
  | .ret _, _ => Iff.rfl
  | .exc _ _, _ => Iff.rfl
  | .bad, _ => Iff.rfl
  | .drw n k, b => by
    constructor
    · rintro ⟨h1, h2, h3, h4⟩
      exact ⟨h1, h2, h3, fun r hr => all_bind.mp (h4 r hr)⟩
    · rintro ⟨h1, h2, h3, h4⟩
      exact ⟨h1, h2, h3, fun r hr => all_bind.mpr (h4 r hr)⟩
theorem T.All.imp {α : Type} {Q Q' : Nat → α → Prop} {E E' : EX} (hq : ∀ b a, Q b a → Q' b a) (he : ∀ b c fs, E b c fs → E' b c fs) : ∀ {t : T α} {b : Nat}, t.All b Q E → t.All b Q' E'
  | .ret _, _, h => hq _ _ h
  | .exc _ _, _, h => he _ _ _ h
  | .bad, _, h => h
  | .drw n k, b, ⟨h1, h2, h3, h4⟩ => ⟨h1, h2, h3, fun r hr => (h4 r hr).imp hq he⟩
def T.of {α : Type} : Option α → T α
  | some a => .ret a
  | none => .bad
/-- no exception leaves it -/
def T.calm {α : Type} : T α → T α
  | .ret a => .ret a
  | .drw n k => .drw n fun r => (k r).calm
  | .exc _ _ => .bad
  | .bad => .bad
theorem all_calm {α : Type} {Q : Nat → α → Prop} {E : EX} : ∀ {t : T α} {b : Nat}, t.calm.All b Q E → t.All b Q fun _ _ _ => False
  | .ret _, _, h => h
  | .exc _ _, _, h => h
  | .bad, _, h => h
  | .drw n k, b, ⟨h1, h2, h3, h4⟩ => ⟨h1, h2, h3, fun r hr => all_calm (h4 r hr)⟩

/-! ### reading -/
/-- as plain data -/
def pP : Nat → PV → Option PyData
  | 0, _ => none
  | _ + 1, .non => some .none
  | _ + 1, .bl b => some (.bool b)
  | _ + 1, .int i => some (.int i)
  | _ + 1, .str s => some (.str s)
  | n + 1, .tup l => (l.mapM (pP n)).map .tuple
  | n + 1, .lst l => (l.mapM (pP n)).map .list
  | n + 1, .dct kvs => (kvs.mapM fun kv => (pP n kv.2).map fun v => ((match kv.1 with
        | .inl i => PyData.int i
        | .inr s => PyData.str s), v)).map .dict
  | _, _ => none
def pshaped2 (x y : PV) : Option (PyData × PyData) := match pP 60 x, pP 60 y with
  | some p, some q => if SeqAt.shaped p && SeqAt.shaped q then some (p, q) else none
  | _, _ => none
def pLook (kvs : List (Key × PV)) (k : Key) : Option PV := (kvs.find? fun kv => decide (kv.1 = k)).map (·.2)
def pput (kvs : List (Key × PV)) (k : Key) (v : PV) : List (Key × PV) :=
  if (pLook kvs k).isSome then kvs.map fun kv => if kv.1 = k then (kv.1, v) else kv else kvs ++ [(k, v)]
def pputF (fs : List (Str × PV)) (k : Str) (v : PV) : List (Str × PV) :=
  match fs with
  | [] => [(k, v)]
  | p :: r => if p.1 = k then (k, v) :: r else p :: pputF r k v
def pkey? : PV → Option Key
  | .int i => some (.inl i)
  | .str s => some (.inr s)
  | _ => none

def pop2 (op : Operator) (x y : PV) : Option PV := match op, x, y with
  | .Add, .int i, .int j => some (.int (i + j))
  | .Sub, .int i, .int j => some (.int (i - j))
  | .Mult, .int i, .int j => if (-(2 ^ 64) < i ∧ i < 2 ^ 64) ∨ (-(2 ^ 64) < j ∧ j < 2 ^ 64) then some (.int (i * j)) else none
  | .FloorDiv, .int i, .int j => if 0 < j ∧ j < 1073741824 then some (.int (i / j)) else none
  | .Mod, .int i, .int j => if 0 < j then some (.int (i % j)) else none
  | .Pow, .int i, .int j => if 0 ≤ j ∧ j ≤ 1000000 ∧ i.natAbs < 2 ^ 64 then some (.int (i ^ j.toNat)) else none
  | .Add, .str a, .str b => if a.length + b.length ≤ sizeLine then some (.str (a ++ b)) else none
  | .Add, .lst xs, .lst ys => if xs.length + ys.length ≤ sizeLine then some (.lst (xs ++ ys)) else none
  | .Mult, .lst xs, .int k => if -(2 ^ 63) ≤ k ∧ k < 2 ^ 63 ∧ xs.length * k.toNat ≤ sizeLine then some (.lst (List.replicate k.toNat xs).flatten) else none
  | _, _, _ => none
def pord (op : CmpOp) (x y : PV) : Option Bool := match op, x, y with
  | .Lt, .int i, .int j => some (decide (i < j))
  | .LtE, .int i, .int j => some (decide (i ≤ j))
  | .Gt, .int i, .int j => some (decide (j < i))
  | .GtE, .int i, .int j => some (decide (j ≤ i))
  | _, _, _ => none
def peq (x y : PV) : Option Bool := (pshaped2 x y).map fun p => PyData.eqv p.1 p.2
def pin (x y : PV) : Option Bool := match y with
  | .lst _ => (match pshaped2 x y with
      | some (d, .list ds) => some (ds.any fun z => PyData.eqv z d)
      | _ => none)
  | .dct kvs => (pkey? x).map fun k => (pLook kvs k).isSome
  | .tup _ => (match pshaped2 x y with
      | some (d, .tuple ds) => some (ds.any fun z => PyData.eqv z d)
      | _ => none)
  | .str t => (match x with
      | .str s => some (!(Builtin.Str.occurrences t s 0 t.length 1).isEmpty)
      | _ => none)
  | _ => none
def pis (x y : PV) : Option Bool := match x, y with
  | .non, .non => some true
  | .bl a, .bl b => some (decide (a = b))
  | _, .non => some false
  | _, _ => none
def pcmp (op : CmpOp) (x y : PV) : Option Bool := match op with
  | .Eq => peq x y
  | .NotEq => (peq x y).map (!·)
  | .In => pin x y
  | .NotIn => (pin x y).map (!·)
  | .Is => pis x y
  | .IsNot => (pis x y).map (!·)
  | _ => pord op x y
def pix (x i : PV) : Option PV := match x, i with
  | .tup ds, .int k => atI ds k
  | .lst ds, .int k => atI ds k
  | .dct kvs, k => (pkey? k).bind fun k => pLook kvs k
  | _, _ => none

def pcls (P : Pg) (d : PV) : Option Ty := match d with
  | .non => some (.py "NoneType")
  | .bl _ => some (.py "bool")
  | .int _ => some (.py "int")
  | .str _ => some (.py "str")
  | .tup _ => some (.py "tuple")
  | .lst _ => some (.py "list")
  | .dct _ => some (.py "dict")
  | .ins c _ => if P.isIns c then some (.cls c) else none
  | .exc c _ _ => if P.isExc c then some (.cls c) else none
  | .drw => none
  | .rol _ => some (.py "list")
def pisi (P : Pg) (d : PV) : List Ty → Option Bool
  | [] => some false
  | t :: ts => match (pcls P d).map (subT P · t) with
    | some true => some true
    | some false => pisi P d ts
    | none => none
def pbls : List PV → Option (List Bool)
  | [] => some []
  | .bl b :: r => (pbls r).map (b :: ·)
  | _ => none
def pbi (P : Pg) (b : BI) (ds : List PV) : Option PV := match b, ds with
  | .len, [.str s] => if s.length ≤ sizeLine then some (.int s.length) else none
  | .len, [.tup l] => some (.int l.length)
  | .len, [.lst l] => some (.int l.length)
  | .len, [.dct l] => some (.int l.length)
  | .len, [.rol n] => some (.int n)
  | .abs, [.int i] => some (.int (if i < 0 then -i else i))
  | .int, [.int i] => some (.int i)
  | .int, [.bl b] => some (.int (if b then 1 else 0))
  | .min2, [.int i, .int j] => some (.int (if j < i then j else i))
  | .max2, [.int i, .int j] => some (.int (if j > i then j else i))
  | .all, [.lst l] => (pbls l).map fun bs => .bl (bs.all id)
  | .any, [.lst l] => (pbls l).map fun bs => .bl (bs.any id)
  | .repr, [d] => (match pP 60 d with
    | some p => if p.showable && decide (p.depth ≤ 64) && decide (p.shown.length ≤ sizeLine) then some (.str p.shown) else none
    | none => none)
  | .str, [.exc c _ (some s)] => if P.isExc c then some (.str s) else none
  | .list, [.tup l] => some (.lst l)
  | .list, [.lst l] => some (.lst l)
  | .tuple, [.tup l] => some (.tup l)
  | .tuple, [.lst l] => some (.tup l)
  | _, _ => none
def pexcArgs (P : Pg) (c : Nat) (ds : List PV) : Option (List (Str × PV) × Option Str) := match P.cls[c]? with
  | some k => if k.exc then (match k.field, ds with
      | some f, [d] => some ([(f, d)], none)
      | none, [.str s] => some ([], some s)
      | _, _ => none) else none
  | none => none

/-! ### frames -/
/-- a slot's value; true: the slot alone has it -/
abbrev PFr := List (Option (Bool × PV))
def psetFr : PFr → List Nat → List PV → Option PFr
  | ρ, [], [] => some ρ
  | ρ, i :: is, d :: ds => psetFr (ρ.set i (some (false, d))) is ds
  | _, _, _ => none
def pbindG (g : LG) (d : PV) (ρ : PFr) : Option PFr := match g, d with
  | .nm i, d => some (ρ.set i (some (false, d)))
  | .tp is, .tup ds => psetFr ρ is ds
  | _, _ => none
def pwipe (ρ : PFr) : List Nat → PFr
  | [] => ρ
  | v :: vs => (pwipe ρ vs).set v none
def isOwn (ρ : PFr) (j : Nat) : Bool := match ρ[j]? with
  | some (some (true, _)) => true
  | _ => false
/-- a slot's value is no longer its own -/
def rel1 (ρ : PFr) (j : Nat) : PFr := match ρ[j]? with
  | some (some (true, v)) => ρ.set j (some (false, v))
  | _ => ρ
def rel (ρ : PFr) : List Nat → PFr
  | [] => ρ
  | j :: js => rel (rel1 ρ j) js

mutual
/-- the slots whose values an expression may give on -/
def leakE : LE → List Nat
  | .var i => [i]
  | .cst _ => []
  | .bin _ a b => leakB a ++ leakB b
  | .neg a => leakB a
  | .cmp _ a b => leakB a ++ leakB b
  | .chain _ _ a b c => leakB a ++ leakB b ++ leakB c
  | .and a b => leakE a ++ leakE b
  | .or a b => leakE a ++ leakE b
  | .not a => leakB a
  | .ite c a b => leakB c ++ leakE a ++ leakE b
  | .tup as => leakA as
  | .lst as => leakA as
  | .dct as => leakA as
  | .ix a i => leakB a ++ leakB i
  | .sl a lo hi => leakB a ++ leakB lo ++ leakB hi
  | .attr a _ => leakE a
  | .fn _ as => leakA as
  | .mk _ as => leakA as
  | .bi b as => leakAB as
  | .isi a _ => leakB a
  | .meth a _ as => leakE a ++ leakA as
  | .comp _ _ it c e => leakI it ++ leakA c ++ leakE e
/-- .. that is only read -/
def leakB : LE → List Nat
  | .var _ => []
  | .cst _ => []
  | .bin _ a b => leakB a ++ leakB b
  | .neg a => leakB a
  | .cmp _ a b => leakB a ++ leakB b
  | .chain _ _ a b c => leakB a ++ leakB b ++ leakB c
  | .and a b => leakE a ++ leakE b
  | .or a b => leakE a ++ leakE b
  | .not a => leakB a
  | .ite c a b => leakB c ++ leakE a ++ leakE b
  | .tup as => leakA as
  | .lst as => leakA as
  | .dct as => leakA as
  | .ix a i => leakB a ++ leakB i
  | .sl a lo hi => leakB a ++ leakB lo ++ leakB hi
  | .attr a _ => leakE a
  | .fn _ as => leakA as
  | .mk _ as => leakA as
  | .bi b as => leakAB as
  | .isi a _ => leakB a
  | .meth a _ as => leakE a ++ leakA as
  | .comp _ _ it c e => leakI it ++ leakA c ++ leakE e
def leakA : LA → List Nat
  | .nil => []
  | .cons e as => leakE e ++ leakA as
def leakAB : LA → List Nat
  | .nil => []
  | .cons e as => leakB e ++ leakAB as
def leakI : LI → List Nat
  | .exp e => leakB e
  | .rng e => leakB e
  | .enum e => leakB e
end
end Lt

set_option Elab.async false
set_option linter.all false
set_option maxRecDepth 100000
set_option maxHeartbeats 4000000
/-! Pv1: the pure evaluator. -/
namespace Lt
open PySem L2

def pcompN (step : PV → T (Option PV)) : List PV → List PV → T (List PV)
  | [], acc => .ret acc
  | v :: r, acc => (step v).bind fun o => match o with
    | some x => if acc.length < sizeLine then pcompN step r (acc ++ [x]) else .bad
    | none => pcompN step r acc
inductive PS where
  | nx (ρ : PFr)
  | ret (v : PV)
  | brk (ρ : PFr)
  | ct (ρ : PFr)
def T.thn (t : T PS) (f : PFr → T PS) : T PS := t.bind fun s => match s with
  | .nx ρ => f ρ
  | s => .ret s
def pforN (body : PV → PFr → T PS) : List PV → PFr → T PS
  | [], ρ => .ret (.nx ρ)
  | v :: r, ρ => (body v ρ).bind fun s => match s with
    | .nx ρ => pforN body r ρ
    | .ct ρ => pforN body r ρ
    | .brk ρ => .ret (.nx ρ)
    | .ret v => .ret (.ret v)
def pwhileN (rl : PFr → PFr) (test : PFr → T PV) (body : PFr → T PS) : Nat → PFr → T PS
  | 0, _ => .bad
  | n + 1, ρ => (test (rl ρ)).bind fun v => match v with
    | .bl true => (body (rl ρ)).bind fun s => match s with
      | .nx ρ => pwhileN rl test body n ρ
      | .ct ρ => pwhileN rl test body n ρ
      | .brk ρ => .ret (.nx ρ)
      | .ret v => .ret (.ret v)
    | .bl false => .ret (.nx (rl ρ))
    | _ => .bad
def pmkKv : List PV → Option (List (Key × PV))
  | [] => some []
  | k :: v :: r => match pkey? k, pmkKv r with
    | some k, some r => some ((k, v) :: r)
    | _, _ => none
  | _ => none

section
variable (P : Pg) (F : Nat → List PV → T PV) (I : Nat → Nat → List PV → T PV)
def pattr (d : PV) (f : Str) : T PV := match d with
  | .ins c fs => (match P.cls[c]? with
      | some k => if k.exc then .bad else (match k.props.lookup f with
        | some p => (F p [d]).calm
        | none => if f ∈ k.fields then .of (fs.lookup f) else .bad)
      | none => .bad)
  | .exc c fs _ => (match P.cls[c]? with
      | some k => if k.exc = true ∧ f ∈ k.fields then .of (fs.lookup f) else .bad
      | none => .bad)
  | _ => .bad
def pmk (c : Nat) (ds : List PV) : T PV := match P.cls[c]? with
  | some k => if k.exc then (match pexcArgs P c ds with
      | some (fs, m) => .ret (.exc c fs m)
      | none => .bad)
    else (match k.init with
      | some f => I f c ds
      | none => .bad)
  | none => .bad
def pmeth (x : PV) (m : Str) : Option Nat := match x with
  | .ins c fs => (match P.cls[c]? with
      | some k => if k.exc then none else (match k.meths.lookup m, fs.lookup m with
        | some f, none => some f
        | _, _ => none)
      | none => none)
  | _ => none

mutual
def pvE : LE → PFr → T PV
  | .var i, ρ => match ρ[i]? with
    | some (some (_, d)) => .ret d
    | _ => .bad
  | .cst d, _ => match d with
    | .non => .ret .non
    | .bl b => .ret (.bl b)
    | .int i => .ret (.int i)
    | .str s => .ret (.str s)
    | _ => .bad
  | .bin op a b, ρ => (pvE a ρ).bind fun x => (pvE b ρ).bind fun y => .of (pop2 op x y)
  | .neg a, ρ => (pvE a ρ).bind fun x => match x with
    | .int i => .ret (.int (-i))
    | _ => .bad
  | .cmp op a b, ρ => (pvE a ρ).bind fun x => (pvE b ρ).bind fun y => .of ((pcmp op x y).map PV.bl)
  | .chain op op' a b c, ρ => (pvE a ρ).bind fun x => (pvE b ρ).bind fun y => match pcmp op x y with
    | some true => (pvE c ρ).bind fun z => .of ((pcmp op' y z).map PV.bl)
    | some false => .ret (.bl false)
    | none => .bad
  | .and a b, ρ => (pvE a ρ).bind fun x => match x with
    | .bl true => pvE b ρ
    | .bl false => .ret (.bl false)
    | _ => .bad
  | .or a b, ρ => (pvE a ρ).bind fun x => match x with
    | .bl true => .ret (.bl true)
    | .bl false => pvE b ρ
    | _ => .bad
  | .not a, ρ => (pvE a ρ).bind fun x => match x with
    | .bl b => .ret (.bl (!b))
    | _ => .bad
  | .ite c a b, ρ => (pvE c ρ).bind fun x => match x with
    | .bl true => pvE a ρ
    | .bl false => pvE b ρ
    | _ => .bad
  | .tup as, ρ => (pvA as ρ).bind fun ds => if ds.length ≤ sizeLine then .ret (.tup ds) else .bad
  | .lst as, ρ => (pvA as ρ).bind fun ds => if ds.length ≤ sizeLine then .ret (.lst ds) else .bad
  | .dct as, ρ => (pvA as ρ).bind fun ds => match pmkKv ds with
    | some kvs => if kvs.length ≤ 15 then .ret (.dct (kvs.foldl (fun acc kv => pput acc kv.1 kv.2) [])) else .bad
    | none => .bad
  | .ix a i, ρ => (pvE a ρ).bind fun x => (pvE i ρ).bind fun y => .of (pix x y)
  | .sl a lo hi, ρ => .bad
  | .attr a f, ρ => (pvE a ρ).bind fun x => pattr P F x f
  | .fn f as, ρ => (pvA as ρ).bind fun ds => F f ds
  | .mk c as, ρ => (pvA as ρ).bind fun ds => pmk P I c ds
  | .bi b as, ρ => (pvA as ρ).bind fun ds => .of (pbi P b ds)
  | .isi a ts, ρ => (pvE a ρ).bind fun x => .of ((pisi P x ts).map PV.bl)
  | .meth a m as, ρ => (pvE a ρ).bind fun x => match pmeth P x m with
    | some f => (pvA as ρ).bind fun ds => F f (x :: ds)
    | none => .bad
  | .comp own tg it c e, ρ => (pvI it ρ).bind fun vs => ((pcompN (fun v => match pbindG tg v (pwipe ρ own) with
      | some ρ' => (pvC c ρ').bind fun b => if b then (pvE e ρ').bind fun x => .ret (some x) else .ret none
      | none => .bad) vs []).calm).bind fun ys => .ret (.lst ys)
def pvA : LA → PFr → T (List PV)
  | .nil, _ => .ret []
  | .cons e as, ρ => (pvE e ρ).bind fun d => (pvA as ρ).bind fun ds => .ret (d :: ds)
def pvC : LA → PFr → T Bool
  | .nil, _ => .ret true
  | .cons e .nil, ρ => (pvE e ρ).bind fun d => match d with
    | .bl b => .ret b
    | _ => .bad
  | _, _ => .bad
def pvI : LI → PFr → T (List PV)
  | .exp e, ρ => (pvE e ρ).bind fun d => match d with
    | .tup ds => .ret ds
    | .lst ds => .ret ds
    | _ => .bad
  | .rng e, ρ => (pvE e ρ).bind fun d => match d with
    | .int n => if -(2 ^ 62) ≤ n ∧ n < 2 ^ 62 then .ret ((List.range n.toNat).map fun (k : Nat) => PV.int (k : Int)) else .bad
    | _ => .bad
  | .enum e, ρ => (pvE e ρ).bind fun d => match d with
    | .lst ds => .ret (ds.mapIdx fun k d => .tup [.int k, d])
    | _ => .bad
end

/-- an expression whose value is a new list or dict -/
def isFresh : LE → Bool
  | .lst _ => true
  | .dct _ => true
  | .comp _ _ _ _ _ => true
  | .bi .list _ => true
  | .bin .Add _ _ => true
  | .bin .Mult _ _ => true
  | _ => false
def isLD : PV → Bool
  | .lst _ => true
  | .dct _ => true
  | _ => false
def leakS : LI → List Nat
  | .exp e => leakE e
  | .rng e => leakB e
  | .enum e => leakE e
def prel (e : LE) (ρ : PFr) : PFr := rel ρ (leakE e)
def pasgT (t : LT) (fr : Bool) (d : PV) (ρ : PFr) : T PS := match t with
  | .nm i => .ret (.nx (ρ.set i (some (fr, d))))
  | .tp is => (match d with
    | .tup ds => (match psetFr ρ is ds with
      | some ρ' => .ret (.nx ρ')
      | none => .bad)
    | _ => .bad)
  | .sub (.var j) k => (match ρ[j]? with
    | some (some (true, o)) => (pvE P F I k (prel k ρ)).bind fun y => (match (prel k ρ)[j]?, o, y with
      | some (some (true, _)), .lst xs, .int i => (match ixN xs.length i with
        | some n => .ret (.nx ((prel k ρ).set j (some (true, .lst (xs.set n d)))))
        | none => .bad)
      | some (some (true, _)), .dct kvs, y => (match pkey? y with
        | some k' => if kvs.length < sizeLine then .ret (.nx ((prel k ρ).set j (some (true, .dct (pput kvs k' d))))) else .bad
        | none => .bad)
      | _, _, _ => .bad)
    | _ => .bad)
  | .at (.var j) f => (match ρ[j]? with
    | some (some (true, .ins c fs)) => (match P.cls[c]? with
      | some k => if k.exc = false ∧ f ∈ k.fields ∧ fs.length < 900 then .ret (.nx (ρ.set j (some (true, .ins c (pputF fs f d))))) else .bad
      | none => .bad)
    | _ => .bad)
  | _ => .bad

/-- x.append(a), x.append(y.pop(b)): x, y slots that have their lists alone -/
def appOf (ρ : PFr) : LE → Option (Nat × (LE ⊕ (Nat × LE)))
  | .meth (.var j) m (.cons (.meth (.var j') m' (.cons b .nil)) .nil) =>
    if m = "append" ∧ isOwn ρ j = true then (if m' = "pop" ∧ isOwn ρ j' = true ∧ j ≠ j' then some (j, .inr (j', b)) else some (j, .inl (.meth (.var j') m' (.cons b .nil)))) else none
  | .meth (.var j) m (.cons a .nil) => if m = "append" ∧ isOwn ρ j = true then some (j, .inl a) else none
  | _ => none
mutual
def pvS : LS → PFr → T PS
  | .asg t e, ρ => (pvE P F I e (prel e ρ)).bind fun d => pasgT P F I t (isFresh e && isLD d) d (prel e ρ)
  | .par is es, ρ => (pvA P F I es (rel ρ (leakA es))).bind fun ds => match psetFr (rel ρ (leakA es)) is ds with
    | some ρ' => .ret (.nx ρ')
    | none => .bad
  | .expr e, ρ => match appOf ρ e with
    | some (j, .inl a) => (match (prel a ρ)[j]? with
      | some (some (true, .lst xs)) => (pvE P F I a (prel a ρ)).bind fun v => if xs.length < sizeLine then .ret (.nx ((prel a ρ).set j (some (true, .lst (xs ++ [v]))))) else .bad
      | _ => .bad)
    | some (j, .inr (j', b)) => (match (prel b ρ)[j]?, (prel b ρ)[j']? with
      | some (some (true, .lst xs)), some (some (true, .lst ys)) => (pvE P F I b (prel b ρ)).bind fun k => (match k with
        | .int k => if -(2 ^ 63) ≤ k ∧ k < 2 ^ 63 then (match seqIndex? k ys.length with
            | some i => (match ys[i]? with
              | some y => if xs.length < sizeLine then .ret (.nx (((prel b ρ).set j' (some (true, .lst (ys.eraseIdx i)))).set j (some (true, .lst (xs ++ [y]))))) else .bad
              | none => .bad)
            | none => .bad) else .bad
        | _ => .bad)
      | _, _ => .bad)
    | none => (pvE P F I e (prel e ρ)).bind fun _ => .ret (.nx (prel e ρ))
  | .ret e, ρ => (pvE P F I e (prel e ρ)).bind fun d => .ret (.ret d)
  | .retN, ρ => .ret (.ret .non)
  | .ite c a b, ρ => (pvE P F I c (prel c ρ)).bind fun d => match d with
    | .bl true => pvB a (prel c ρ)
    | .bl false => pvB b (prel c ρ)
    | _ => .bad
  | .for g it b, ρ => (pvI P F I it (rel ρ (leakS it))).bind fun vs => pforN (fun v ρ => match pbindG g v ρ with
      | some ρ' => pvB b ρ'
      | none => .bad) vs (rel ρ (leakS it))
  | .while c b, ρ => pwhileN (prel c) (pvE P F I c) (pvB b) P.fuel ρ
  | .raise c as, ρ => (pvA P F I as (rel ρ (leakA as))).bind fun ds => match pexcArgs P c ds with
    | some (fs, _) => .exc c fs
    | none => .bad
  | .pass, ρ => .ret (.nx ρ)
  | .brk, ρ => .ret (.brk ρ)
  | .cont, ρ => .ret (.ct ρ)
def pvB : LB → PFr → T PS
  | .nil, ρ => .ret (.nx ρ)
  | .cons s r, ρ => (pvS s ρ).thn fun ρ => pvB r ρ
end
end
end Lt

set_option Elab.async false
set_option linter.all false
set_option maxRecDepth 100000
set_option maxHeartbeats 4000000
/-! Pv2: values in the store. -/
namespace Lt
open PySem L2

/-- it is none of those that a slot alone has -/
def Fre (W : Nat → Prop) (d : D) : Prop := ∀ i, d = .ref i → ¬ W i
mutual
/-- d stands for the value in the store; what it holds is none of W -/
def Rb (W : Nat → Prop) (μ : Mu) : PV → D → Prop
  | .non, d => d = .non
  | .bl b, d => d = .bl b
  | .int i, d => d = .int i
  | .str s, d => d = .str s
  | .tup l, d => ∃ ds, d = .tup ds ∧ Rps W μ l ds
  | .lst l, d => ∃ i ds, d = .ref i ∧ 3 ≤ i ∧ μ[i]? = some (.lst ds) ∧ Rps W μ l ds
  | .dct l, d => ∃ i kvs, d = .ref i ∧ 3 ≤ i ∧ μ[i]? = some (.dct kvs) ∧ Rpk W μ l kvs
  | .exc c fs m, d => ∃ i gs, d = .ref i ∧ 3 ≤ i ∧ μ[i]? = some (.exc c gs m) ∧ Rpf W μ fs gs
  | .ins c fs, d => ∃ i gs, d = .ref i ∧ 3 ≤ i ∧ μ[i]? = some (.ins c gs) ∧ Rpf W μ fs gs
  | .drw, d => d = .ref 2
  | .rol n, d => ∃ ds, d = .rol ds ∧ ds.length = n
def Rps (W : Nat → Prop) (μ : Mu) : List PV → List D → Prop
  | [], ds => ds = []
  | v :: vs, ds => ∃ d r, ds = d :: r ∧ (Rb W μ v d ∧ Fre W d) ∧ Rps W μ vs r
def Rpk (W : Nat → Prop) (μ : Mu) : List (Key × PV) → List (Key × D) → Prop
  | [], ds => ds = []
  | (k, v) :: vs, ds => ∃ d r, ds = (k, d) :: r ∧ (Rb W μ v d ∧ Fre W d) ∧ Rpk W μ vs r
def Rpf (W : Nat → Prop) (μ : Mu) : List (Str × PV) → List (Str × D) → Prop
  | [], ds => ds = []
  | (k, v) :: vs, ds => ∃ d r, ds = (k, d) :: r ∧ (Rb W μ v d ∧ Fre W d) ∧ Rpf W μ vs r
end
def Rp (W : Nat → Prop) (μ : Mu) (v : PV) (d : D) : Prop := Rb W μ v d ∧ Fre W d

/-- what stood in the store stands there; the draws aside, and what is of W -/
def Kp (W : Nat → Prop) (μ μ' : Mu) : Prop := μ.length ≤ μ'.length ∧ ∀ i, 3 ≤ i → i < μ.length → ¬ W i → μ'[i]? = μ[i]?
def no0 : Nat → Prop := fun _ => False
theorem Kp.refl {W : Nat → Prop} {μ : Mu} : Kp W μ μ := ⟨Nat.le_refl _, fun _ _ _ _ => rfl⟩
theorem Kp.trans {W : Nat → Prop} {μ μ1 μ2 : Mu} (a : Kp W μ μ1) (b : Kp W μ1 μ2) : Kp W μ μ2 :=
  ⟨Nat.le_trans a.1 b.1, fun i h1 h2 h3 => (b.2 i h1 (Nat.lt_of_lt_of_le h2 a.1) h3).trans (a.2 i h1 h2 h3)⟩
theorem Kp.to {W : Nat → Prop} {μ μ1 : Mu} (a : Kp no0 μ μ1) : Kp W μ μ1 := ⟨a.1, fun i h1 h2 _ => a.2 i h1 h2 id⟩
theorem Kp.app {W : Nat → Prop} {μ : Mu} (o : O) : Kp W μ (μ ++ [o]) := ⟨by simp, fun i _ h _ => by rw [List.getElem?_append_left h]⟩
theorem Fre.sub {W W' : Nat → Prop} {d : D} (h : Fre W d) (s : ∀ i, W' i → W i) : Fre W' d := fun i e hw => h i e (s i hw)
theorem lt_of_some {α : Type} {l : List α} {i : Nat} {o : α} (h : l[i]? = some o) : i < l.length := (List.getElem?_eq_some_iff.mp h).1

/-- what a value in the store leans on: the same W or less, or new places; the same objects -/
structure Mv (W W' : Nat → Prop) (μ μ' : Mu) : Prop where
  l3 : 3 ≤ μ.length
  keep : ∀ i, 3 ≤ i → i < μ.length → ¬ W i → μ'[i]? = μ[i]?
  sub : ∀ i, W' i → W i ∨ μ.length ≤ i
theorem Mv.ob {W W' : Nat → Prop} {μ μ' : Mu} (m : Mv W W' μ μ') {i : Nat} {o : O} (h3 : 3 ≤ i) (h : μ[i]? = some o) (hw : ¬ W i) : μ'[i]? = some o := by
  rw [m.keep i h3 (lt_of_some h) hw, h]
mutual
/-- a value as a whole; the top one may be one of W that is kept -/
theorem Rb.mv {W W' : Nat → Prop} {μ μ' : Mu} (m : Mv W W' μ μ') : ∀ (v : PV) (d : D), (∀ i, d = .ref i → 3 ≤ i → i < μ.length → μ'[i]? = μ[i]?) → Rb W μ v d → Rb W' μ' v d
  | .non, _, _, h => h
  | .bl _, _, _, h => h
  | .int _, _, _, h => h
  | .str _, _, _, h => h
  | .drw, _, _, h => h
  | .rol _, _, _, h => h
  | .tup l, d, _, h => by
    obtain ⟨ds, rfl, hr⟩ := h
    exact ⟨ds, rfl, Rps.mv m l ds hr⟩
  | .lst l, d, t, h => by
    obtain ⟨i, ds, rfl, h3, hi, hr⟩ := h
    exact ⟨i, ds, rfl, h3, by rw [t i rfl h3 (lt_of_some hi), hi], Rps.mv m l ds hr⟩
  | .dct l, d, t, h => by
    obtain ⟨i, ds, rfl, h3, hi, hr⟩ := h
    exact ⟨i, ds, rfl, h3, by rw [t i rfl h3 (lt_of_some hi), hi], Rpk.mv m l ds hr⟩
  | .exc c l x, d, t, h => by
    obtain ⟨i, ds, rfl, h3, hi, hr⟩ := h
    exact ⟨i, ds, rfl, h3, by rw [t i rfl h3 (lt_of_some hi), hi], Rpf.mv m l ds hr⟩
  | .ins c l, d, t, h => by
    obtain ⟨i, ds, rfl, h3, hi, hr⟩ := h
    exact ⟨i, ds, rfl, h3, by rw [t i rfl h3 (lt_of_some hi), hi], Rpf.mv m l ds hr⟩
theorem Rps.mv {W W' : Nat → Prop} {μ μ' : Mu} (m : Mv W W' μ μ') : ∀ (v : List PV) (d : List D), Rps W μ v d → Rps W' μ' v d
  | [], _, h => h
  | v :: vs, ds, h => by
    obtain ⟨d, r, rfl, ⟨h1, h2⟩, h3⟩ := h
    refine ⟨d, r, rfl, ⟨Rb.mv m v d (fun i e a b => m.keep i a b (h2 i e)) h1, fun i e hw => ?_⟩, Rps.mv m vs r h3⟩
    subst e
    rcases m.sub i hw with z | z
    · exact h2 i rfl z
    · exact absurd (Rb.lt v _ h1 i rfl) (fun q => by have := m.l3; rcases q with q | q <;> omega)
theorem Rpk.mv {W W' : Nat → Prop} {μ μ' : Mu} (m : Mv W W' μ μ') : ∀ (v : List (Key × PV)) (d : List (Key × D)), Rpk W μ v d → Rpk W' μ' v d
  | [], _, h => h
  | (k, v) :: vs, ds, h => by
    obtain ⟨d, r, rfl, ⟨h1, h2⟩, h3⟩ := h
    refine ⟨d, r, rfl, ⟨Rb.mv m v d (fun i e a b => m.keep i a b (h2 i e)) h1, fun i e hw => ?_⟩, Rpk.mv m vs r h3⟩
    subst e
    rcases m.sub i hw with z | z
    · exact h2 i rfl z
    · exact absurd (Rb.lt v _ h1 i rfl) (fun q => by have := m.l3; rcases q with q | q <;> omega)
theorem Rpf.mv {W W' : Nat → Prop} {μ μ' : Mu} (m : Mv W W' μ μ') : ∀ (v : List (Str × PV)) (d : List (Str × D)), Rpf W μ v d → Rpf W' μ' v d
  | [], _, h => h
  | (k, v) :: vs, ds, h => by
    obtain ⟨d, r, rfl, ⟨h1, h2⟩, h3⟩ := h
    refine ⟨d, r, rfl, ⟨Rb.mv m v d (fun i e a b => m.keep i a b (h2 i e)) h1, fun i e hw => ?_⟩, Rpf.mv m vs r h3⟩
    subst e
    rcases m.sub i hw with z | z
    · exact h2 i rfl z
    · exact absurd (Rb.lt v _ h1 i rfl) (fun q => by have := m.l3; rcases q with q | q <;> omega)
/-- a ref of a value is a place of the store -/
theorem Rb.lt {W : Nat → Prop} {μ : Mu} : ∀ (v : PV) (d : D), Rb W μ v d → ∀ i, d = .ref i → i < μ.length ∨ i = 2
  | .non, _, h, i, e => by rw [h] at e; cases e
  | .bl _, _, h, i, e => by rw [h] at e; cases e
  | .int _, _, h, i, e => by rw [h] at e; cases e
  | .str _, _, h, i, e => by rw [h] at e; cases e
  | .drw, _, h, i, e => by rw [h] at e; cases e; exact .inr rfl
  | .rol _, _, h, i, e => by obtain ⟨ds, rfl, _⟩ := h; cases e
  | .tup l, d, h, i, e => by obtain ⟨ds, rfl, hr⟩ := h; cases e
  | .lst l, d, h, i, e => by
    obtain ⟨j, ds, rfl, h3, hi, hr⟩ := h; cases e; exact .inl (lt_of_some hi)
  | .dct l, d, h, i, e => by obtain ⟨j, ds, rfl, h3, hi, hr⟩ := h; cases e; exact .inl (lt_of_some hi)
  | .exc c l x, d, h, i, e => by obtain ⟨j, ds, rfl, h3, hi, hr⟩ := h; cases e; exact .inl (lt_of_some hi)
  | .ins c l, d, h, i, e => by obtain ⟨j, ds, rfl, h3, hi, hr⟩ := h; cases e; exact .inl (lt_of_some hi)
end
end Lt
namespace Lt
open PySem L2
theorem Rp.mv {W W' : Nat → Prop} {μ μ' : Mu} (m : Mv W W' μ μ') {v : PV} {d : D} (h : Rp W μ v d) : Rp W' μ' v d := by
  refine ⟨Rb.mv m v d (fun i e a b => m.keep i a b (h.2 i e)) h.1, fun i e hw => ?_⟩
  rcases m.sub i hw with z | z
  · exact h.2 i e z
  · exact absurd (Rb.lt v _ h.1 i e) (fun q => by have := m.l3; rcases q with q | q <;> omega)
/-- .. where nothing old is changed -/
theorem Mv.of {W : Nat → Prop} {μ μ' : Mu} (h3 : 3 ≤ μ.length) (k : Kp no0 μ μ') : Mv W W μ μ' := ⟨h3, fun i a b _ => k.2 i a b id, fun i h => .inl h⟩
theorem Rb.kp {W : Nat → Prop} {μ μ' : Mu} (h3 : 3 ≤ μ.length) (k : Kp no0 μ μ') {v : PV} {d : D} (h : Rb W μ v d) : Rb W μ' v d :=
  Rb.mv (Mv.of h3 k) v d (fun i _ a b => k.2 i a b id) h
theorem Rp.kp {W : Nat → Prop} {μ μ' : Mu} (h3 : 3 ≤ μ.length) (k : Kp no0 μ μ') {v : PV} {d : D} (h : Rp W μ v d) : Rp W μ' v d := Rp.mv (Mv.of h3 k) h
theorem Rps.kp {W : Nat → Prop} {μ μ' : Mu} (h3 : 3 ≤ μ.length) (k : Kp no0 μ μ') {v : List PV} {d : List D} (h : Rps W μ v d) : Rps W μ' v d := Rps.mv (Mv.of h3 k) v d h
/-- what a slot alone has -/
def Own (ρv : PFr) (ρ : Fr) (i : Nat) : Prop := ∃ (j : Nat) (v : PV), ρv[j]? = some (some (true, v)) ∧ ρ[j]? = some (some (D.ref i))
/-- the frames -/
structure Re (W : Nat → Prop) (μ : Mu) (ρv : PFr) (ρ : Fr) : Prop where
  len : ρv.length = ρ.length
  get : ∀ (j : Nat) (v : PV), ρv[j]? = some (some (false, v)) → ∃ d, ρ[j]? = some (some d) ∧ Rp W μ v d
  own : ∀ (j : Nat) (v : PV), ρv[j]? = some (some (true, v)) → ∃ i, ρ[j]? = some (some (D.ref i)) ∧ W i ∧ Rb W μ v (.ref i)
theorem Re.kp {W : Nat → Prop} {μ μ' : Mu} {ρv : PFr} {ρ : Fr} (h3 : 3 ≤ μ.length) (k : Kp no0 μ μ') (h : Re W μ ρv ρ) : Re W μ' ρv ρ where
  len := h.len
  get := fun j v e => by
    obtain ⟨d, h1, h2⟩ := h.get j v e
    exact ⟨d, h1, h2.kp h3 k⟩
  own := fun j v e => by
    obtain ⟨i, h1, h2, h4⟩ := h.own j v e
    exact ⟨i, h1, h2, h4.kp h3 k⟩
/-- the draws: n cells at most, b more draws allowed -/
def B0 : Int := 100000000000000
def Dr (n : Nat) (b : Nat) (μ : Mu) : Prop := n ≤ 1000 ∧ ∃ t : Int, 0 ≤ t ∧ Draw n t μ ∧ t + b ≤ B0
theorem Dr.l3 {n b : Nat} {μ : Mu} (h : Dr n b μ) : 3 ≤ μ.length := by
  obtain ⟨_, t, _, h, _⟩ := h
  obtain ⟨r, u, h, _⟩ := h.draw
  exact lt_of_some h
theorem Dr.app {n b : Nat} {μ : Mu} (h : Dr n b μ) (o : O) : Dr n b (μ ++ [o]) := by
  obtain ⟨h0, t, h1, h, h2⟩ := h
  refine ⟨h0, t, h1, ⟨?_, ?_, ?_⟩, h2⟩
  · obtain ⟨ws, a, b⟩ := h.wide
    exact ⟨ws, by rw [List.getElem?_append_left (lt_of_some a)]; exact a, b⟩
  · obtain ⟨ws, a, b⟩ := h.cells
    exact ⟨ws, by rw [List.getElem?_append_left (lt_of_some a)]; exact a, b⟩
  · obtain ⟨r, u, a, b⟩ := h.draw
    exact ⟨r, u, by rw [List.getElem?_append_left (lt_of_some a)]; exact a, b⟩
theorem Dr.set {n b : Nat} {μ : Mu} (h : Dr n b μ) {i : Nat} (hi : 3 ≤ i) (o : O) : Dr n b (μ.set i o) := by
  obtain ⟨h0, t, h1, h, h2⟩ := h
  refine ⟨h0, t, h1, ⟨?_, ?_, ?_⟩, h2⟩
  · obtain ⟨ws, a, b⟩ := h.wide
    exact ⟨ws, by rw [List.getElem?_set_ne (by omega)]; exact a, b⟩
  · obtain ⟨ws, a, b⟩ := h.cells
    exact ⟨ws, by rw [List.getElem?_set_ne (by omega)]; exact a, b⟩
  · obtain ⟨r, u, a, b⟩ := h.draw
    exact ⟨r, u, by rw [List.getElem?_set_ne (by omega)]; exact a, b⟩

/-! ### what comes out -/
def R.OkX {α : Type} (r : R α) (Q : α → Mu → Prop) (E : Nat → List (Str × D) → Mu → Prop) : Prop := match r with
  | .ok a m => Q a m
  | .exc c fs m => E c fs m
  | .no => False
theorem okx_bind {α β : Type} {r : R α} {f : α → Mu → R β} {Q : β → Mu → Prop} {E : Nat → List (Str × D) → Mu → Prop} : (r.bind f).OkX Q E ↔ r.OkX (fun a m => (f a m).OkX Q E) E := by
  cases r <;> exact Iff.rfl
theorem R.OkX.imp {α : Type} {r : R α} {Q Q' : α → Mu → Prop} {E E' : Nat → List (Str × D) → Mu → Prop} (h : r.OkX Q E) (i : ∀ a m, Q a m → Q' a m) (j : ∀ c fs m, E c fs m → E' c fs m) : r.OkX Q' E' := by
  cases r with
  | ok a m => exact i a m h
  | exc c fs m => exact j c fs m h
  | no => exact h
/-- the value that comes out stands in the store, and all that was stays -/
def PostG {α β : Type} (n : Nat) (Rel : Mu → α → β → Prop) (μ : Mu) (Q : Nat → α → Prop) : β → Mu → Prop := fun d μ' => ∃ b v, Q b v ∧ Rel μ' v d ∧ Kp no0 μ μ' ∧ Dr n b μ'
def PostE (n : Nat) (W : Nat → Prop) (μ : Mu) (E : EX) : Nat → List (Str × D) → Mu → Prop := fun c gs μ' => ∃ b fs, E b c fs ∧ Rpf W μ' fs gs ∧ Kp no0 μ μ' ∧ Dr n b μ'
/-- what is called answers as the tree -/
def Snv {α β : Type} (n : Nat) (W : Nat → Prop) (Rel : Mu → α → β → Prop) (μ : Mu) (t : T α) (r : R β) : Prop := ∀ b Q E, Dr n b μ → t.All b Q E → r.OkX (PostG n Rel μ Q) (PostE n W μ E)
theorem snd_bind {α β α' β' : Type} {n : Nat} {W : Nat → Prop} {Rel : Mu → α → β → Prop} {Rel' : Mu → α' → β' → Prop} {μ : Mu} {t : T α} {r : R β} {f : α → T α'} {g : β → Mu → R β'}
    (h : Snv n W Rel μ t r) (hf : ∀ v d μ', Rel μ' v d → Kp no0 μ μ' → 3 ≤ μ.length → Snv n W Rel' μ' (f v) (g d μ')) : Snv n W Rel' μ (t.bind f) (r.bind g) := by
  intro b Q E hd ha
  rw [okx_bind]
  refine (h b _ E hd (all_bind.mp ha)).imp (fun d μ' => ?_) (fun _ _ _ h => h)
  rintro ⟨b', v, hq, hr, hk, hd'⟩
  refine (hf v d μ' hr hk hd.l3 b' Q E hd' hq).imp (fun d2 μ2 => ?_) (fun c fs μ2 => ?_)
  · rintro ⟨b2, v2, q2, r2, k2, d2⟩
    exact ⟨b2, v2, q2, r2, hk.trans k2, d2⟩
  · rintro ⟨b2, v2, q2, r2, k2, d2⟩
    exact ⟨b2, v2, q2, r2, hk.trans k2, d2⟩
theorem snd_ret {α β : Type} {n : Nat} {W : Nat → Prop} {Rel : Mu → α → β → Prop} {μ : Mu} {v : α} {d : β} (h : Rel μ v d) : Snv n W Rel μ (.ret v) (.ok d μ) := fun b Q E hd ha => ⟨b, v, ha, h, Kp.refl, hd⟩
theorem snd_bad {α β : Type} {n : Nat} {W : Nat → Prop} {Rel : Mu → α → β → Prop} {μ : Mu} {r : R β} : Snv n W Rel μ (.bad : T α) r := fun b Q E hd ha => False.elim ha
theorem snd_of {α β : Type} {n : Nat} {W : Nat → Prop} {Rel : Mu → α → β → Prop} {μ : Mu} {o : Option α} {r : R β} (h : ∀ v, o = some v → Snv n W Rel μ (.ret v) r) : Snv n W Rel μ (.of o) r := by
  cases o with
  | none => exact snd_bad
  | some v => exact h v rfl
theorem snd_new {α : Type} {n : Nat} {W : Nat → Prop} {Rel : Mu → α → D → Prop} {μ : Mu} {v : α} {o : O} (h : 3 ≤ μ.length → Rel (μ ++ [o]) v (.ref μ.length)) : Snv n W Rel μ (.ret v) (new μ o) := fun b Q E hd ha => ⟨b, v, ha, h hd.l3, Kp.app o, hd.app o⟩
theorem snd_rel {α β : Type} {n : Nat} {W : Nat → Prop} {Rel Rel' : Mu → α → β → Prop} {μ : Mu} {t : T α} {r : R β} (h : Snv n W Rel μ t r) (i : ∀ μ' v d, Rel μ' v d → Rel' μ' v d) : Snv n W Rel' μ t r := fun b Q E hd ha =>
  (h b Q E hd ha).imp (fun d μ' => fun ⟨b', v, q, r', k, d'⟩ => ⟨b', v, q, i _ _ _ r', k, d'⟩) fun _ _ _ h => h
end Lt

set_option Elab.async false
set_option linter.all false
set_option maxRecDepth 100000
set_option maxHeartbeats 4000000
/-! Pv3: operators, comparisons, subscripts, built-ins. -/
namespace Lt
open PySem L2

section
variable {W : Nat → Prop} {μ : Mu}
theorem Rps.len : ∀ {vs : List PV} {ds : List D}, Rps W μ vs ds → vs.length = ds.length
  | [], _, h => by have h : _ = _ := h; rw [h]; rfl
  | v :: vs, ds, h => by obtain ⟨d, r, rfl, _, h3⟩ := h; simp [Rps.len h3]
theorem Rpk.len : ∀ {vs : List (Key × PV)} {ds : List (Key × D)}, Rpk W μ vs ds → vs.length = ds.length
  | [], _, h => by have h : _ = _ := h; rw [h]; rfl
  | (k, v) :: vs, ds, h => by obtain ⟨d, r, rfl, _, h3⟩ := h; simp [Rpk.len h3]
theorem Rpf.len : ∀ {vs : List (Str × PV)} {ds : List (Str × D)}, Rpf W μ vs ds → vs.length = ds.length
  | [], _, h => by have h : _ = _ := h; rw [h]; rfl
  | (k, v) :: vs, ds, h => by obtain ⟨d, r, rfl, _, h3⟩ := h; simp [Rpf.len h3]
theorem Rps.app : ∀ {vs ws : List PV} {ds es : List D}, Rps W μ vs ds → Rps W μ ws es → Rps W μ (vs ++ ws) (ds ++ es)
  | [], _, _, _, h, h' => by have h : _ = _ := h; rw [h]; exact h'
  | v :: vs, _, ds, _, h, h' => by obtain ⟨d, r, rfl, h2, h3⟩ := h; exact ⟨d, r ++ _, rfl, h2, Rps.app h3 h'⟩
theorem Rps.at : ∀ {vs : List PV} {ds : List D} {i : Nat} {v : PV}, Rps W μ vs ds → vs[i]? = some v → ∃ d, ds[i]? = some d ∧ Rp W μ v d
  | [], _, i, v, h, e => by simp at e
  | x :: vs, ds, 0, v, h, e => by
    obtain ⟨d, r, rfl, h2, h3⟩ := h
    simp at e
    subst e
    exact ⟨d, rfl, h2⟩
  | x :: vs, ds, i + 1, v, h, e => by
    obtain ⟨d, r, rfl, h2, h3⟩ := h
    simp at e
    obtain ⟨d', h4, h5⟩ := Rps.at h3 e
    exact ⟨d', by simpa using h4, h5⟩
theorem Rps.set : ∀ {vs : List PV} {ds : List D} {i : Nat} {v : PV} {d : D}, Rps W μ vs ds → Rp W μ v d → Rps W μ (vs.set i v) (ds.set i d)
  | [], _, i, v, _, h, e => by have h : _ = _ := h; rw [h]; exact rfl
  | x :: vs, ds, 0, v, _, h, e => by obtain ⟨d, r, rfl, h2, h3⟩ := h; exact ⟨_, _, rfl, e, h3⟩
  | x :: vs, ds, i + 1, v, _, h, e => by obtain ⟨d, r, rfl, h2, h3⟩ := h; exact ⟨_, _, rfl, h2, Rps.set h3 e⟩
theorem Rps.erase : ∀ {vs : List PV} {ds : List D} {i : Nat}, Rps W μ vs ds → Rps W μ (vs.eraseIdx i) (ds.eraseIdx i)
  | [], _, i, h => by have h : _ = _ := h; rw [h]; exact rfl
  | x :: vs, ds, 0, h => by obtain ⟨d, r, rfl, h2, h3⟩ := h; exact h3
  | x :: vs, ds, i + 1, h => by obtain ⟨d, r, rfl, h2, h3⟩ := h; exact ⟨_, _, rfl, h2, Rps.erase h3⟩
theorem Rps.one {v : PV} {d : D} (h : Rp W μ v d) : Rps W μ [v] [d] := ⟨d, [], rfl, h, rfl⟩
theorem Rps.rep {vs : List PV} {ds : List D} (h : Rps W μ vs ds) : ∀ n : Nat, Rps W μ (List.replicate n vs).flatten (List.replicate n ds).flatten
  | 0 => rfl
  | n + 1 => by rw [List.replicate_succ, List.replicate_succ, List.flatten_cons, List.flatten_cons]; exact h.app (Rps.rep h n)
theorem Rps.uncons {v : PV} {vs : List PV} {ds : List D} (h : Rps W μ (v :: vs) ds) : ∃ d r, ds = d :: r ∧ Rp W μ v d ∧ Rps W μ vs r := h
theorem Rps.nil {ds : List D} (h : Rps W μ [] ds) : ds = [] := h
theorem fre_not {d : D} (h : ∀ i, d ≠ .ref i) : Fre W d := fun i e => absurd e (h i)
theorem rp_non : Rp W μ .non .non := ⟨rfl, fre_not nofun⟩
theorem rp_bl {b : Bool} : Rp W μ (.bl b) (.bl b) := ⟨rfl, fre_not nofun⟩
theorem rp_int {b : Int} : Rp W μ (.int b) (.int b) := ⟨rfl, fre_not nofun⟩
theorem rp_str {b : Str} : Rp W μ (.str b) (.str b) := ⟨rfl, fre_not nofun⟩
theorem rp_tup {vs : List PV} {ds : List D} (h : Rps W μ vs ds) : Rp W μ (.tup vs) (.tup ds) := ⟨⟨ds, rfl, h⟩, fre_not nofun⟩
theorem Rb.lst? {vs : List PV} {d : D} (h : Rb W μ (.lst vs) d) : ∃ ds, lst? μ d = some ds ∧ Rps W μ vs ds := by
  obtain ⟨i, ds, rfl, _, e, h2⟩ := h
  exact ⟨ds, by simp [Lt.lst?, e], h2⟩
/-- a new list -/
theorem rp_new {vs : List PV} {ds : List D} (h3 : 3 ≤ μ.length) (h : Rps W μ vs ds) (hW : ¬ W μ.length) : Rp W (μ ++ [.lst ds]) (.lst vs) (.ref μ.length) :=
  ⟨⟨_, ds, rfl, h3, by simp, h.kp h3 (Kp.app _)⟩, fun i e => by cases e; exact hW⟩
theorem Rpk.find : ∀ {vs : List (Key × PV)} {ds : List (Key × D)} {k : Key}, Rpk W μ vs ds → (∀ v, pLook vs k = some v → ∃ d, kLook ds k = some d ∧ Rp W μ v d) ∧ (pLook vs k = none → kLook ds k = none)
  | [], _, k, h => by have h : _ = _ := h; rw [h]; simp [pLook, kLook]
  | (k', v) :: vs, ds, k, h => by
    obtain ⟨d, r, rfl, h2, h3⟩ := h
    have ih := Rpk.find (k := k) h3
    unfold pLook kLook at ih ⊢
    by_cases e : k' = k
    · simp only [List.find?_cons, e, decide_true, Option.map_some, Option.some.injEq, reduceCtorEq, false_imp_iff, and_true]
      rintro _ rfl
      exact ⟨d, rfl, h2⟩
    · simp only [List.find?_cons, e, decide_false]
      exact ih
theorem Rpk.some {vs : List (Key × PV)} {ds : List (Key × D)} {k : Key} (h : Rpk W μ vs ds) : (kLook ds k).isSome = (pLook vs k).isSome := by
  obtain ⟨h1, h2⟩ := h.find (k := k)
  cases e : pLook vs k with
  | none => rw [h2 e]; rfl
  | some v =>
    obtain ⟨d, h3, _⟩ := h1 v e
    rw [h3]; rfl
theorem Rpk.app : ∀ {vs ws : List (Key × PV)} {ds es : List (Key × D)}, Rpk W μ vs ds → Rpk W μ ws es → Rpk W μ (vs ++ ws) (ds ++ es)
  | [], _, _, _, h, h' => by have h : _ = _ := h; rw [h]; exact h'
  | (k, v) :: vs, _, ds, _, h, h' => by obtain ⟨d, r, rfl, h2, h3⟩ := h; exact ⟨d, r ++ _, rfl, h2, Rpk.app h3 h'⟩
theorem Rpk.upd {k : Key} {v : PV} {d : D} (hv : Rp W μ v d) : ∀ {vs : List (Key × PV)} {ds : List (Key × D)}, Rpk W μ vs ds → Rpk W μ (vs.map fun kv => if kv.1 = k then (kv.1, v) else kv) (ds.map fun kv => if kv.1 = k then (kv.1, d) else kv)
  | [], _, h => by have h : _ = _ := h; rw [h]; exact rfl
  | (k', v') :: vs, ds, h => by
    obtain ⟨d', r, rfl, h2, h3⟩ := h
    by_cases e : k' = k
    · simp only [List.map_cons, e, if_true]
      exact ⟨d, _, rfl, hv, Rpk.upd hv h3⟩
    · simp only [List.map_cons, e, if_false]
      exact ⟨d', _, rfl, h2, Rpk.upd hv h3⟩
theorem Rpk.put {k : Key} {v : PV} {d : D} {vs : List (Key × PV)} {ds : List (Key × D)} (h : Rpk W μ vs ds) (hv : Rp W μ v d) : Rpk W μ (pput vs k v) (putD ds k d) := by
  unfold pput putD
  rw [h.some]
  split
  · exact h.upd hv
  · exact h.app ⟨d, [], rfl, hv, rfl⟩
theorem Rpf.look : ∀ {vs : List (Str × PV)} {ds : List (Str × D)} {k : Str}, Rpf W μ vs ds → (∀ v, vs.lookup k = .some v → ∃ d, ds.lookup k = .some d ∧ Rp W μ v d) ∧ (vs.lookup k = .none → ds.lookup k = .none)
  | [], _, k, h => by have h : _ = _ := h; rw [h]; simp
  | (k', v) :: vs, ds, k, h => by
    obtain ⟨d, r, rfl, h2, h3⟩ := h
    have ih := Rpf.look (k := k) h3
    simp only [List.lookup_cons]
    cases k == k' with
    | true =>
      simp only [Option.some.injEq, reduceCtorEq, false_imp_iff, and_true]
      rintro _ rfl
      exact ⟨d, rfl, h2⟩
    | false => exact ih
theorem Rpf.put {k : Str} {v : PV} {d : D} (hv : Rp W μ v d) : ∀ {vs : List (Str × PV)} {ds : List (Str × D)}, Rpf W μ vs ds → Rpf W μ (pputF vs k v) (putFD ds k d)
  | [], _, h => by have h : _ = _ := h; rw [h]; exact ⟨d, [], rfl, hv, rfl⟩
  | (k', v') :: vs, ds, h => by
    obtain ⟨d', r, rfl, h2, h3⟩ := h
    unfold pputF putFD
    by_cases e : k' = k
    · simp only [e, if_true]
      exact ⟨d, _, rfl, hv, h3⟩
    · simp only [e, if_false]
      exact ⟨d', _, rfl, h2, Rpf.put hv h3⟩
theorem pkey_key {v : PV} {d : D} {k : Key} (h : Rb W μ v d) (e : pkey? v = some k) : key? d = some k := by
  cases v <;> simp only [pkey?, reduceCtorEq, Option.some.injEq] at e
  all_goals (have h : _ = _ := h; subst h; subst e; rfl)

/-! ### as data -/
mutual
theorem pP_toP : ∀ (n : Nat) (v : PV) (d : D) (p : PyData), Rb W μ v d → pP n v = some p → toP n μ d = some p
  | 0, v, d, p, h, e => by cases v <;> simp [pP] at e
  | n + 1, .non, d, p, h, e => by have h : _ = _ := h; subst h; exact e
  | n + 1, .bl _, d, p, h, e => by have h : _ = _ := h; subst h; exact e
  | n + 1, .int _, d, p, h, e => by have h : _ = _ := h; subst h; exact e
  | n + 1, .str _, d, p, h, e => by have h : _ = _ := h; subst h; exact e
  | n + 1, .tup l, d, p, h, e => by
    obtain ⟨ds, rfl, hr⟩ := h
    simp only [pP, Option.map_eq_some_iff] at e
    obtain ⟨ps, e, rfl⟩ := e
    simp only [toP, pPs_toP n l ds ps hr e, Option.map_some]
  | n + 1, .lst l, d, p, h, e => by
    obtain ⟨i, ds, rfl, _, hi, hr⟩ := h
    simp only [pP, Option.map_eq_some_iff] at e
    obtain ⟨ps, e, rfl⟩ := e
    simp only [toP, hi, pPs_toP n l ds ps hr e, Option.map_some]
  | n + 1, .dct l, d, p, h, e => by
    obtain ⟨i, kvs, rfl, _, hi, hr⟩ := h
    simp only [pP, Option.map_eq_some_iff] at e
    obtain ⟨ps, e, rfl⟩ := e
    simp only [toP, hi]
    exact congrArg (Option.map PyData.dict) (pPk_toP n l kvs ps hr e)
  | n + 1, .exc _ _ _, d, p, h, e => by simp [pP] at e
  | n + 1, .ins _ _, d, p, h, e => by simp [pP] at e
  | n + 1, .drw, d, p, h, e => by simp [pP] at e
  | n + 1, .rol _, d, p, h, e => by simp [pP] at e
theorem pPs_toP : ∀ (n : Nat) (l : List PV) (ds : List D) (ps : List PyData), Rps W μ l ds → l.mapM (pP n) = some ps → ds.mapM (toP n μ) = some ps
  | n, [], ds, ps, h, e => by have h : _ = _ := h; subst h; simpa using e
  | n, v :: vs, ds, ps, h, e => by
    obtain ⟨d, r, rfl, h2, h3⟩ := h
    simp only [List.mapM_cons, Option.pure_def, Option.bind_eq_bind, Option.bind_eq_some_iff, Option.some.injEq] at e ⊢
    obtain ⟨p, e1, q, e2, rfl⟩ := e
    exact ⟨p, pP_toP n v d p h2.1 e1, q, pPs_toP n vs r q h3 e2, rfl⟩
theorem pPk_toP : ∀ (n : Nat) (l : List (Key × PV)) (ds : List (Key × D)) (ps : List (PyData × PyData)), Rpk W μ l ds → (l.mapM fun kv => (pP n kv.2).map fun v => ((match kv.1 with
        | .inl i => PyData.int i
        | .inr s => PyData.str s), v)) = some ps → (ds.mapM fun kv => (toP n μ kv.2).map fun v => ((match kv.1 with
        | .inl i => PyData.int i
        | .inr s => PyData.str s), v)) = some ps
  | n, [], ds, ps, h, e => by have h : _ = _ := h; subst h; simpa using e
  | n, (k, v) :: vs, ds, ps, h, e => by
    obtain ⟨d, r, rfl, h2, h3⟩ := h
    simp only [List.mapM_cons, Option.pure_def, Option.bind_eq_bind, Option.bind_eq_some_iff, Option.some.injEq, Option.map_eq_some_iff] at e ⊢
    obtain ⟨p, ⟨p', e1, rfl⟩, q, e2, rfl⟩ := e
    exact ⟨_, ⟨p', pP_toP n v d p' h2.1 e1, rfl⟩, q, pPk_toP n vs r q h3 e2, rfl⟩
end
theorem pshaped2_shaped {v w : PV} {d e : D} {z : PyData × PyData} (h : Rb W μ v d) (h' : Rb W μ w e) (q : pshaped2 v w = some z) : shaped2 μ d e = some z := by
  unfold pshaped2 at q
  split at q
  · rename_i p p' e1 e2
    unfold shaped2
    rw [pP_toP _ _ _ _ h e1, pP_toP _ _ _ _ h' e2]
    exact q
  · cases q
end
end Lt
namespace Lt
open PySem L2
section
variable {W : Nat → Prop} {μ : Mu} {n : Nat}
theorem pop2_snd {op : Operator} {x y z : PV} {d e : D} (hW : ∀ i, W i → i < μ.length) (h : Rb W μ x d) (h' : Rb W μ y e) (q : pop2 op x y = some z) : Snv n W (Rp W) μ (.ret z) (opD op d e μ) := by
  unfold pop2 at q
  split at q
  · obtain rfl : d = _ := h; obtain rfl : e = _ := h'; cases q; exact snd_ret rp_int
  · obtain rfl : d = _ := h; obtain rfl : e = _ := h'; cases q; exact snd_ret rp_int
  · obtain rfl : d = _ := h; obtain rfl : e = _ := h'
    split at q
    · cases q
      rename_i hc
      simp only [opD, if_pos hc]
      exact snd_ret rp_int
    · cases q
  · obtain rfl : d = _ := h; obtain rfl : e = _ := h'
    split at q
    · cases q
      rename_i hc
      simp only [opD, if_pos hc]
      exact snd_ret rp_int
    · cases q
  · obtain rfl : d = _ := h; obtain rfl : e = _ := h'
    split at q
    · cases q
      rename_i hc
      simp only [opD, if_pos hc]
      exact snd_ret rp_int
    · cases q
  · obtain rfl : d = _ := h; obtain rfl : e = _ := h'
    split at q
    · cases q
      rename_i hc
      simp only [opD, if_pos hc]
      exact snd_ret rp_int
    · cases q
  · obtain rfl : d = _ := h; obtain rfl : e = _ := h'
    split at q
    · cases q
      rename_i hc
      simp only [opD, if_pos hc]
      exact snd_ret rp_str
    · cases q
  · obtain ⟨i, ds, rfl, h3, hi, hr⟩ := h
    obtain ⟨i', es, rfl, h3', hi', hr'⟩ := h'
    split at q
    · cases q
      rename_i hc
      rw [hr.len, hr'.len] at hc
      simp only [opD, wl?, hi, hi', if_pos hc]
      exact snd_new fun h3 => rp_new h3 (hr.app hr') fun hw => Nat.lt_irrefl _ (hW _ hw)
    · cases q
  · obtain ⟨i, ds, rfl, h3, hi, hr⟩ := h
    obtain rfl : e = _ := h'
    split at q
    · cases q
      rename_i hc
      rw [hr.len] at hc
      simp only [opD, wl?, hi, if_pos hc]
      exact snd_new fun h3 => rp_new h3 (hr.rep _) fun hw => Nat.lt_irrefl _ (hW _ hw)
    · cases q
  · cases q
theorem pord_snd {op : CmpOp} {x y : PV} {d e : D} {b : Bool} (h : Rb W μ x d) (h' : Rb W μ y e) (q : pord op x y = some b) : ordD op d e = some b := by
  unfold pord at q
  split at q
  all_goals first | (obtain rfl : d = _ := h; obtain rfl : e = _ := h'; exact q) | cases q
theorem peq_snd {x y : PV} {d e : D} {b : Bool} (h : Rb W μ x d) (h' : Rb W μ y e) (q : peq x y = some b) : eqD d e μ = some b := by
  unfold peq at q
  obtain ⟨z, q1, q2⟩ := Option.map_eq_some_iff.mp q
  unfold eqD
  rw [pshaped2_shaped h h' q1]
  exact congrArg some q2
theorem pin_snd {x y : PV} {d e : D} {b : Bool} (h : Rb W μ x d) (h' : Rb W μ y e) (q : pin x y = some b) : inD d e μ = some b := by
  unfold pin at q
  split at q
  · have h2 := h'
    obtain ⟨i, ds, rfl, h3, hi, hr⟩ := h2
    split at q
    · rename_i e1
      simp only [inD, hi, pshaped2_shaped h h' e1]
      exact q
    · cases q
  · obtain ⟨i, ds, rfl, h3, hi, hr⟩ := h'
    obtain ⟨k, q1, q2⟩ := Option.map_eq_some_iff.mp q
    simp only [inD, hi, pkey_key h q1, Option.map_some, hr.some]
    exact congrArg some q2
  · have h2 := h'
    obtain ⟨ds, rfl, hr⟩ := h2
    split at q
    · rename_i e1
      simp only [inD, pshaped2_shaped h h' e1]
      exact q
    · cases q
  · obtain rfl : e = _ := h'
    split at q
    · obtain rfl : d = _ := h
      exact q
    · cases q
  · cases q
theorem pis_snd {x y : PV} {d e : D} {b : Bool} (h : Rb W μ x d) (h' : Rb W μ y e) (q : pis x y = some b) : isD d e = some b := by
  unfold pis at q
  split at q
  · obtain rfl : d = _ := h; obtain rfl : e = _ := h'; exact q
  · obtain rfl : d = _ := h; obtain rfl : e = _ := h'; exact q
  · obtain rfl : e = _ := h'
    cases x with
    | non => exfalso; simp_all
    | bl b => obtain rfl : d = _ := h; exact q
    | int b => obtain rfl : d = _ := h; exact q
    | str b => obtain rfl : d = _ := h; exact q
    | tup l => obtain ⟨ds, rfl, _⟩ := h; exact q
    | rol l => obtain ⟨ds, rfl, _⟩ := h; exact q
    | lst l => obtain ⟨i, ds, rfl, _⟩ := h; exact q
    | dct l => obtain ⟨i, ds, rfl, _⟩ := h; exact q
    | exc _ _ _ => obtain ⟨i, ds, rfl, _⟩ := h; exact q
    | ins _ _ => obtain ⟨i, ds, rfl, _⟩ := h; exact q
    | drw => obtain rfl : d = _ := h; exact q
  · cases q
theorem pcmp_snd {op : CmpOp} {x y : PV} {d e : D} {b : Bool} (h : Rb W μ x d) (h' : Rb W μ y e) (q : pcmp op x y = some b) : cmpD op d e μ = some b := by
  unfold pcmp at q
  unfold cmpD
  split at q
  · exact peq_snd h h' q
  · obtain ⟨c, q1, q2⟩ := Option.map_eq_some_iff.mp q
    simp only [peq_snd h h' q1, Option.map_some, q2]
  · exact pin_snd h h' q
  · obtain ⟨c, q1, q2⟩ := Option.map_eq_some_iff.mp q
    simp only [pin_snd h h' q1, Option.map_some, q2]
  · exact pis_snd h h' q
  · obtain ⟨c, q1, q2⟩ := Option.map_eq_some_iff.mp q
    simp only [pis_snd h h' q1, Option.map_some, q2]
  · have z := pord_snd h h' q
    cases op <;> first | exact z | (exfalso; simp_all)
theorem atI_rps {xs : List PV} {ds : List D} {k : Int} {v : PV} (h : Rps W μ xs ds) (e : atI xs k = some v) : ∃ d, atI ds k = some d ∧ Rp W μ v d := by
  unfold atI at e ⊢
  rw [h.len] at e
  obtain ⟨j, e1, e2⟩ := Option.bind_eq_some_iff.mp e
  obtain ⟨d, e3, e4⟩ := h.at e2
  exact ⟨d, by rw [e1]; exact e3, e4⟩
theorem pix_snd {x y z : PV} {d e : D} (h : Rb W μ x d) (h' : Rb W μ y e) (q : pix x y = some z) : Snv n W (Rp W) μ (.ret z) (ixD d e μ) := by
  unfold pix at q
  split at q
  · obtain ⟨ds, rfl, hr⟩ := h
    obtain rfl : e = _ := h'
    obtain ⟨d, e1, e2⟩ := atI_rps hr q
    simp only [ixD, e1]
    exact snd_ret e2
  · obtain ⟨i, ds, rfl, h3, hi, hr⟩ := h
    obtain rfl : e = _ := h'
    obtain ⟨d, e1, e2⟩ := atI_rps hr q
    simp only [ixD, hi, e1]
    exact snd_ret e2
  · obtain ⟨i, ds, rfl, h3, hi, hr⟩ := h
    obtain ⟨k, q1, q2⟩ := Option.bind_eq_some_iff.mp q
    obtain ⟨d, e1, e2⟩ := hr.find.1 z q2
    simp only [ixD, hi, pkey_key h' q1, Option.bind_some, e1]
    exact snd_ret e2
  · cases q
theorem pcls_snd {P : Pg} {v : PV} {d : D} {t : Ty} (h : Rb W μ v d) (q : pcls P v = some t) : clsD P μ d = some t := by
  cases v with
  | non => obtain rfl : d = _ := h; exact q
  | bl b => obtain rfl : d = _ := h; exact q
  | int b => obtain rfl : d = _ := h; exact q
  | str b => obtain rfl : d = _ := h; exact q
  | tup l => obtain ⟨ds, rfl, _⟩ := h; exact q
  | rol l => obtain ⟨ds, rfl, _⟩ := h; exact q
  | lst l => obtain ⟨i, ds, rfl, _, e, _⟩ := h; simp only [clsD, e]; exact q
  | dct l => obtain ⟨i, ds, rfl, _, e, _⟩ := h; simp only [clsD, e]; exact q
  | exc _ _ _ => obtain ⟨i, ds, rfl, _, e, _⟩ := h; simp only [clsD, e]; exact q
  | ins _ _ => obtain ⟨i, ds, rfl, _, e, _⟩ := h; simp only [clsD, e]; exact q
  | drw => cases q
theorem pisi_snd {P : Pg} {v : PV} {d : D} (h : Rb W μ v d) : ∀ {ts : List Ty} {b : Bool}, pisi P v ts = some b → isiDs P μ d ts = some b
  | [], b, q => q
  | t :: ts, b, q => by
    unfold pisi at q
    cases e : pcls P v with
    | none => rw [e] at q; cases q
    | some c =>
      rw [e] at q
      unfold isiDs isiD
      rw [pcls_snd h e]
      simp only [Option.map_some] at q ⊢
      cases e2 : subT P c t with
      | true => rw [e2] at q; exact q
      | false => rw [e2] at q; exact pisi_snd h q
theorem pbls_snd : ∀ {vs : List PV} {ds : List D} {bs : List Bool}, Rps W μ vs ds → pbls vs = some bs → blsOf ds = some bs
  | [], ds, bs, h, q => by obtain rfl := h.nil; exact q
  | v :: vs, ds, bs, h, q => by
    obtain ⟨d, r, rfl, h2, h3⟩ := h.uncons
    cases v <;> first | (simp only [pbls, reduceCtorEq] at q; done) | skip
    obtain rfl : d = _ := h2.1
    simp only [pbls] at q
    obtain ⟨cs, q1, q2⟩ := Option.map_eq_some_iff.mp q
    simp only [blsOf, pbls_snd h3 q1, Option.map_some, q2]
end
end Lt

set_option Elab.async false
set_option linter.all false
set_option maxRecDepth 100000
set_option maxHeartbeats 4000000
/-! Pv4: built-ins, exceptions, what is called. -/
namespace Lt
open PySem L2
section
variable {W : Nat → Prop} {μ : Mu} {n : Nat}
/-- arguments that are only read -/
def Rbs (W : Nat → Prop) (μ : Mu) : List PV → List D → Prop
  | [], ds => ds = []
  | v :: vs, ds => ∃ d r, ds = d :: r ∧ Rb W μ v d ∧ Rbs W μ vs r
theorem Rbs.len : ∀ {vs : List PV} {ds : List D}, Rbs W μ vs ds → vs.length = ds.length
  | [], _, h => by have h : _ = _ := h; rw [h]; rfl
  | v :: vs, ds, h => by obtain ⟨d, r, rfl, _, h3⟩ := h; simp [Rbs.len h3]
theorem Rbs.kp : ∀ {μ' : Mu} (h3 : 3 ≤ μ.length) (k : Kp no0 μ μ') {vs : List PV} {ds : List D}, Rbs W μ vs ds → Rbs W μ' vs ds
  | _, _, _, [], _, h => h
  | _, h3, k, v :: vs, ds, h => by
    obtain ⟨d, r, rfl, h1, h2⟩ := h
    exact ⟨d, r, rfl, h1.kp h3 k, Rbs.kp h3 k h2⟩
theorem Rbs.i1 {v : PV} {ds : List D} (h : Rbs W μ [v] ds) : ∃ d, ds = [d] ∧ Rb W μ v d := by
  obtain ⟨d, r, rfl, h1, h2⟩ := h
  have h2 : r = [] := h2
  exact ⟨d, by rw [h2], h1⟩
theorem Rbs.i2 {v w : PV} {ds : List D} (h : Rbs W μ [v, w] ds) : ∃ d e, ds = [d, e] ∧ Rb W μ v d ∧ Rb W μ w e := by
  obtain ⟨d, r, rfl, h1, e, r', rfl, h2, h3⟩ := h
  have h3 : r' = [] := h3
  exact ⟨d, e, by rw [h3], h1, h2⟩
theorem pbi_snd {P : Pg} {b : BI} {vs : List PV} {ds : List D} {z : PV} (hW : ∀ i, W i → i < μ.length) (h : Rbs W μ vs ds) (q : pbi P b vs = some z) : Snv n W (Rp W) μ (.ret z) (biD P b ds μ) := by
  unfold pbi at q
  split at q
  · obtain ⟨d, rfl, hb⟩ := h.i1
    obtain rfl : d = _ := hb
    split at q
    · cases q
      rename_i hc
      simp only [biD, if_pos hc]
      exact snd_ret rp_int
    · cases q
  · obtain ⟨d, rfl, hb⟩ := h.i1
    obtain ⟨es, rfl, hr⟩ := hb
    cases q
    simp only [biD, hr.len]
    exact snd_ret rp_int
  · obtain ⟨d, rfl, hb⟩ := h.i1
    obtain ⟨i, es, rfl, _, e, hr⟩ := hb
    cases q
    simp only [biD, e, hr.len]
    exact snd_ret rp_int
  · obtain ⟨d, rfl, hb⟩ := h.i1
    obtain ⟨i, es, rfl, _, e, hr⟩ := hb
    cases q
    simp only [biD, e, hr.len]
    exact snd_ret rp_int
  · obtain ⟨d, rfl, hb⟩ := h.i1
    obtain ⟨es, rfl, e⟩ := hb
    cases q
    simp only [biD, e]
    exact snd_ret rp_int
  · obtain ⟨d, rfl, hb⟩ := h.i1
    obtain rfl : d = _ := hb
    cases q
    exact snd_ret rp_int
  · obtain ⟨d, rfl, hb⟩ := h.i1
    obtain rfl : d = _ := hb
    cases q
    exact snd_ret rp_int
  · obtain ⟨d, rfl, hb⟩ := h.i1
    obtain rfl : d = _ := hb
    cases q
    exact snd_ret rp_int
  · obtain ⟨d, d', rfl, hb, hb'⟩ := h.i2
    obtain rfl : d = _ := hb
    obtain rfl : d' = _ := hb'
    cases q
    exact snd_ret rp_int
  · obtain ⟨d, d', rfl, hb, hb'⟩ := h.i2
    obtain rfl : d = _ := hb
    obtain rfl : d' = _ := hb'
    cases q
    exact snd_ret rp_int
  · obtain ⟨d, rfl, hb⟩ := h.i1
    obtain ⟨i, es, rfl, _, e, hr⟩ := hb
    obtain ⟨bs, q1, rfl⟩ := Option.map_eq_some_iff.mp q
    simp only [biD, lst?, e, Option.bind_some, pbls_snd hr q1]
    exact snd_ret rp_bl
  · obtain ⟨d, rfl, hb⟩ := h.i1
    obtain ⟨i, es, rfl, _, e, hr⟩ := hb
    obtain ⟨bs, q1, rfl⟩ := Option.map_eq_some_iff.mp q
    simp only [biD, lst?, e, Option.bind_some, pbls_snd hr q1]
    exact snd_ret rp_bl
  · obtain ⟨d, rfl, hb⟩ := h.i1
    split at q
    · rename_i e
      split at q
      · rename_i hc
        cases q
        simp only [biD, pP_toP _ _ _ _ hb e, hc, if_true]
        exact snd_ret rp_str
      · cases q
    · cases q
  · obtain ⟨d, rfl, hb⟩ := h.i1
    obtain ⟨i, es, rfl, _, e, hr⟩ := hb
    split at q
    · rename_i hc
      cases q
      simp only [biD, e, if_pos hc]
      exact snd_ret rp_str
    · cases q
  · obtain ⟨d, rfl, hb⟩ := h.i1
    obtain ⟨es, rfl, hr⟩ := hb
    cases q
    exact snd_new fun h3 => rp_new h3 hr fun hw => Nat.lt_irrefl _ (hW _ hw)
  · obtain ⟨d, rfl, hb⟩ := h.i1
    obtain ⟨i, es, rfl, _, e, hr⟩ := hb
    cases q
    simp only [biD, lst?, e]
    exact snd_new fun h3 => rp_new h3 hr fun hw => Nat.lt_irrefl _ (hW _ hw)
  · obtain ⟨d, rfl, hb⟩ := h.i1
    obtain ⟨es, rfl, hr⟩ := hb
    cases q
    exact snd_ret (rp_tup hr)
  · obtain ⟨d, rfl, hb⟩ := h.i1
    obtain ⟨i, es, rfl, _, e, hr⟩ := hb
    cases q
    simp only [biD, lst?, e]
    exact snd_ret (rp_tup hr)
  · cases q
theorem pexc_snd {P : Pg} {c : Nat} {vs : List PV} {ds : List D} {z : List (Str × PV) × Option Str} (h : Rps W μ vs ds) (q : pexcArgs P c vs = some z) : ∃ gs, excArgs P c ds = some (gs, z.2) ∧ Rpf W μ z.1 gs := by
  unfold pexcArgs at q
  unfold excArgs
  split at q
  · rename_i k hk
    try rw [hk]
    split at q
    · rename_i hx
      simp only [hx, if_true]
      split at q
      · rename_i f d hf
        cases q
        obtain ⟨d', r, rfl, h1, h2⟩ := h.uncons
        obtain rfl := h2.nil
        rw [hf]
        exact ⟨_, rfl, ⟨d', [], rfl, h1, rfl⟩⟩
      · rename_i s hf
        cases q
        obtain ⟨d', r, rfl, h1, h2⟩ := h.uncons
        obtain rfl := h2.nil
        obtain rfl : d' = _ := h1.1
        rw [hf]
        exact ⟨_, rfl, rfl⟩
      · cases q
    · cases q
  · cases q
theorem rp_exc {c : Nat} {fs : List (Str × PV)} {gs : List (Str × D)} {m : Option Str} (h3 : 3 ≤ μ.length) (h : Rpf W μ fs gs) (hW : ¬ W μ.length) : Rp W (μ ++ [.exc c gs m]) (.exc c fs m) (.ref μ.length) :=
  ⟨⟨_, gs, rfl, h3, by simp, Rpf.mv (Mv.of h3 (Kp.app _)) _ _ h⟩, fun i e => by cases e; exact hW⟩
theorem rp_dct {fs : List (Key × PV)} {gs : List (Key × D)} (h3 : 3 ≤ μ.length) (h : Rpk W μ fs gs) (hW : ¬ W μ.length) : Rp W (μ ++ [.dct gs]) (.dct fs) (.ref μ.length) :=
  ⟨⟨_, gs, rfl, h3, by simp, Rpk.mv (Mv.of h3 (Kp.app _)) _ _ h⟩, fun i e => by cases e; exact hW⟩
theorem pmkKv_snd : ∀ {vs : List PV} {ds : List D} {kvs : List (Key × PV)}, Rps W μ vs ds → pmkKv vs = some kvs → ∃ kds, mkKv ds = some kds ∧ Rpk W μ kvs kds
  | [], ds, kvs, h, q => by
    obtain rfl := h.nil
    cases q
    exact ⟨[], rfl, rfl⟩
  | [_], ds, kvs, h, q => by cases q
  | k :: v :: vs, ds, kvs, h, q => by
    obtain ⟨d, r, rfl, h1, h2⟩ := h.uncons
    obtain ⟨d', r', rfl, h3, h4⟩ := h2.uncons
    simp only [pmkKv] at q
    split at q
    · rename_i k' r2 e1 e2
      cases q
      obtain ⟨kds, e3, e4⟩ := pmkKv_snd h4 e2
      refine ⟨(k', d') :: kds, by simp only [mkKv, pkey_key h1.1 e1, e3], d', kds, rfl, h3, e4⟩
    · cases q
theorem fold_put : ∀ {vs : List (Key × PV)} {ds : List (Key × D)} {av : List (Key × PV)} {ad : List (Key × D)}, Rpk W μ vs ds → Rpk W μ av ad → Rpk W μ (vs.foldl (fun acc kv => pput acc kv.1 kv.2) av) (ds.foldl (fun acc kv => putD acc kv.1 kv.2) ad)
  | [], ds, _, _, h, h' => by have h : _ = _ := h; rw [h]; exact h'
  | (k, v) :: vs, ds, _, _, h, h' => by
    obtain ⟨d, r, rfl, h2, h3⟩ := h
    simp only [List.foldl_cons]
    exact fold_put h3 (h'.put h2)
theorem Re.bind1 {ρv : PFr} {ρ : Fr} {i : Nat} {v : PV} {d : D} (h : Re W μ ρv ρ) (hv : Rp W μ v d) : Re W μ (ρv.set i (some (false, v))) (ρ.set i (some d)) where
  len := by simp [h.len]
  get := fun j w e => by
    by_cases hj : j = i
    · subst hj
      have hl : j < ρv.length := by simpa using lt_of_some e
      rw [List.getElem?_set_self hl] at e
      cases e
      exact ⟨d, by rw [List.getElem?_set_self (by rw [← h.len]; exact hl)], hv⟩
    · rw [List.getElem?_set_ne (Ne.symm hj)] at e ⊢
      exact h.get j w e
  own := fun j w e => by
    by_cases hj : j = i
    · subst hj
      have hl : j < ρv.length := by simpa using lt_of_some e
      rw [List.getElem?_set_self hl] at e
      cases e
    · rw [List.getElem?_set_ne (Ne.symm hj)] at e ⊢
      exact h.own j w e
theorem Re.bind : ∀ {is : List Nat} {ρv ρv' : PFr} {ρ : Fr} {vs : List PV} {ds : List D}, Re W μ ρv ρ → Rps W μ vs ds → psetFr ρv is vs = some ρv' → ∃ ρ', setFr ρ is ds = some ρ' ∧ Re W μ ρv' ρ'
  | [], ρv, ρv', ρ, [], ds, h, hr, q => by
    obtain rfl := hr.nil
    cases q
    exact ⟨ρ, rfl, h⟩
  | i :: is, ρv, ρv', ρ, v :: vs, ds, h, hr, q => by
    obtain ⟨d, r, rfl, h1, h2⟩ := hr.uncons
    exact Re.bind (is := is) (ds := r) (h.bind1 h1) h2 q
  | [], _, _, _, _ :: _, _, _, _, q => by cases q
  | _ :: _, _, _, _, [], _, _, _, q => by cases q
theorem Re.bindG {g : LG} {ρv ρv' : PFr} {ρ : Fr} {v : PV} {d : D} (h : Re W μ ρv ρ) (hr : Rp W μ v d) (q : pbindG g v ρv = some ρv') : ∃ ρ', Lt.bindG g d ρ = some ρ' ∧ Re W μ ρv' ρ' := by
  cases g with
  | nm i =>
    cases q
    exact ⟨_, rfl, h.bind1 hr⟩
  | tp is =>
    cases v <;> first | cases q | skip
    obtain ⟨ds, rfl, h2⟩ := hr.1
    exact h.bind h2 q
theorem Re.wipe1 {ρv : PFr} {ρ : Fr} {i : Nat} (h : Re W μ ρv ρ) : Re W μ (ρv.set i none) (ρ.set i none) where
  len := by simp [h.len]
  get := fun j w e => by
    by_cases hj : j = i
    · subst hj
      have hl : j < ρv.length := by simpa using lt_of_some e
      rw [List.getElem?_set_self hl] at e
      cases e
    · rw [List.getElem?_set_ne (Ne.symm hj)] at e ⊢
      exact h.get j w e
  own := fun j w e => by
    by_cases hj : j = i
    · subst hj
      have hl : j < ρv.length := by simpa using lt_of_some e
      rw [List.getElem?_set_self hl] at e
      cases e
    · rw [List.getElem?_set_ne (Ne.symm hj)] at e ⊢
      exact h.own j w e
theorem Re.wipe {ρv : PFr} {ρ : Fr} (h : Re W μ ρv ρ) : ∀ own : List Nat, Re W μ (pwipe ρv own) (wipeF ρ own)
  | [] => h
  | i :: is => (Re.wipe h is).wipe1
end
end Lt

set_option Elab.async false
set_option linter.all false
set_option maxRecDepth 100000
set_option maxHeartbeats 4000000
/-! Pv5: expressions: the evaluator answers as the pure one. -/
namespace Lt
open PySem L2
/-- all of W stands in the store -/
def Bd (W : Nat → Prop) (μ : Mu) : Prop := ∀ i, W i → i < μ.length
theorem Bd.kp {W : Nat → Prop} {μ μ' : Mu} (h : Bd W μ) (k : Kp no0 μ μ') : Bd W μ' := fun i hw => Nat.lt_of_lt_of_le (h i hw) k.1
theorem Bd.new {W : Nat → Prop} {μ : Mu} (h : Bd W μ) : ¬ W μ.length := fun hw => Nat.lt_irrefl _ (h _ hw)
/-- C(..) of a class of its own -/
def mkI (F : Nat → List D → Mu → R D) (f c : Nat) (ds : List D) (μ : Mu) : R D := (F f (.ref μ.length :: ds) (μ ++ [.ins c []])).bind fun d μ' => match d with
  | .non => .ok (.ref μ.length) μ'
  | _ => .no
structure FOk (n : Nat) (F : Nat → List D → Mu → R D) (pF : Nat → List PV → T PV) (pI : Nat → Nat → List PV → T PV) : Prop where
  fn : ∀ W μ f vs ds, Bd W μ → Rps W μ vs ds → Snv n W (Rp W) μ (pF f vs) (F f ds μ)
  mki : ∀ W μ f c vs ds, Bd W μ → Rps W μ vs ds → Snv n W (Rp W) μ (pI f c vs) (mkI F f c ds μ)
/-- what is walked -/
def Sr (W : Nat → Prop) (μ : Mu) (vs : List PV) (src : Src) : Prop := ∃ ds, src.all μ = some ds ∧ Rps W μ vs ds ∧ ∀ μ', Kp no0 μ μ' → src.all μ' = some ds
theorem leakB_of : ∀ (e : LE), (∃ i, e = .var i) ∨ leakB e = leakE e
  | .var i => .inl ⟨i, rfl⟩
  | .cst _ => .inr rfl
  | .bin _ _ _ => .inr rfl
  | .neg _ => .inr rfl
  | .cmp _ _ _ => .inr rfl
  | .chain _ _ _ _ _ => .inr rfl
  | .and _ _ => .inr rfl
  | .or _ _ => .inr rfl
  | .not _ => .inr rfl
  | .ite _ _ _ => .inr rfl
  | .tup _ => .inr rfl
  | .lst _ => .inr rfl
  | .dct _ => .inr rfl
  | .ix _ _ => .inr rfl
  | .sl _ _ _ => .inr rfl
  | .attr _ _ => .inr rfl
  | .fn _ _ => .inr rfl
  | .mk _ _ => .inr rfl
  | .bi _ _ => .inr rfl
  | .isi _ _ => .inr rfl
  | .meth _ _ _ => .inr rfl
  | .comp _ _ _ _ _ => .inr rfl
/-- the slots are not alone with their values -/
def Nl (ρ : PFr) (js : List Nat) : Prop := ∀ j ∈ js, isOwn ρ j = false
theorem Nl.l {ρ : PFr} {a b : List Nat} (h : Nl ρ (a ++ b)) : Nl ρ a := fun j hj => h j (List.mem_append_left _ hj)
theorem Nl.r {ρ : PFr} {a b : List Nat} (h : Nl ρ (a ++ b)) : Nl ρ b := fun j hj => h j (List.mem_append_right _ hj)
theorem isOwn_set {ρ : PFr} {i j : Nat} {o : Option (Bool × PV)} (ho : ∀ v, o ≠ some (true, v)) (h : isOwn ρ j = false) : isOwn (ρ.set i o) j = false := by
  unfold isOwn at h ⊢
  by_cases e : i = j
  · subst e
    by_cases hl : i < ρ.length
    · rw [List.getElem?_set_self hl]
      split
      · rename_i v e
        cases e
        exact absurd rfl (ho v)
      · rfl
    · rw [List.getElem?_eq_none (by simp; omega)]
  · rw [List.getElem?_set_ne e]
    exact h
theorem Nl.wipe {ρ : PFr} {js : List Nat} (h : Nl ρ js) : ∀ own : List Nat, Nl (pwipe ρ own) js
  | [] => h
  | i :: is => fun j hj => isOwn_set (by intro v z; cases z) (Nl.wipe h is j hj)
theorem Nl.bind : ∀ {is : List Nat} {ρ ρ' : PFr} {vs : List PV} {js : List Nat}, Nl ρ js → psetFr ρ is vs = some ρ' → Nl ρ' js
  | [], _, _, [], _, h, q => by cases q; exact h
  | i :: is, _, _, v :: vs, _, h, q => by
    refine Nl.bind (is := is) (vs := vs) (fun j hj => isOwn_set ?_ (h j hj)) q
    intro v z
    cases z
  | [], _, _, _ :: _, _, _, q => by cases q
  | _ :: _, _, _, [], _, _, q => by cases q
theorem Nl.bindG {g : LG} {ρ ρ' : PFr} {v : PV} {js : List Nat} (h : Nl ρ js) (q : pbindG g v ρ = some ρ') : Nl ρ' js := by
  cases g with
  | nm i =>
    cases q
    exact fun j hj => isOwn_set (by intro v z; cases z) (h j hj)
  | tp is =>
    cases v <;> first | cases q | skip
    exact h.bind q
theorem snd_calm {α β : Type} {n : Nat} {W : Nat → Prop} {Rel : Mu → α → β → Prop} {μ : Mu} {t : T α} {r : R β} (h : Snv n W Rel μ t r) {b : Nat} {Q : Nat → α → Prop} {E : EX} (hd : Dr n b μ) (ha : t.calm.All b Q E) : ∃ d μ', r = .ok d μ' ∧ PostG n Rel μ Q d μ' := by
  have z := h b Q _ hd (all_calm ha)
  cases r with
  | ok d m => exact ⟨d, m, rfl, z⟩
  | exc c fs m =>
    obtain ⟨_, _, q, _⟩ := z
    exact q.elim
  | no => exact z.elim

section
variable {n : Nat} {P : Pg} {F : Nat → List D → Mu → R D} {pF : Nat → List PV → T PV} {pI : Nat → Nat → List PV → T PV}
/-- a comprehension's turns -/
theorem comp_snd {W : Nat → Prop} {src : Src} {xs : List D} {step : D → Mu → R (Option D)} {pstep : PV → T (Option PV)} {μ0 : Mu} (hs : ∀ μ', Kp no0 μ0 μ' → src.all μ' = some xs)
    (hstep : ∀ v d μ, Kp no0 μ0 μ → 3 ≤ μ.length → Rp W μ v d → Snv n W (fun μ' (o : Option PV) (o' : Option D) => (o = none ∧ o' = none) ∨ ∃ v d, o = some v ∧ o' = some d ∧ Rp W μ' v d) μ (pstep v) (step d μ)) :
    ∀ (vs : List PV) (k : Nat) (acc : List PV) (ads : List D) (μ : Mu), 3 ≤ μ0.length → Kp no0 μ0 μ → Rps W μ vs (xs.drop k) → Rps W μ acc ads → ∀ (b : Nat) (Q : Nat → List PV → Prop), Dr n b μ → (pcompN pstep vs acc).All b Q (fun _ _ _ => False) →
      ∃ ys μ', compN src step (xs.length - k) k ads μ = .ok ys μ' ∧ PostG n (Rps W) μ Q ys μ'
  | [], k, acc, ads, μ, h3, hk, hr, ha, b, Q, hd, h => by
    have e := hr.nil
    have hl : xs.length ≤ k := by
      rw [List.drop_eq_nil_iff] at e
      exact e
    have e2 : xs.length - k = 0 := by omega
    rw [e2]
    have e3 : xs[k]? = none := List.getElem?_eq_none hl
    exact ⟨ads, μ, by simp only [compN, Src.next, hs μ hk, Option.map_some, e3], b, acc, h, ha, Kp.refl, hd⟩
  | v :: vs, k, acc, ads, μ, h3, hk, hr, ha, b, Q, hd, h => by
    obtain ⟨d, r, e, h1, h2⟩ := hr.uncons
    have hl : k < xs.length := by
      rcases Nat.lt_or_ge k xs.length with z | z
      · exact z
      · rw [List.drop_eq_nil_of_le z] at e
        cases e
    rw [List.drop_eq_getElem_cons hl] at e
    obtain ⟨e4, e5⟩ := List.cons.inj e
    have e2 : xs.length - k = (xs.length - (k + 1)) + 1 := by omega
    have e3 : xs[k]? = some d := by rw [List.getElem?_eq_getElem hl, e4]
    rw [e2]
    unfold pcompN at h
    have z := hstep v d μ hk hd.l3 h1 b _ _ hd (all_bind.mp h)
    simp only [compN, Src.next, hs μ hk, Option.map_some, e3]
    generalize step d μ = r0 at z
    cases r0 with
    | ok o μ1 =>
      obtain ⟨b1, o1, q1, q2, q3, q4⟩ := z
      have k1 := hk.trans q3
      rcases q2 with ⟨rfl, rfl⟩ | ⟨v1, d1, rfl, rfl, q2⟩
      · obtain ⟨ys, μ2, y1, b2, w2, y2, y3, y4, y5⟩ := comp_snd hs hstep vs (k + 1) acc ads μ1 h3 k1 (by rw [e5]; exact h2.kp hd.l3 q3) (ha.kp hd.l3 q3) b1 Q q4 q1
        exact ⟨ys, μ2, y1, b2, w2, y2, y3, q3.trans y4, y5⟩
      · simp only at q1 ⊢
        split at q1
        · rename_i hlen
          rw [if_pos (by rw [← ha.len]; exact hlen)]
          obtain ⟨ys, μ2, y1, b2, w2, y2, y3, y4, y5⟩ := comp_snd hs hstep vs (k + 1) (acc ++ [v1]) (ads ++ [d1]) μ1 h3 k1 (by rw [e5]; exact h2.kp hd.l3 q3) ((ha.kp hd.l3 q3).app (Rps.one q2)) b1 Q q4 q1
          exact ⟨ys, μ2, y1, b2, w2, y2, y3, q3.trans y4, y5⟩
        · exact q1.elim
    | exc c fs m => obtain ⟨_, _, q, _⟩ := z; exact q.elim
    | no => exact z.elim
/-- an item of an object -/
theorem pattr_snd (hF : FOk n F pF pI) {W : Nat → Prop} {μ : Mu} (hW : Bd W μ) {v : PV} {d : D} {f : Str} (h : Rp W μ v d) : Snv n W (Rp W) μ (pattr P pF v f) (attrD P F d f μ) := by
  unfold pattr
  split
  · rename_i c fs
    obtain ⟨⟨i, gs, rfl, h3, hi, hr⟩, hf⟩ := h
    split
    · rename_i k hk
      split
      · exact snd_bad
      · rename_i hx
        simp only [attrD, hi, hk, hx, Bool.false_eq_true, if_false]
        split
        · rename_i p hp
          intro b Q E hd ha
          have hv : Rps W μ [.ins c fs] [.ref i] := Rps.one ⟨⟨i, gs, rfl, h3, hi, hr⟩, hf⟩
          obtain ⟨d, μ', e, z⟩ := snd_calm (hF.fn W μ p _ _ hW hv) hd ha
          simp only [hp, e]
          exact z
        · rename_i hp
          try simp only [hp]
          split
          · rename_i hm
            refine snd_of fun v e => ?_
            obtain ⟨d, e1, e2⟩ := hr.look.1 v e
            simp only [e1]
            exact snd_ret e2
          · exact snd_bad
    · exact snd_bad
  · rename_i c fs m
    obtain ⟨⟨i, gs, rfl, h3, hi, hr⟩, hf⟩ := h
    split
    · rename_i k hk
      split
      · rename_i hx
        simp only [attrD, hi, hk, hx.1, hx.2, and_self, if_true]
        refine snd_of fun v e => ?_
        obtain ⟨d, e1, e2⟩ := hr.look.1 v e
        simp only [e1]
        exact snd_ret e2
      · exact snd_bad
    · exact snd_bad
  · exact snd_bad
theorem pmk_snd (hF : FOk n F pF pI) {W : Nat → Prop} {μ : Mu} (hW : Bd W μ) {vs : List PV} {ds : List D} {c : Nat} (h : Rps W μ vs ds) : Snv n W (Rp W) μ (pmk P pI c vs) (mkD P F c ds μ) := by
  unfold pmk
  split
  · rename_i k hk
    split
    · rename_i hx
      simp only [mkD, hk, hx, if_true]
      split
      · rename_i fs m e
        obtain ⟨gs, e1, e2⟩ := pexc_snd h e
        simp only [e1]
        exact snd_new fun h3 => rp_exc h3 e2 hW.new
      · exact snd_bad
    · rename_i hx
      simp only [mkD, hk, hx, Bool.false_eq_true, if_false]
      split
      · rename_i f hf
        try simp only [hf]
        exact hF.mki W μ f c vs ds hW h
      · exact snd_bad
  · exact snd_bad
end
end Lt

set_option Elab.async false
set_option linter.all false
set_option maxRecDepth 100000
set_option maxHeartbeats 4000000
/-! Pv6: expressions, by induction. -/
namespace Lt
open PySem L2
section
variable (n : Nat) (P : Pg) (F : Nat → List D → Mu → R D) (pF : Nat → List PV → T PV) (pI : Nat → Nat → List PV → T PV)
def SEe (e : LE) : Prop := ∀ W μ ρv ρ, Bd W μ → Re W μ ρv ρ → Nl ρv (leakE e) → Snv n W (Rp W) μ (pvE P pF pI e ρv) (evE P F e ρ μ)
def SBe (e : LE) : Prop := ∀ W μ ρv ρ, Bd W μ → Re W μ ρv ρ → Nl ρv (leakB e) → Snv n W (Rb W) μ (pvE P pF pI e ρv) (evE P F e ρ μ)
def SAe (e : LA) : Prop := ∀ W μ ρv ρ, Bd W μ → Re W μ ρv ρ → Nl ρv (leakA e) → Snv n W (Rps W) μ (pvA P pF pI e ρv) (evA P F e ρ μ)
def SABe (e : LA) : Prop := ∀ W μ ρv ρ, Bd W μ → Re W μ ρv ρ → Nl ρv (leakAB e) → Snv n W (Rbs W) μ (pvA P pF pI e ρv) (evA P F e ρ μ)
def SCe (e : LA) : Prop := ∀ W μ ρv ρ, Bd W μ → Re W μ ρv ρ → Nl ρv (leakA e) → Snv n W (fun _ (b c : Bool) => b = c) μ (pvC P pF pI e ρv) (evC P F e ρ μ)
def SIe (e : LI) : Prop := ∀ W μ ρv ρ, Bd W μ → Re W μ ρv ρ → Nl ρv (leakI e) → Snv n W (Sr W) μ (pvI P pF pI e ρv) (evI P F e ρ μ)
end
section
variable {n : Nat} {P : Pg} {F : Nat → List D → Mu → R D} {pF : Nat → List PV → T PV} {pI : Nat → Nat → List PV → T PV}
theorem isOwn_at {ρ : PFr} {i : Nat} {b : Bool} {v : PV} (h : isOwn ρ i = false) (e : ρ[i]? = some (some (b, v))) : b = false := by
  unfold isOwn at h
  rw [e] at h
  cases b with
  | true => cases h
  | false => rfl
theorem toBv {e : LE} (h : SEe n P F pF pI e) : SBe n P F pF pI e := by
  intro W μ ρv ρ hW hR hN
  rcases leakB_of e with ⟨i, rfl⟩ | z
  · simp only [pvE]
    split
    · rename_i b v e
      cases b with
      | false =>
        obtain ⟨d, h1, h2⟩ := hR.get _ _ e
        simp only [evE, h1]
        exact snd_ret h2.1
      | true =>
        obtain ⟨d, h1, h2, h3⟩ := hR.own _ _ e
        simp only [evE, h1]
        exact snd_ret h3
    · exact snd_bad
  · rw [z] at hN
    exact snd_rel (h W μ ρv ρ hW hR hN) fun _ _ _ h => h.1
theorem snd_if {α β : Type} {W : Nat → Prop} {Rel : Mu → α → β → Prop} {μ : Mu} {c : Prop} [Decidable c] {v : T α} {d d' : R β} (h : c → Snv n W Rel μ v d) : Snv n W Rel μ (if c then v else .bad) (if c then d else d') := by
  by_cases hc : c
  · rw [if_pos hc, if_pos hc]; exact h hc
  · rw [if_neg hc]; exact snd_bad
theorem rps_mapI {W : Nat → Prop} {μ : Mu} : ∀ (l : List Nat), Rps W μ (l.map fun (k : Nat) => PV.int (k : Int)) (l.map fun (k : Nat) => D.int (k : Int))
  | [] => rfl
  | k :: r => ⟨_, _, rfl, rp_int, rps_mapI r⟩
theorem rps_enum {W : Nat → Prop} {μ : Mu} : ∀ {vs : List PV} {ds : List D} (k : Nat), Rps W μ vs ds → Rps W μ (vs.mapIdx fun j d => .tup [.int ((j + k : Nat) : Int), d]) (ds.mapIdx fun j d => .tup [.int ((j + k : Nat) : Int), d])
  | [], ds, k, h => by obtain rfl := h.nil; exact rfl
  | v :: vs, ds, k, h => by
    obtain ⟨d, r, rfl, h1, h2⟩ := h.uncons
    simp only [List.mapIdx_cons]
    have ih := rps_enum (k + 1) h2
    have z : ∀ j : Nat, j + 1 + k = j + (k + 1) := fun j => by omega
    simp only [z]
    exact ⟨_, _, rfl, rp_tup ⟨_, _, rfl, rp_int, _, _, rfl, h1, rfl⟩, ih⟩
mutual
theorem sndE (hF : FOk n F pF pI) : ∀ (e : LE), SEe n P F pF pI e
  | .var i => fun W μ ρv ρ hW hR hN => by
    simp only [pvE]
    split
    · rename_i b v e
      have hb := isOwn_at (hN i (by simp [leakE])) e
      subst hb
      obtain ⟨d, h1, h2⟩ := hR.get _ _ e
      simp only [evE, h1]
      exact snd_ret h2
    · exact snd_bad
  | .cst d => fun W μ ρv ρ hW hR hN => by
    simp only [pvE, evE]
    cases d <;> first | exact snd_bad | skip
    · exact snd_ret rp_non
    · exact snd_ret rp_bl
    · exact snd_ret rp_int
    · exact snd_ret rp_str
  | .bin op a b => fun W μ ρv ρ hW hR hN => by
    simp only [pvE, evE]
    refine snd_bind (toBv (sndE hF a) W μ ρv ρ hW hR hN.l) fun x d μ1 h1 k1 l1 => ?_
    refine snd_bind (toBv (sndE hF b) W μ1 ρv ρ (hW.kp k1) (hR.kp l1 k1) hN.r) fun y e μ2 h2 k2 l2 => ?_
    exact snd_of fun z q => pop2_snd ((hW.kp k1).kp k2) (h1.kp l2 k2) h2 q
  | .neg a => fun W μ ρv ρ hW hR hN => by
    simp only [pvE, evE]
    refine snd_bind (toBv (sndE hF a) W μ ρv ρ hW hR hN) fun x d μ1 h1 k1 l1 => ?_
    cases x <;> first | exact snd_bad | skip
    obtain rfl : d = _ := h1
    exact snd_ret rp_int
  | .cmp op a b => fun W μ ρv ρ hW hR hN => by
    simp only [pvE, evE]
    refine snd_bind (toBv (sndE hF a) W μ ρv ρ hW hR hN.l) fun x d μ1 h1 k1 l1 => ?_
    refine snd_bind (toBv (sndE hF b) W μ1 ρv ρ (hW.kp k1) (hR.kp l1 k1) hN.r) fun y e μ2 h2 k2 l2 => ?_
    refine snd_of fun z q => ?_
    obtain ⟨b, q1, rfl⟩ := Option.map_eq_some_iff.mp q
    simp only [pcmp_snd (h1.kp l2 k2) h2 q1, blR]
    exact snd_ret rp_bl
  | .chain op op' a b c => fun W μ ρv ρ hW hR hN => by
    simp only [pvE, evE]
    refine snd_bind (toBv (sndE hF a) W μ ρv ρ hW hR hN.l.l) fun x d μ1 h1 k1 l1 => ?_
    refine snd_bind (toBv (sndE hF b) W μ1 ρv ρ (hW.kp k1) (hR.kp l1 k1) hN.l.r) fun y e μ2 h2 k2 l2 => ?_
    split
    · rename_i q
      simp only [pcmp_snd (h1.kp l2 k2) h2 q]
      refine snd_bind (toBv (sndE hF c) W μ2 ρv ρ ((hW.kp k1).kp k2) ((hR.kp l1 k1).kp l2 k2) hN.r) fun z f μ3 h3 k3 l3 => ?_
      refine snd_of fun z q => ?_
      obtain ⟨b, q1, rfl⟩ := Option.map_eq_some_iff.mp q
      simp only [pcmp_snd (h2.kp l3 k3) h3 q1, blR]
      exact snd_ret rp_bl
    · rename_i q
      simp only [pcmp_snd (h1.kp l2 k2) h2 q]
      exact snd_ret rp_bl
    · exact snd_bad
  | .and a b => fun W μ ρv ρ hW hR hN => by
    simp only [pvE, evE]
    refine snd_bind (sndE hF a W μ ρv ρ hW hR hN.l) fun x d μ1 h1 k1 l1 => ?_
    cases x <;> first | exact snd_bad | skip
    rename_i c
    obtain rfl : d = _ := h1.1
    cases c with
    | true => exact sndE hF b W μ1 ρv ρ (hW.kp k1) (hR.kp l1 k1) hN.r
    | false => exact snd_ret rp_bl
  | .or a b => fun W μ ρv ρ hW hR hN => by
    simp only [pvE, evE]
    refine snd_bind (sndE hF a W μ ρv ρ hW hR hN.l) fun x d μ1 h1 k1 l1 => ?_
    cases x <;> first | exact snd_bad | skip
    rename_i c
    obtain rfl : d = _ := h1.1
    cases c with
    | false => exact sndE hF b W μ1 ρv ρ (hW.kp k1) (hR.kp l1 k1) hN.r
    | true => exact snd_ret rp_bl
  | .not a => fun W μ ρv ρ hW hR hN => by
    simp only [pvE, evE]
    refine snd_bind (toBv (sndE hF a) W μ ρv ρ hW hR hN) fun x d μ1 h1 k1 l1 => ?_
    cases x <;> first | exact snd_bad | skip
    obtain rfl : d = _ := h1
    exact snd_ret rp_bl
  | .ite c a b => fun W μ ρv ρ hW hR hN => by
    simp only [pvE, evE]
    refine snd_bind (toBv (sndE hF c) W μ ρv ρ hW hR hN.l.l) fun x d μ1 h1 k1 l1 => ?_
    cases x <;> first | exact snd_bad | skip
    rename_i c
    obtain rfl : d = _ := h1
    cases c with
    | true => exact sndE hF a W μ1 ρv ρ (hW.kp k1) (hR.kp l1 k1) hN.l.r
    | false => exact sndE hF b W μ1 ρv ρ (hW.kp k1) (hR.kp l1 k1) hN.r
  | .tup as => fun W μ ρv ρ hW hR hN => by
    simp only [pvE, evE]
    refine snd_bind ((sndA hF as).1 W μ ρv ρ hW hR hN) fun x d μ1 h1 k1 l1 => ?_
    rw [← h1.len]
    exact snd_if fun hc => snd_ret (rp_tup h1)
  | .lst as => fun W μ ρv ρ hW hR hN => by
    simp only [pvE, evE]
    refine snd_bind ((sndA hF as).1 W μ ρv ρ hW hR hN) fun x d μ1 h1 k1 l1 => ?_
    rw [← h1.len]
    exact snd_if fun hc => snd_new fun h3 => rp_new h3 h1 (hW.kp k1).new
  | .dct as => fun W μ ρv ρ hW hR hN => by
    simp only [pvE, evE]
    refine snd_bind ((sndA hF as).1 W μ ρv ρ hW hR hN) fun x d μ1 h1 k1 l1 => ?_
    split
    · rename_i kvs q
      obtain ⟨kds, e1, e2⟩ := pmkKv_snd h1 q
      simp only [e1, ← e2.len]
      exact snd_if fun hc => snd_new fun h3 => rp_dct h3 (fold_put e2 rfl) (hW.kp k1).new
    · exact snd_bad
  | .ix a i => fun W μ ρv ρ hW hR hN => by
    simp only [pvE, evE]
    refine snd_bind (toBv (sndE hF a) W μ ρv ρ hW hR hN.l) fun x d μ1 h1 k1 l1 => ?_
    refine snd_bind (toBv (sndE hF i) W μ1 ρv ρ (hW.kp k1) (hR.kp l1 k1) hN.r) fun y e μ2 h2 k2 l2 => ?_
    exact snd_of fun z q => pix_snd (h1.kp l2 k2) h2 q
  | .sl a lo hi => fun W μ ρv ρ hW hR hN => by
    simp only [pvE]
    exact snd_bad
  | .attr a f => fun W μ ρv ρ hW hR hN => by
    simp only [pvE, evE]
    refine snd_bind (sndE hF a W μ ρv ρ hW hR hN) fun x d μ1 h1 k1 l1 => ?_
    exact pattr_snd hF (hW.kp k1) h1
  | .fn f as => fun W μ ρv ρ hW hR hN => by
    simp only [pvE, evE]
    refine snd_bind ((sndA hF as).1 W μ ρv ρ hW hR hN) fun x d μ1 h1 k1 l1 => ?_
    exact hF.fn W μ1 f x d (hW.kp k1) h1
  | .mk c as => fun W μ ρv ρ hW hR hN => by
    simp only [pvE, evE]
    refine snd_bind ((sndA hF as).1 W μ ρv ρ hW hR hN) fun x d μ1 h1 k1 l1 => ?_
    exact pmk_snd hF (hW.kp k1) h1
  | .bi b as => fun W μ ρv ρ hW hR hN => by
    simp only [pvE, evE]
    refine snd_bind ((sndA hF as).2.1 W μ ρv ρ hW hR hN) fun x d μ1 h1 k1 l1 => ?_
    exact snd_of fun z q => pbi_snd (hW.kp k1) h1 q
  | .isi a ts => fun W μ ρv ρ hW hR hN => by
    simp only [pvE, evE]
    refine snd_bind (toBv (sndE hF a) W μ ρv ρ hW hR hN) fun x d μ1 h1 k1 l1 => ?_
    refine snd_of fun z q => ?_
    obtain ⟨b, q1, rfl⟩ := Option.map_eq_some_iff.mp q
    simp only [pisi_snd h1 q1, blR]
    exact snd_ret rp_bl
  | .meth a m as => fun W μ ρv ρ hW hR hN => by
    simp only [pvE, evE]
    refine snd_bind (sndE hF a W μ ρv ρ hW hR hN.l) fun x d μ1 h1 k1 l1 => ?_
    split
    · rename_i f q
      have hm : methK P d m μ1 = some (.fn f) := by
        unfold pmeth at q
        split at q
        · rename_i c fs
          obtain ⟨⟨i, gs, rfl, h3, hi, hr⟩, hf⟩ := h1
          simp only [methK, hi]
          split at q
          · rename_i k hk
            try simp only [hk]
            split at q
            · cases q
            · rename_i hx
              simp only [hx, Bool.false_eq_true, if_false]
              split at q
              · rename_i e1 e2
                cases q
                simp only [e1, hr.look.2 e2]
              · cases q
          · cases q
        · cases q
      simp only [hm]
      refine snd_bind ((sndA hF as).1 W μ1 ρv ρ (hW.kp k1) (hR.kp l1 k1) hN.r) fun y e μ2 h2 k2 l2 => ?_
      exact hF.fn W μ2 f _ _ ((hW.kp k1).kp k2) ⟨_, _, rfl, h1.kp l2 k2, h2⟩
    · exact snd_bad
  | .comp own tg it c e => fun W μ ρv ρ hW hR hN => by
    simp only [pvE, evE]
    intro b Q E hd ha
    have z := sndI hF it W μ ρv ρ hW hR hN.l.l b _ _ hd (all_bind.mp ha)
    generalize evI P F it ρ μ = r0 at z
    cases r0 with
    | no => exact z.elim
    | exc c fs m => exact z
    | ok src μ1 =>
      obtain ⟨b1, vs, q1, ⟨xs, s1, s2, s3⟩, k1, d1⟩ := z
      simp only [s1]
      have q2 := all_calm (all_bind.mp q1)
      obtain ⟨ys, μ2, e2, b2, ws, q3, r2, k2, d2⟩ := comp_snd (n := n) (W := W) (src := src) (xs := xs) (μ0 := μ1) (step := fun d μ => match bindG tg d (wipeF ρ own) with
          | some ρ' => (evC P F c ρ' μ).bind fun b μ => if b then (evE P F e ρ' μ).bind fun x μ => .ok (some x) μ else .ok none μ
          | none => .no) s3 (fun v d μ3 k3 h3 hv => by
          split
          · rename_i ρ' hb
            have hR3 := ((hR.kp hd.l3 k1).kp d1.l3 k3).wipe own
            obtain ⟨ρ2, hb2, hR4⟩ := hR3.bindG hv hb
            have hN4 : Nl ρ' (leakA c) := (hN.l.r.wipe own).bindG hb
            have hN5 : Nl ρ' (leakE e) := (hN.r.wipe own).bindG hb
            simp only [hb2]
            refine snd_bind ((sndA hF c).2.2 W μ3 ρ' ρ2 ((hW.kp k1).kp k3) hR4 hN4) fun x x' μ4 h4 k4 l4 => ?_
            subst h4
            cases x with
            | true =>
              simp only [if_true]
              refine snd_bind (sndE hF e W μ4 ρ' ρ2 (((hW.kp k1).kp k3).kp k4) (hR4.kp l4 k4) hN5) fun y d' μ5 h5 k5 l5 => ?_
              exact snd_ret (.inr ⟨_, _, rfl, rfl, h5⟩)
            | false =>
              simp only [Bool.false_eq_true, if_false]
              exact snd_ret (.inl ⟨rfl, rfl⟩)
          · exact snd_bad) vs 0 [] [] μ1 d1.l3 Kp.refl (by simpa using s2) rfl b1 _ d1 q2
      have key : ∀ r : R (List D), r = .ok ys μ2 → R.OkX (match r with
          | .ok ys μ' => new μ' (.lst ys)
          | _ => .no) (PostG n (Rp W) μ Q) (PostE n W μ E) := by
        rintro _ rfl
        exact ⟨b2, _, q3, rp_new d2.l3 r2 ((hW.kp k1).kp k2).new, (k1.trans k2).trans (Kp.app _), d2.app _⟩
      exact key _ e2
theorem sndA (hF : FOk n F pF pI) : ∀ (as : LA), SAe n P F pF pI as ∧ SABe n P F pF pI as ∧ SCe n P F pF pI as
  | .nil => ⟨fun W μ ρv ρ hW hR hN => by simp only [pvA, evA]; exact snd_ret rfl, fun W μ ρv ρ hW hR hN => by simp only [pvA, evA]; exact snd_ret rfl, fun W μ ρv ρ hW hR hN => by simp only [pvC, evC]; exact snd_ret rfl⟩
  | .cons e as => ⟨fun W μ ρv ρ hW hR hN => by
      simp only [pvA, evA]
      refine snd_bind (sndE hF e W μ ρv ρ hW hR hN.l) fun x d μ1 h1 k1 l1 => ?_
      refine snd_bind ((sndA hF as).1 W μ1 ρv ρ (hW.kp k1) (hR.kp l1 k1) hN.r) fun y e μ2 h2 k2 l2 => ?_
      exact snd_ret ⟨_, _, rfl, h1.kp l2 k2, h2⟩,
    fun W μ ρv ρ hW hR hN => by
      simp only [pvA, evA]
      refine snd_bind (toBv (sndE hF e) W μ ρv ρ hW hR hN.l) fun x d μ1 h1 k1 l1 => ?_
      refine snd_bind ((sndA hF as).2.1 W μ1 ρv ρ (hW.kp k1) (hR.kp l1 k1) hN.r) fun y e μ2 h2 k2 l2 => ?_
      exact snd_ret ⟨_, _, rfl, h1.kp l2 k2, h2⟩,
    fun W μ ρv ρ hW hR hN => by
      cases as with
      | nil =>
        simp only [pvC, evC]
        refine snd_bind (sndE hF e W μ ρv ρ hW hR hN.l) fun x d μ1 h1 k1 l1 => ?_
        cases x <;> first | exact snd_bad | skip
        obtain rfl : d = _ := h1.1
        exact snd_ret rfl
      | cons a b =>
        simp only [pvC]
        exact snd_bad⟩
theorem sndI (hF : FOk n F pF pI) : ∀ (it : LI), SIe n P F pF pI it
  | .exp e => fun W μ ρv ρ hW hR hN => by
    simp only [pvI, evI]
    refine snd_bind (toBv (sndE hF e) W μ ρv ρ hW hR hN) fun x d μ1 h1 k1 l1 => ?_
    cases x <;> first | exact snd_bad | skip
    · obtain ⟨ds, rfl, hr⟩ := h1
      exact snd_ret ⟨ds, rfl, hr, fun _ _ => rfl⟩
    · obtain ⟨i, ds, rfl, h3, hi, hr⟩ := h1
      have e1 : lst? μ1 (.ref i) = some ds := by simp only [lst?, hi]
      simp only [e1]
      refine snd_ret ⟨ds, by simp only [Src.all, lst?, hi], hr, fun μ' k => ?_⟩
      simp only [Src.all, lst?, k.2 i h3 (lt_of_some hi) id, hi]
  | .rng e => fun W μ ρv ρ hW hR hN => by
    simp only [pvI, evI]
    refine snd_bind (toBv (sndE hF e) W μ ρv ρ hW hR hN) fun x d μ1 h1 k1 l1 => ?_
    cases x <;> first | exact snd_bad | skip
    obtain rfl : d = _ := h1
    exact snd_if fun hc => snd_ret ⟨_, rfl, rps_mapI _, fun _ _ => rfl⟩
  | .enum e => fun W μ ρv ρ hW hR hN => by
    simp only [pvI, evI]
    refine snd_bind (toBv (sndE hF e) W μ ρv ρ hW hR hN) fun x d μ1 h1 k1 l1 => ?_
    cases x <;> first | exact snd_bad | skip
    obtain ⟨i, ds, rfl, h3, hi, hr⟩ := h1
    have e1 : lst? μ1 (.ref i) = some ds := by simp only [lst?, hi]
    simp only [e1]
    refine snd_ret ⟨_, by simp only [Src.all, lst?, hi]; rfl, rps_enum 0 hr, fun μ' k => ?_⟩
    simp only [Src.all, lst?, k.2 i h3 (lt_of_some hi) id, hi]
    rfl
end
end
end Lt

set_option Elab.async false
set_option linter.all false
set_option maxRecDepth 100000
set_option maxHeartbeats 4000000
/-! Pv7: frames whose slots may have their values alone. -/
namespace Lt
open PySem L2
/-- what nobody else may hold: what the callers' slots have, and this frame's -/
def WW (A : Nat → Prop) (ρv : PFr) (ρ : Fr) : Nat → Prop := fun i => A i ∨ Own ρv ρ i
structure Sf (A : Nat → Prop) (n0 : Nat) (ρv : PFr) (ρ : Fr) (μ : Mu) : Prop where
  re : Re (WW A ρv ρ) μ ρv ρ
  nd : ∀ (j j' i : Nat) (v v' : PV), ρv[j]? = some (some (true, v)) → ρ[j]? = some (some (D.ref i)) → ρv[j']? = some (some (true, v')) → ρ[j']? = some (some (D.ref i)) → j = j'
  low : ∀ i, Own ρv ρ i → n0 ≤ i ∧ 3 ≤ i ∧ i < μ.length
  bdA : ∀ i, A i → i < n0
  le : n0 ≤ μ.length
  slf : ∀ (j c : Nat) (fs : List (Str × PV)), ρv[j]? = some (some (true, .ins c fs)) → ρ[j]? = some (some (D.ref n0))
theorem Sf.bd {A : Nat → Prop} {n0 : Nat} {ρv : PFr} {ρ : Fr} {μ : Mu} (h : Sf A n0 ρv ρ μ) : Bd (WW A ρv ρ) μ := fun i hw => by
  rcases hw with hw | hw
  · exact Nat.lt_of_lt_of_le (h.bdA i hw) h.le
  · exact (h.low i hw).2.2
theorem Sf.kp {A : Nat → Prop} {n0 : Nat} {ρv : PFr} {ρ : Fr} {μ μ' : Mu} (h : Sf A n0 ρv ρ μ) (h3 : 3 ≤ μ.length) (k : Kp no0 μ μ') : Sf A n0 ρv ρ μ' where
  re := h.re.kp h3 k
  nd := h.nd
  low := fun i o => ⟨(h.low i o).1, (h.low i o).2.1, Nat.lt_of_lt_of_le (h.low i o).2.2 k.1⟩
  bdA := h.bdA
  le := Nat.le_trans h.le k.1
  slf := h.slf
/-- from one frame to a later one -/
structure St (ρv : PFr) (ρ : Fr) (μ : Mu) (ρv' : PFr) (ρ' : Fr) (μ' : Mu) : Prop where
  kp : Kp (Own ρv ρ) μ μ'
  own : ∀ i, Own ρv' ρ' i → Own ρv ρ i ∨ μ.length ≤ i
theorem St.trans {ρv ρv1 ρv2 : PFr} {ρ ρ1 ρ2 : Fr} {μ μ1 μ2 : Mu} (a : St ρv ρ μ ρv1 ρ1 μ1) (b : St ρv1 ρ1 μ1 ρv2 ρ2 μ2) : St ρv ρ μ ρv2 ρ2 μ2 where
  kp := ⟨Nat.le_trans a.kp.1 b.kp.1, fun i h1 h2 h3 => (b.kp.2 i h1 (Nat.lt_of_lt_of_le h2 a.kp.1) fun o => by
    rcases a.own i o with z | z
    · exact h3 z
    · omega).trans (a.kp.2 i h1 h2 h3)⟩
  own := fun i o => by
    rcases b.own i o with z | z
    · exact a.own i z
    · exact .inr (Nat.le_trans a.kp.1 z)
theorem St.kpT {ρv ρv1 : PFr} {ρ ρ1 : Fr} {μ μ1 μ2 : Mu} (a : St ρv ρ μ ρv1 ρ1 μ1) (b : Kp (Own ρv1 ρ1) μ1 μ2) : Kp (Own ρv ρ) μ μ2 :=
  ⟨Nat.le_trans a.kp.1 b.1, fun i h1 h2 h3 => (b.2 i h1 (Nat.lt_of_lt_of_le h2 a.kp.1) fun o => by
    rcases a.own i o with z | z
    · exact h3 z
    · omega).trans (a.kp.2 i h1 h2 h3)⟩
theorem St.mv {A : Nat → Prop} {ρv ρv1 : PFr} {ρ ρ1 : Fr} {μ μ1 : Mu} (h3 : 3 ≤ μ.length) (a : St ρv ρ μ ρv1 ρ1 μ1) : Mv (WW A ρv ρ) (WW A ρv1 ρ1) μ μ1 where
  l3 := h3
  keep := fun i h1 h2 h4 => a.kp.2 i h1 h2 fun o => h4 (.inr o)
  sub := fun i h => by
    rcases h with h | h
    · exact .inl (.inl h)
    · rcases a.own i h with z | z
      · exact .inl (.inr z)
      · exact .inr z
theorem St.of {ρv : PFr} {ρ : Fr} {μ μ' : Mu} (k : Kp no0 μ μ') : St ρv ρ μ ρv ρ μ' := ⟨k.to, fun _ h => .inl h⟩
theorem St.refl {ρv : PFr} {ρ : Fr} {μ : Mu} : St ρv ρ μ ρv ρ μ := St.of Kp.refl
theorem Rb.sub {W W' : Nat → Prop} {μ : Mu} (h3 : 3 ≤ μ.length) (s : ∀ i, W' i → W i) {v : PV} {d : D} (h : Rb W μ v d) : Rb W' μ v d := Rb.mv ⟨h3, fun _ _ _ _ => rfl, fun i h => .inl (s i h)⟩ v d (fun _ _ _ _ => rfl) h
theorem Rp.sub {W W' : Nat → Prop} {μ : Mu} (h3 : 3 ≤ μ.length) (s : ∀ i, W' i → W i) {v : PV} {d : D} (h : Rp W μ v d) : Rp W' μ v d := Rp.mv ⟨h3, fun _ _ _ _ => rfl, fun i h => .inl (s i h)⟩ h

section
variable {A : Nat → Prop} {n0 : Nat} {ρv : PFr} {ρ : Fr} {μ : Mu}
/-! #### a slot's value is given free -/
theorem own_rel1 {j i : Nat} (o : Own (rel1 ρv j) ρ i) : Own ρv ρ i ∧ ∀ v, ρv[j]? = some (some (true, v)) → ρ[j]? ≠ some (some (.ref i)) ∨ ∃ j', j' ≠ j ∧ (∃ w, ρv[j']? = some (some (true, w))) ∧ ρ[j']? = some (some (.ref i)) := by
  obtain ⟨k, w, h1, h2⟩ := o
  unfold rel1 at h1
  split at h1
  · rename_i v e
    by_cases hk : j = k
    · subst hk
      rw [List.getElem?_set_self (lt_of_some e)] at h1
      cases h1
    · rw [List.getElem?_set_ne hk] at h1
      exact ⟨⟨k, w, h1, h2⟩, fun _ _ => .inr ⟨k, fun z => hk z.symm, ⟨w, h1⟩, h2⟩⟩
  · rename_i hn
    exact ⟨⟨k, w, h1, h2⟩, fun v e => absurd e (hn v)⟩
theorem Sf.rel1 (h : Sf A n0 ρv ρ μ) (h3 : 3 ≤ μ.length) (j : Nat) : Sf A n0 (Lt.rel1 ρv j) ρ μ := by
  have sub : ∀ i, WW A (Lt.rel1 ρv j) ρ i → WW A ρv ρ i := fun i hw => by
    rcases hw with hw | hw
    · exact .inl hw
    · exact .inr (own_rel1 hw).1
  have key : ∀ (k : Nat) (b : Bool) (v : PV), (Lt.rel1 ρv j)[k]? = some (some (b, v)) → ρv[k]? = some (some (b, v)) ∨ (k = j ∧ b = false ∧ ρv[j]? = some (some (true, v))) := fun k b v e => by
    unfold Lt.rel1 at e
    split at e
    · rename_i v' e'
      by_cases hk : j = k
      · subst hk
        rw [List.getElem?_set_self (lt_of_some e')] at e
        cases e
        exact .inr ⟨rfl, rfl, e'⟩
      · rw [List.getElem?_set_ne hk] at e
        exact .inl e
    · exact .inl e
  refine ⟨⟨?_, fun k v e => ?_, fun k v e => ?_⟩, fun k k' i v v' e1 e2 e3 e4 => ?_, fun i o => h.low i (own_rel1 o).1, h.bdA, h.le, fun k c fs e => by
    rcases key k true _ e with z | ⟨_, z, _⟩
    · exact h.slf k c fs z
    · cases z⟩
  · unfold Lt.rel1
    split
    · rw [List.length_set]; exact h.re.len
    · exact h.re.len
  · rcases key k false v e with z | ⟨rfl, _, z⟩
    · obtain ⟨d, h1, h2⟩ := h.re.get k v z
      exact ⟨d, h1, h2.sub h3 sub⟩
    · obtain ⟨i, h1, h2, h4⟩ := h.re.own k v z
      refine ⟨_, h1, h4.sub h3 sub, fun i' e' hw => ?_⟩
      cases e'
      have ho : Own ρv ρ i := ⟨k, v, z, h1⟩
      rcases hw with hw | hw
      · have := h.bdA i hw
        have := (h.low i ho).1
        omega
      · rcases (own_rel1 hw).2 v z with q | ⟨j', q1, ⟨w, q2⟩, q3⟩
        · exact q h1
        · exact q1 (h.nd _ _ i _ _ q2 q3 z h1)
  · rcases key k true v e with z | ⟨_, z, _⟩
    · obtain ⟨i, h1, h2, h4⟩ := h.re.own k v z
      exact ⟨i, h1, .inr ⟨k, v, e, h1⟩, h4.sub h3 sub⟩
    · cases z
  · rcases key k true v e1 with z | ⟨_, z, _⟩
    · rcases key k' true v' e3 with z' | ⟨_, z', _⟩
      · exact h.nd k k' i v v' z e2 z' e4
      · cases z'
    · cases z
theorem Sf.rel (h3 : 3 ≤ μ.length) : ∀ (js : List Nat) {ρv : PFr}, Sf A n0 ρv ρ μ → Sf A n0 (Lt.rel ρv js) ρ μ
  | [], _, h => h
  | j :: js, _, h => Sf.rel h3 js (h.rel1 h3 j)
theorem own_rel : ∀ (js : List Nat) {ρv : PFr} {i : Nat}, Own (rel ρv js) ρ i → Own ρv ρ i
  | [], _, _, h => h
  | j :: js, _, _, h => (own_rel1 (own_rel js h)).1
theorem isOwn_rel1 {j k : Nat} (h : isOwn ρv k = false ∨ k = j) : isOwn (rel1 ρv j) k = false := by
  unfold rel1
  split
  · rename_i v e
    rcases h with h | rfl
    · exact isOwn_set (by intro v z; cases z) h
    · unfold isOwn
      rw [List.getElem?_set_self (lt_of_some e)]
  · rename_i hn
    rcases h with h | rfl
    · exact h
    · unfold isOwn
      split
      · rename_i v e
        exact absurd e (hn v)
      · rfl
theorem isOwn_rel : ∀ (js : List Nat) {ρv : PFr} {k : Nat}, (isOwn ρv k = false ∨ k ∈ js) → isOwn (rel ρv js) k = false
  | [], _, k, h => by
    rcases h with h | h
    · exact h
    · cases h
  | j :: js, ρv, k, h => by
    refine isOwn_rel js ?_
    rcases h with h | h
    · exact .inl (isOwn_rel1 (.inl h))
    · rcases List.mem_cons.mp h with rfl | h
      · exact .inl (isOwn_rel1 (.inr rfl))
      · exact .inr h
theorem nl_rel (js : List Nat) : Nl (rel ρv js) js := fun j hj => isOwn_rel js (.inr hj)
theorem St.rel (js : List Nat) : St ρv ρ μ (rel ρv js) ρ μ := ⟨Kp.refl, fun i h => .inl (own_rel js h)⟩

/-! #### a slot is written -/
theorem own_set {j i : Nat} {d : D} {b : Bool} {v : PV} (o : Own (ρv.set j (some (b, v))) (ρ.set j (some d)) i) : (b = true ∧ d = .ref i) ∨ (Own ρv ρ i ∧ ∃ k w, k ≠ j ∧ ρv[k]? = some (some (true, w)) ∧ ρ[k]? = some (some (.ref i))) := by
  obtain ⟨k, w, h1, h2⟩ := o
  by_cases hk : j = k
  · subst hk
    rw [List.getElem?_set_self (by simpa using lt_of_some h1)] at h1
    rw [List.getElem?_set_self (by simpa using lt_of_some h2)] at h2
    cases h1
    cases h2
    exact .inl ⟨rfl, rfl⟩
  · rw [List.getElem?_set_ne hk] at h1 h2
    exact .inr ⟨⟨k, w, h1, h2⟩, k, w, fun z => hk z.symm, h1, h2⟩
/-- .. by a value that others may have -/
theorem Sf.set (h : Sf A n0 ρv ρ μ) (h3 : 3 ≤ μ.length) {j : Nat} {v : PV} {d : D} (hv : Rp (WW A ρv ρ) μ v d) : Sf A n0 (ρv.set j (some (false, v))) (ρ.set j (some d)) μ ∧ St ρv ρ μ (ρv.set j (some (false, v))) (ρ.set j (some d)) μ := by
  have so : ∀ i, Own (ρv.set j (some (false, v))) (ρ.set j (some d)) i → Own ρv ρ i := fun i o => by
    rcases own_set o with ⟨z, _⟩ | z
    · cases z
    · exact z.1
  have sub : ∀ i, WW A (ρv.set j (some (false, v))) (ρ.set j (some d)) i → WW A ρv ρ i := fun i hw => by
    rcases hw with hw | hw
    · exact .inl hw
    · exact .inr (so i hw)
  have hr := h.re.bind1 (i := j) hv
  refine ⟨⟨⟨hr.len, fun k w e => ?_, fun k w e => ?_⟩, fun k k' i w w' e1 e2 e3 e4 => ?_, fun i o => h.low i (so i o), h.bdA, h.le, fun k c fs e => by
    by_cases hk : j = k
    · subst hk
      rw [List.getElem?_set_self (by simpa using lt_of_some e)] at e
      cases e
    · rw [List.getElem?_set_ne hk] at e ⊢
      exact h.slf k c fs e⟩, Kp.refl, fun i o => .inl (so i o)⟩
  · obtain ⟨d', h1, h2⟩ := hr.get k w e
    exact ⟨d', h1, h2.sub h3 sub⟩
  · obtain ⟨i, h1, h2, h4⟩ := hr.own k w e
    exact ⟨i, h1, .inr ⟨k, w, e, h1⟩, h4.sub h3 sub⟩
  · have nk : ∀ (k : Nat) (w : PV) (i : Nat), (ρv.set j (some (false, v)))[k]? = some (some (true, w)) → (ρ.set j (some d))[k]? = some (some (D.ref i)) → ρv[k]? = some (some (true, w)) ∧ ρ[k]? = some (some (D.ref i)) := fun k w i e e' => by
      by_cases hk : j = k
      · subst hk
        rw [List.getElem?_set_self (by simpa using lt_of_some e)] at e
        cases e
      · rw [List.getElem?_set_ne hk] at e e'
        exact ⟨e, e'⟩
    obtain ⟨a1, a2⟩ := nk _ _ _ e1 e2
    obtain ⟨a3, a4⟩ := nk _ _ _ e3 e4
    exact h.nd k k' i w w' a1 a2 a3 a4
theorem Sf.sets (h3 : 3 ≤ μ.length) : ∀ {is : List Nat} {ρv ρv' : PFr} {ρ : Fr} {vs : List PV} {ds : List D}, Sf A n0 ρv ρ μ → Rps (WW A ρv ρ) μ vs ds → psetFr ρv is vs = some ρv' → ∃ ρ', setFr ρ is ds = some ρ' ∧ Sf A n0 ρv' ρ' μ ∧ St ρv ρ μ ρv' ρ' μ
  | [], ρv, ρv', ρ, [], ds, h, hr, q => by
    obtain rfl := hr.nil
    cases q
    exact ⟨ρ, rfl, h, St.refl⟩
  | i :: is, ρv, ρv', ρ, v :: vs, ds, h, hr, q => by
    obtain ⟨d, r, rfl, h1, h2⟩ := hr.uncons
    obtain ⟨s1, s2⟩ := h.set h3 (j := i) h1
    obtain ⟨ρ', e, s3, s4⟩ := Sf.sets (is := is) (ds := r) h3 s1 (Rps.mv (s2.mv h3) _ _ h2) q
    exact ⟨ρ', e, s3, s2.trans s4⟩
  | [], _, _, _, _ :: _, _, _, _, q => by cases q
  | _ :: _, _, _, _, [], _, _, _, q => by cases q
theorem Sf.bindG (h : Sf A n0 ρv ρ μ) (h3 : 3 ≤ μ.length) {g : LG} {ρv' : PFr} {v : PV} {d : D} (hr : Rp (WW A ρv ρ) μ v d) (q : pbindG g v ρv = some ρv') : ∃ ρ', Lt.bindG g d ρ = some ρ' ∧ Sf A n0 ρv' ρ' μ ∧ St ρv ρ μ ρv' ρ' μ := by
  cases g with
  | nm i =>
    cases q
    exact ⟨_, rfl, h.set h3 hr⟩
  | tp is =>
    cases v <;> first | cases q | skip
    obtain ⟨ds, rfl, h2⟩ := hr.1
    exact h.sets h3 h2 q
/-- a value whose object is new -/
def RelF (W : Nat → Prop) (l0 : Nat) (μ' : Mu) (v : PV) (d : D) : Prop := ∃ μ1 o, μ' = μ1 ++ [o] ∧ d = .ref μ1.length ∧ 3 ≤ μ1.length ∧ l0 ≤ μ1.length ∧ Kp no0 μ1 μ' ∧
  ((∃ vs ds, v = .lst vs ∧ o = .lst ds ∧ Rps W μ1 vs ds) ∨ ∃ vs ds, v = .dct vs ∧ o = .dct ds ∧ Rpk W μ1 vs ds)
/-- .. or any other value -/
def RelG (W : Nat → Prop) (l0 : Nat) (μ' : Mu) (v : PV) (d : D) : Prop := if isLD v then RelF W l0 μ' v d else Rp W μ' v d
/-- .. a slot has it alone -/
theorem Sf.setF (h : Sf A n0 ρv ρ μ) (h3 : 3 ≤ μ.length) {j : Nat} {v : PV} {d : D} {μ' : Mu} (k : Kp no0 μ μ') (hv : RelF (WW A ρv ρ) μ.length μ' v d) :
    Sf A n0 (ρv.set j (some (true, v))) (ρ.set j (some d)) μ' ∧ St ρv ρ μ (ρv.set j (some (true, v))) (ρ.set j (some d)) μ' := by
  obtain ⟨μ1, o, rfl, rfl, h13, hl, k1, hv⟩ := hv
  have so : ∀ i, Own (ρv.set j (some (true, v))) (ρ.set j (some (.ref μ1.length))) i → Own ρv ρ i ∨ i = μ1.length := fun i o => by
    rcases own_set o with ⟨_, z⟩ | z
    · cases z; exact .inr rfl
    · exact .inl z.1
  have mv : ∀ μa, 3 ≤ μa.length → Kp no0 μa (μ1 ++ [o]) → μa.length ≤ μ1.length → Mv (WW A ρv ρ) (WW A (ρv.set j (some (true, v))) (ρ.set j (some (.ref μ1.length)))) μa (μ1 ++ [o]) := fun μa h3 k hle => ⟨h3, fun i a b _ => k.2 i a b id, fun i hw => by
    rcases hw with hw | hw
    · exact .inl (.inl hw)
    · rcases so i hw with z | z
      · exact .inl (.inr z)
      · subst z; exact .inr hle⟩
  have hvb : Rb (WW A (ρv.set j (some (true, v))) (ρ.set j (some (.ref μ1.length)))) (μ1 ++ [o]) v (.ref μ1.length) := by
    rcases hv with ⟨vs, ds, rfl, rfl, hr⟩ | ⟨vs, ds, rfl, rfl, hr⟩
    · exact ⟨_, ds, rfl, h13, by simp, Rps.mv (mv μ1 h13 k1 (Nat.le_refl _)) _ _ hr⟩
    · exact ⟨_, ds, rfl, h13, by simp, Rpk.mv (mv μ1 h13 k1 (Nat.le_refl _)) _ _ hr⟩
  have m0 := mv μ h3 k hl
  refine ⟨⟨⟨by simp [h.re.len], fun i w e => ?_, fun i w e => ?_⟩, fun a b i w w' e1 e2 e3 e4 => ?_, fun i o' => ?_, h.bdA, Nat.le_trans h.le k.1, fun i c fs e => by
    by_cases hk : j = i
    · subst hk
      rw [List.getElem?_set_self (by simpa using lt_of_some e)] at e
      cases e
      rcases hv with ⟨vs, ds, q, _⟩ | ⟨vs, ds, q, _⟩ <;> cases q
    · rw [List.getElem?_set_ne hk] at e ⊢
      exact h.slf i c fs e⟩, k.to, fun i o' => ?_⟩
  · by_cases hi : j = i
    · subst hi
      rw [List.getElem?_set_self (by simpa using lt_of_some e)] at e
      cases e
    · rw [List.getElem?_set_ne hi] at e ⊢
      obtain ⟨d, h1, h2⟩ := h.re.get i w e
      exact ⟨d, h1, h2.mv m0⟩
  · by_cases hi : j = i
    · subst hi
      have hl := lt_of_some e
      rw [List.length_set] at hl
      have e0 := e
      rw [List.getElem?_set_self hl] at e
      cases e
      have e5 : (ρ.set j (some (D.ref μ1.length)))[j]? = some (some (D.ref μ1.length)) := List.getElem?_set_self (by rw [← h.re.len]; exact hl)
      exact ⟨_, e5, .inr ⟨j, v, e0, e5⟩, hvb⟩
    · have e0 := e
      rw [List.getElem?_set_ne hi] at e
      obtain ⟨d, h1, h2, h4⟩ := h.re.own i w e
      have e5 : (ρ.set j (some (D.ref μ1.length)))[i]? = some (some (D.ref d)) := by rw [List.getElem?_set_ne hi]; exact h1
      exact ⟨d, e5, .inr ⟨i, w, e0, e5⟩, Rb.mv m0 _ _ (fun i' _ a b => k.2 i' a b id) h4⟩
  · have ol : ∀ (k w i), ρv[k]? = some (some (true, w)) → ρ[k]? = some (some (D.ref i)) → i < μ1.length := fun k w i e e' => Nat.lt_of_lt_of_le (h.low i ⟨k, w, e, e'⟩).2.2 hl
    by_cases ha : j = a
    · subst ha
      rw [List.getElem?_set_self (by simpa using lt_of_some e2)] at e2
      cases e2
      by_cases hb : j = b
      · exact hb
      · rw [List.getElem?_set_ne hb] at e3 e4
        exact absurd (ol _ _ _ e3 e4) (Nat.lt_irrefl _)
    · rw [List.getElem?_set_ne ha] at e1 e2
      by_cases hb : j = b
      · subst hb
        rw [List.getElem?_set_self (by simpa using lt_of_some e4)] at e4
        cases e4
        exact absurd (ol _ _ _ e1 e2) (Nat.lt_irrefl _)
      · rw [List.getElem?_set_ne hb] at e3 e4
        exact h.nd a b i w w' e1 e2 e3 e4
  · rcases so i o' with z | rfl
    · have := h.low i z
      exact ⟨this.1, this.2.1, Nat.lt_of_lt_of_le this.2.2 k.1⟩
    · exact ⟨Nat.le_trans h.le hl, h13, by simp⟩
  · rcases so i o' with z | rfl
    · exact .inl z
    · exact .inr hl
/-- what a slot has alone is changed -/
theorem Sf.mut (h : Sf A n0 ρv ρ μ) (h3 : 3 ≤ μ.length) {j i : Nat} {v v' : PV} {o' : O} (e1 : ρv[j]? = some (some (true, v))) (e2 : ρ[j]? = some (some (D.ref i)))
    (hx : ∀ c fs, v' = .ins c fs → ∃ c' fs', v = .ins c' fs') (hv : Mv (WW A ρv ρ) (WW A ρv ρ) μ (μ.set i o') → Rb (WW A ρv ρ) (μ.set i o') v' (.ref i)) : Sf A n0 (ρv.set j (some (true, v'))) ρ (μ.set i o') ∧ St ρv ρ μ (ρv.set j (some (true, v'))) ρ (μ.set i o') := by
  have ho : Own ρv ρ i := ⟨j, v, e1, e2⟩
  have so : ∀ k, Own (ρv.set j (some (true, v'))) ρ k ↔ Own ρv ρ k := fun k => by
    constructor
    · rintro ⟨a, w, q1, q2⟩
      by_cases ha : j = a
      · subst ha; exact ⟨j, v, e1, q2⟩
      · rw [List.getElem?_set_ne ha] at q1; exact ⟨a, w, q1, q2⟩
    · rintro ⟨a, w, q1, q2⟩
      by_cases ha : j = a
      · subst ha; exact ⟨j, v', List.getElem?_set_self (lt_of_some e1), q2⟩
      · exact ⟨a, w, by rw [List.getElem?_set_ne ha]; exact q1, q2⟩
  have sw : WW A (ρv.set j (some (true, v'))) ρ = WW A ρv ρ := funext fun k => propext ⟨fun hw => hw.imp id (so k).mp, fun hw => hw.imp id (so k).mpr⟩
  have m : Mv (WW A ρv ρ) (WW A ρv ρ) μ (μ.set i o') := ⟨h3, fun k a b c => List.getElem?_set_ne fun (z : i = k) => c (.inr (by rw [← z]; exact ho)), fun k hw => .inl hw⟩
  have key : ∀ (a : Nat) (b : Bool) (w : PV), a ≠ j → (ρv.set j (some (true, v')))[a]? = some (some (b, w)) → ρv[a]? = some (some (b, w)) := fun a b w ha e => by rw [List.getElem?_set_ne (Ne.symm ha)] at e; exact e
  refine ⟨⟨?_, fun a b k w w' q1 q2 q3 q4 => ?_, fun k o => ?_, h.bdA, by rw [List.length_set]; exact h.le, fun k c fs e => by
    by_cases hk : k = j
    · subst hk
      rw [List.getElem?_set_self (lt_of_some e1)] at e
      cases e
      obtain ⟨c', fs', rfl⟩ := hx c fs rfl
      exact h.slf k c' fs' e1
    · exact h.slf k c fs (key k _ _ hk e)⟩, ⟨by rw [List.length_set]; exact Nat.le_refl _, fun k a b c => List.getElem?_set_ne fun (z : i = k) => c (by rw [← z]; exact ho)⟩, fun k o => .inl ((so k).mp o)⟩
  · rw [sw]
    refine ⟨by rw [List.length_set]; exact h.re.len, fun a w e => ?_, fun a w e => ?_⟩
    · by_cases ha : a = j
      · subst ha
        rw [List.getElem?_set_self (lt_of_some e1)] at e
        cases e
      · obtain ⟨d, h1, h2⟩ := h.re.get a w (key a _ w ha e)
        exact ⟨d, h1, h2.mv m⟩
    · by_cases ha : a = j
      · subst ha
        rw [List.getElem?_set_self (lt_of_some e1)] at e
        cases e
        exact ⟨i, e2, .inr ho, hv m⟩
      · obtain ⟨k, h1, h2, h4⟩ := h.re.own a w (key a _ w ha e)
        refine ⟨k, h1, h2, Rb.mv m _ _ (fun k' z _ _ => ?_) h4⟩
        cases z
        exact List.getElem?_set_ne fun (z : i = k) => ha (h.nd _ _ _ _ _ (key a _ w ha e) h1 e1 (by rw [← z]; exact e2))
  · by_cases ha : a = j
    · subst ha
      by_cases hb : b = a
      · exact hb.symm
      · exact h.nd a b k v w' e1 q2 (key b _ _ hb q3) q4
    · by_cases hb : b = j
      · subst hb
        exact h.nd a b k w v (key a _ _ ha q1) q2 e1 q4
      · exact h.nd a b k w w' (key a _ _ ha q1) q2 (key b _ _ hb q3) q4
  · have := h.low k ((so k).mp o)
    exact ⟨this.1, this.2.1, by rw [List.length_set]; exact this.2.2⟩
end
end Lt

set_option Elab.async false
set_option linter.all false
set_option maxRecDepth 100000
set_option maxHeartbeats 4000000
/-! Pv8: statements: the evaluator answers as the pure one. -/
namespace Lt
open PySem L2
section
variable {n : Nat} {P : Pg} {F : Nat → List D → Mu → R D} {pF : Nat → List PV → T PV} {pI : Nat → Nat → List PV → T PV}
theorem relG_of {W : Nat → Prop} {l0 : Nat} {μ' : Mu} {v : PV} {d : D} (e : isLD v = true) (h : RelF W l0 μ' v d) : RelG W l0 μ' v d := by
  unfold RelG
  rw [if_pos e]
  exact h
theorem relG_no {W : Nat → Prop} {l0 : Nat} {μ' : Mu} {v : PV} {d : D} (e : ¬ isLD v = true) (h : Rp W μ' v d) : RelG W l0 μ' v d := by
  unfold RelG
  rw [if_neg e]
  exact h
theorem pop2_sndG {W : Nat → Prop} {μ : Mu} {l0 : Nat} {op : Operator} {x y z : PV} {d e : D} (hl : l0 ≤ μ.length) (hW : ∀ i, W i → i < μ.length) (h : Rb W μ x d) (h' : Rb W μ y e) (q : pop2 op x y = some z) : Snv n W (RelG W l0) μ (.ret z) (opD op d e μ) := by
  by_cases hz : isLD z = true
  · unfold pop2 at q
    split at q
    case h_8 =>
      split at q
      · rename_i hc
        obtain ⟨i, ds, rfl, h3, hi, hr⟩ := h
        obtain ⟨i', es, rfl, h3', hi', hr'⟩ := h'
        cases q
        rw [hr.len, hr'.len] at hc
        simp only [opD, wl?, hi, hi', if_pos hc]
        exact snd_new fun h3 => relG_of rfl ⟨μ, _, rfl, rfl, h3, hl, Kp.app _, .inl ⟨_, _, rfl, rfl, hr.app hr'⟩⟩
      · cases q
    case h_9 =>
      split at q
      · rename_i hc
        obtain ⟨i, ds, rfl, h3, hi, hr⟩ := h
        obtain rfl : e = _ := h'
        cases q
        rw [hr.len] at hc
        simp only [opD, wl?, hi, if_pos hc]
        exact snd_new fun h3 => relG_of rfl ⟨μ, _, rfl, rfl, h3, hl, Kp.app _, .inl ⟨_, _, rfl, rfl, hr.rep _⟩⟩
      · cases q
    all_goals first | (cases q; done) | (cases q; cases hz; done) | (split at q <;> first | (cases q; done) | (cases q; cases hz; done))
  · have z2 := pop2_snd (n := n) hW h h' q
    intro b Q E hd ha
    refine (z2 b (fun b' v => Q b' v ∧ v = z) E hd ⟨ha, rfl⟩).imp (fun d μ' => ?_) fun _ _ _ h => h
    rintro ⟨b', v, ⟨q1, rfl⟩, q2, q3, q4⟩
    exact ⟨b', v, q1, relG_no hz q2, q3, q4⟩
/-- an expression that makes a new list or dict -/
theorem sndF (hF : FOk n F pF pI) : ∀ (e : LE), isFresh e = true → ∀ W μ ρv ρ, Bd W μ → Re W μ ρv ρ → Nl ρv (leakE e) → Snv n W (RelG W μ.length) μ (pvE P pF pI e ρv) (evE P F e ρ μ)
  | .bin .Add a b, _ => fun W μ ρv ρ hW hR hN => by
    simp only [pvE, evE]
    refine snd_bind (toBv (sndE hF a) W μ ρv ρ hW hR hN.l) fun x d μ1 h1 k1 l1 => ?_
    refine snd_bind (toBv (sndE hF b) W μ1 ρv ρ (hW.kp k1) (hR.kp l1 k1) hN.r) fun y e μ2 h2 k2 l2 => ?_
    exact snd_of fun z q => pop2_sndG (k1.trans k2).1 ((hW.kp k1).kp k2) (h1.kp l2 k2) h2 q
  | .bin .Mult a b, _ => fun W μ ρv ρ hW hR hN => by
    simp only [pvE, evE]
    refine snd_bind (toBv (sndE hF a) W μ ρv ρ hW hR hN.l) fun x d μ1 h1 k1 l1 => ?_
    refine snd_bind (toBv (sndE hF b) W μ1 ρv ρ (hW.kp k1) (hR.kp l1 k1) hN.r) fun y e μ2 h2 k2 l2 => ?_
    exact snd_of fun z q => pop2_sndG (k1.trans k2).1 ((hW.kp k1).kp k2) (h1.kp l2 k2) h2 q
  | .lst as, _ => fun W μ ρv ρ hW hR hN => by
    simp only [pvE, evE]
    refine snd_bind ((sndA hF as).1 W μ ρv ρ hW hR hN) fun x d μ1 h1 k1 l1 => ?_
    rw [← h1.len]
    exact snd_if fun hc => snd_new fun h3 => relG_of rfl ⟨μ1, _, rfl, rfl, h3, k1.1, Kp.app _, .inl ⟨_, _, rfl, rfl, h1⟩⟩
  | .dct as, _ => fun W μ ρv ρ hW hR hN => by
    simp only [pvE, evE]
    refine snd_bind ((sndA hF as).1 W μ ρv ρ hW hR hN) fun x d μ1 h1 k1 l1 => ?_
    split
    · rename_i kvs q
      obtain ⟨kds, e1, e2⟩ := pmkKv_snd h1 q
      simp only [e1, ← e2.len]
      exact snd_if fun hc => snd_new fun h3 => relG_of rfl ⟨μ1, _, rfl, rfl, h3, k1.1, Kp.app _, .inr ⟨_, _, rfl, rfl, fold_put e2 rfl⟩⟩
    · exact snd_bad
  | .bi .list as, _ => fun W μ ρv ρ hW hR hN => by
    simp only [pvE, evE]
    refine snd_bind ((sndA hF as).2.1 W μ ρv ρ hW hR hN) fun x d μ1 h1 k1 l1 => ?_
    refine snd_of fun z q => ?_
    unfold pbi at q
    split at q <;> first | (rename_i hb _; cases hb; done) | skip
    all_goals first | (exfalso; simp_all; done) | skip
    · obtain ⟨d', rfl, hb⟩ := h1.i1
      obtain ⟨es, rfl, hr⟩ := hb
      cases q
      exact snd_new fun h3 => relG_of rfl ⟨μ1, _, rfl, rfl, h3, k1.1, Kp.app _, .inl ⟨_, _, rfl, rfl, hr⟩⟩
    · obtain ⟨d', rfl, hb⟩ := h1.i1
      obtain ⟨i, es, rfl, h3, hi, hr⟩ := hb
      cases q
      simp only [biD, lst?, hi]
      exact snd_new fun h3 => relG_of rfl ⟨μ1, _, rfl, rfl, h3, k1.1, Kp.app _, .inl ⟨_, _, rfl, rfl, hr⟩⟩
  | .comp own tg it c e, _ => fun W μ ρv ρ hW hR hN => by
    simp only [pvE, evE]
    intro b Q E hd ha
    have z := sndI hF it W μ ρv ρ hW hR hN.l.l b _ _ hd (all_bind.mp ha)
    generalize evI P F it ρ μ = r0 at z
    cases r0 with
    | no => exact z.elim
    | exc c fs m => exact z
    | ok src μ1 =>
      obtain ⟨b1, vs, q1, ⟨xs, s1, s2, s3⟩, k1, d1⟩ := z
      simp only [s1]
      have q2 := all_calm (all_bind.mp q1)
      obtain ⟨ys, μ2, e2, b2, ws, q3, r2, k2, d2⟩ := comp_snd (n := n) (W := W) (src := src) (xs := xs) (μ0 := μ1) (step := fun d μ => match bindG tg d (wipeF ρ own) with
          | some ρ' => (evC P F c ρ' μ).bind fun b μ => if b then (evE P F e ρ' μ).bind fun x μ => .ok (some x) μ else .ok none μ
          | none => .no) s3 (fun v d μ3 k3 h3 hv => by
          split
          · rename_i ρ' hb
            have hR3 := ((hR.kp hd.l3 k1).kp d1.l3 k3).wipe own
            obtain ⟨ρ2, hb2, hR4⟩ := hR3.bindG hv hb
            have hN4 : Nl ρ' (leakA c) := (hN.l.r.wipe own).bindG hb
            have hN5 : Nl ρ' (leakE e) := (hN.r.wipe own).bindG hb
            simp only [hb2]
            refine snd_bind ((sndA hF c).2.2 W μ3 ρ' ρ2 ((hW.kp k1).kp k3) hR4 hN4) fun x x' μ4 h4 k4 l4 => ?_
            subst h4
            cases x with
            | true =>
              simp only [if_true]
              refine snd_bind (sndE hF e W μ4 ρ' ρ2 (((hW.kp k1).kp k3).kp k4) (hR4.kp l4 k4) hN5) fun y d' μ5 h5 k5 l5 => ?_
              exact snd_ret (.inr ⟨_, _, rfl, rfl, h5⟩)
            | false =>
              simp only [Bool.false_eq_true, if_false]
              exact snd_ret (.inl ⟨rfl, rfl⟩)
          · exact snd_bad) vs 0 [] [] μ1 d1.l3 Kp.refl (by simpa using s2) rfl b1 _ d1 q2
      have key : ∀ r : R (List D), r = .ok ys μ2 → R.OkX (match r with
          | .ok ys μ' => new μ' (.lst ys)
          | _ => .no) (PostG n (RelG W μ.length) μ Q) (PostE n W μ E) := by
        rintro _ rfl
        exact ⟨b2, _, q3, relG_of rfl ⟨μ2, _, rfl, rfl, d2.l3, (k1.trans k2).1, Kp.app _, .inl ⟨_, _, rfl, rfl, r2⟩⟩, (k1.trans k2).trans (Kp.app _), d2.app _⟩
      exact key _ e2
end

/-- a statement's ends -/
def PoS (n : Nat) (A : Nat → Prop) (n0 : Nat) (ρv : PFr) (ρ : Fr) (μ : Mu) (Q : Nat → PS → Prop) (E : EX) : RS → Prop
  | .nx ρ' μ' => ∃ b' ρv', Q b' (.nx ρv') ∧ Sf A n0 ρv' ρ' μ' ∧ St ρv ρ μ ρv' ρ' μ' ∧ Dr n b' μ'
  | .ct ρ' μ' => ∃ b' ρv', Q b' (.ct ρv') ∧ Sf A n0 ρv' ρ' μ' ∧ St ρv ρ μ ρv' ρ' μ' ∧ Dr n b' μ'
  | .brk ρ' μ' => ∃ b' ρv', Q b' (.brk ρv') ∧ Sf A n0 ρv' ρ' μ' ∧ St ρv ρ μ ρv' ρ' μ' ∧ Dr n b' μ'
  | .ret d _ μ' => ∃ b' v, Q b' (.ret v) ∧ Rp A μ' v d ∧ Kp (Own ρv ρ) μ μ' ∧ Dr n b' μ'
  | .exc c gs _ μ' => ∃ b' fs, E b' c fs ∧ Rpf A μ' fs gs ∧ Kp (Own ρv ρ) μ μ' ∧ Dr n b' μ'
  | .no => False
def SndS (n : Nat) (A : Nat → Prop) (n0 : Nat) (ρv : PFr) (ρ : Fr) (μ : Mu) (t : T PS) (r : RS) : Prop := ∀ b Q E, Dr n b μ → t.All b Q E → PoS n A n0 ρv ρ μ Q E r
section
variable {n : Nat} {A : Nat → Prop} {n0 : Nat} {ρv ρv1 : PFr} {ρ ρ1 : Fr} {μ μ1 : Mu} {t : T PS} {r : RS}
theorem sndS_bad : SndS n A n0 ρv ρ μ .bad r := fun b Q E hd ha => False.elim ha
/-- from a later frame -/
theorem SndS.from (h : SndS n A n0 ρv1 ρ1 μ1 t r) (s : St ρv ρ μ ρv1 ρ1 μ1) {b : Nat} {Q : Nat → PS → Prop} {E : EX} (hd : Dr n b μ1) (ha : t.All b Q E) : PoS n A n0 ρv ρ μ Q E r := by
  have z := h b Q E hd ha
  cases r with
  | nx ρ' μ' => obtain ⟨b', w, q, q1, q2, q3⟩ := z; exact ⟨b', w, q, q1, s.trans q2, q3⟩
  | ct ρ' μ' => obtain ⟨b', w, q, q1, q2, q3⟩ := z; exact ⟨b', w, q, q1, s.trans q2, q3⟩
  | brk ρ' μ' => obtain ⟨b', w, q, q1, q2, q3⟩ := z; exact ⟨b', w, q, q1, s.trans q2, q3⟩
  | ret d _ μ' => obtain ⟨b', w, q, q1, q2, q3⟩ := z; exact ⟨b', w, q, q1, s.kpT q2, q3⟩
  | exc c gs _ μ' => obtain ⟨b', w, q, q1, q2, q3⟩ := z; exact ⟨b', w, q, q1, s.kpT q2, q3⟩
  | no => exact z
theorem SndS.from0 (h : SndS n A n0 ρv1 ρ μ t r) (s : St ρv ρ μ ρv1 ρ μ) : SndS n A n0 ρv ρ μ t r := fun b Q E hd ha => h.from s hd ha
theorem sndS_nx (h : Sf A n0 ρv1 ρ1 μ1) (s : St ρv ρ μ ρv1 ρ1 μ1) (hd : ∀ b, Dr n b μ → Dr n b μ1) : SndS n A n0 ρv ρ μ (.ret (.nx ρv1)) (.nx ρ1 μ1) := fun b Q E d ha => ⟨b, ρv1, ha, h, s, hd b d⟩
theorem sndS_thn {f : PFr → T PS} {g : Fr → Mu → RS} (h : SndS n A n0 ρv ρ μ t r) (hf : ∀ ρv1 ρ1 μ1, Sf A n0 ρv1 ρ1 μ1 → SndS n A n0 ρv1 ρ1 μ1 (f ρv1) (g ρ1 μ1)) : SndS n A n0 ρv ρ μ (t.thn f) (r.thn g) := by
  intro b Q E hd ha
  have z := h b _ E hd (all_bind.mp ha)
  cases r with
  | nx ρ' μ' =>
    obtain ⟨b', w, q, q1, q2, q3⟩ := z
    exact (hf w ρ' μ' q1).from q2 q3 q
  | ct ρ' μ' => exact z
  | brk ρ' μ' => exact z
  | ret d _ μ' => exact z
  | exc c gs _ μ' => exact z
  | no => exact z
theorem Rpf.sub {W W' : Nat → Prop} {μ : Mu} (h3 : 3 ≤ μ.length) (s : ∀ i, W' i → W i) {v : List (Str × PV)} {d : List (Str × D)} (h : Rpf W μ v d) : Rpf W' μ v d := Rpf.mv ⟨h3, fun _ _ _ _ => rfl, fun i h => .inl (s i h)⟩ v d h
/-- an expression, then the rest -/
theorem sndS_toS {α β : Type} {Rel : Mu → α → β → Prop} {t : T α} {r : R β} {f : α → T PS} {g : β → Mu → RS} (hs : Sf A n0 ρv ρ μ) (h : Snv n (WW A ρv ρ) Rel μ t r)
    (hf : ∀ v d μ1, Rel μ1 v d → Kp no0 μ μ1 → 3 ≤ μ.length → Sf A n0 ρv ρ μ1 → SndS n A n0 ρv ρ μ1 (f v) (g d μ1)) : SndS n A n0 ρv ρ μ (t.bind f) (r.toS ρ g) := by
  intro b Q E hd ha
  have z := h b _ E hd (all_bind.mp ha)
  cases r with
  | ok d μ1 =>
    obtain ⟨b1, v, q, q1, q2, q3⟩ := z
    exact (hf v d μ1 q1 q2 hd.l3 (hs.kp hd.l3 q2)).from (St.of q2) q3 q
  | exc c gs μ1 =>
    obtain ⟨b1, fs, q, q1, q2, q3⟩ := z
    exact ⟨b1, fs, q, q1.sub q3.l3 fun i h => .inl h, q2.to, q3⟩
  | no => exact z
/-- .. where the value's newness hangs on the store ahead -/
theorem sndS_toS' {α β : Type} {Rel : Mu → α → β → Prop} {t : T α} {r : R β} {f : α → T PS} {g : β → Mu → RS} (hs : Sf A n0 ρv ρ μ) (h : Snv n (WW A ρv ρ) Rel μ t r)
    (hf : ∀ v d μ1 b Q E, Rel μ1 v d → Kp no0 μ μ1 → 3 ≤ μ.length → Dr n b μ1 → (f v).All b Q E → PoS n A n0 ρv ρ μ Q E (g d μ1)) : SndS n A n0 ρv ρ μ (t.bind f) (r.toS ρ g) := by
  intro b Q E hd ha
  have z := h b _ E hd (all_bind.mp ha)
  cases r with
  | ok d μ1 =>
    obtain ⟨b1, v, q, q1, q2, q3⟩ := z
    exact hf v d μ1 b1 _ _ q1 q2 hd.l3 q3 q
  | exc c gs μ1 =>
    obtain ⟨b1, fs, q, q1, q2, q3⟩ := z
    exact ⟨b1, fs, q, q1.sub q3.l3 fun i h => .inl h, q2.to, q3⟩
  | no => exact z
end
end Lt

set_option Elab.async false
set_option linter.all false
set_option maxRecDepth 100000
set_option maxHeartbeats 4000000
/-! Pv9: statements, by induction. -/
namespace Lt
open PySem L2
section
variable {n : Nat} {P : Pg} {F : Nat → List D → Mu → R D} {pF : Nat → List PV → T PV} {pI : Nat → Nat → List PV → T PV}
theorem own_ref {A : Nat → Prop} {n0 : Nat} {ρv : PFr} {ρ : Fr} {μ : Mu} (h : Sf A n0 ρv ρ μ) {j : Nat} {v : PV} (e : ρv[j]? = some (some (true, v))) : ∃ i, ρ[j]? = some (some (.ref i)) ∧ 3 ≤ i ∧ i < μ.length ∧ Rb (WW A ρv ρ) μ v (.ref i) := by
  obtain ⟨i, h1, h2, h3⟩ := h.re.own j v e
  have := h.low i ⟨j, v, e, h1⟩
  exact ⟨i, h1, this.2.1, this.2.2, h3⟩
theorem asg_snd (hF : FOk n F pF pI) {A : Nat → Prop} {n0 : Nat} {ρv : PFr} {ρ : Fr} {μ : Mu} (t : LT) (e : LE) (h : Sf A n0 ρv ρ μ) (hN : Nl ρv (leakE e)) :
    SndS n A n0 ρv ρ μ ((pvE P pF pI e ρv).bind fun d => pasgT P pF pI t (isFresh e && isLD d) d ρv) ((evE P F e ρ μ).toS ρ fun d μ => asgT P F t d ρ μ) := by
  have hE := sndE (P := P) hF e _ μ ρv ρ h.bd h.re hN
  cases t with
  | nm j =>
    cases hf : isFresh e with
    | true =>
      refine sndS_toS' h (sndF (P := P) hF e hf _ μ ρv ρ h.bd h.re hN) fun v d μ1 b Q E hv k h3 hd ha => ?_
      unfold RelG at hv
      cases hl : isLD v with
      | true =>
        rw [hl] at ha
        rw [if_pos hl] at hv
        obtain ⟨s1, s2⟩ := h.setF h3 (j := j) k hv
        exact ⟨b, _, ha, s1, s2, hd⟩
      | false =>
        rw [hl] at ha
        rw [if_neg (by rw [hl]; decide)] at hv
        obtain ⟨s1, s2⟩ := (h.kp h3 k).set hd.l3 (j := j) hv
        exact ⟨b, _, ha, s1, (St.of k).trans s2, hd⟩
    | false =>
      refine sndS_toS h hE fun v d μ1 hv k h3 hs b Q E hd ha => ?_
      obtain ⟨s1, s2⟩ := hs.set hd.l3 (j := j) hv
      exact ⟨b, _, ha, s1, s2, hd⟩
  | tp is =>
    refine sndS_toS h hE fun v d μ1 hv k h3 hs b Q E hd ha => ?_
    simp only [pasgT] at ha
    cases v <;> first | exact ha.elim | skip
    obtain ⟨ds, rfl, hr⟩ := hv.1
    simp only at ha
    split at ha
    · rename_i ρ' q
      obtain ⟨ρ2, e1, s1, s2⟩ := hs.sets hd.l3 hr q
      simp only [asgT, e1]
      exact ⟨b, _, ha, s1, s2, hd⟩
    · exact ha.elim
  | sub o k =>
    cases o <;> first | (refine sndS_toS h hE fun v d μ1 hv k h3 hs => ?_; exact sndS_bad) | skip
    rename_i j
    refine sndS_toS h hE fun v d μ1 hv k1 h3 hs => ?_
    simp only [pasgT]
    split
    · rename_i o ho
      obtain ⟨i, r1, r2, r3, r4⟩ := own_ref hs ho
      simp only [asgT, evE, r1]
      have l3 : 3 ≤ μ1.length := Nat.le_trans h3 k1.1
      have hs1 : Sf A n0 (prel k ρv) ρ μ1 := hs.rel l3 _
      have hK := toBv (sndE (P := P) hF k) (WW A (prel k ρv) ρ) μ1 (prel k ρv) ρ hs1.bd hs1.re (fun j hj => nl_rel (leakE k) j (by
        rcases leakB_of k with ⟨i, rfl⟩ | z
        · simp [leakB] at hj
        · rw [z] at hj; exact hj))
      refine SndS.from0 ?_ (St.rel (leakE k))
      intro b Q E hd ha
      have z := hK b _ E hd (all_bind.mp ha)
      generalize evE P F k ρ μ1 = r0 at z
      cases r0 with
      | no => exact z.elim
      | exc c fs m =>
        obtain ⟨b1, fs', q, q1, q2, q3⟩ := z
        exact ⟨b1, fs', q, q1.sub q3.l3 fun i h => .inl h, q2.to, q3⟩
      | ok y μ2 =>
        obtain ⟨b1, y', q, q1, q2, q3⟩ := z
        have hs2 := hs1.kp hd.l3 q2
        have hv2 : Rp (WW A (prel k ρv) ρ) μ2 v d := (hv.kp l3 q2).sub q3.l3 fun i hw => hw.imp id (own_rel (leakE k))
        simp only at q ⊢
        split at q
        · skip
          rename_i xs iy e1
          obtain ⟨i', g1, g2, g3, g4⟩ := own_ref hs2 e1
          rw [r1] at g1
          cases g1
          obtain ⟨_, ds, e2, _, e3, e4⟩ := r4
          cases e2
          have e5 : μ2[i]? = some (.lst ds) := by rw [q2.2 i r2 r3 id, e3]
          obtain rfl : y = _ := q1
          have e4' : Rps (WW A (prel k ρv) ρ) μ2 xs ds := Rps.mv ⟨l3, fun a b c _ => q2.2 a b c id, fun i hw => .inl (hw.imp id (own_rel (leakE k)))⟩ _ _ e4
          split at q
          · rename_i m hm
            simp only [e5, ← e4'.len, hm]
            obtain ⟨s1, s2⟩ := hs2.mut q3.l3 (v' := .lst (xs.set m v)) (o' := .lst (ds.set m d)) e1 r1 (fun _ _ q => by cases q) fun mv => ⟨i, _, rfl, r2, List.getElem?_set_self g3, Rps.mv mv _ _ (e4'.set hv2)⟩
            exact ⟨b1, _, q, s1, (St.of q2).trans s2, q3.set r2 _⟩
          · exact q.elim
        · rename_i kvs e1
          obtain ⟨i', g1, g2, g3, g4⟩ := own_ref hs2 e1
          rw [r1] at g1
          cases g1
          obtain ⟨_, ds, e2, _, e3, e4⟩ := r4
          cases e2
          have e5 : μ2[i]? = some (.dct ds) := by rw [q2.2 i r2 r3 id, e3]
          have e4' : Rpk (WW A (prel k ρv) ρ) μ2 kvs ds := Rpk.mv ⟨l3, fun a b c _ => q2.2 a b c id, fun i hw => .inl (hw.imp id (own_rel (leakE k)))⟩ _ _ e4
          split at q
          · rename_i k' hk
            split at q
            · rename_i hlen
              simp only [e5, pkey_key q1 hk, ← e4'.len, if_pos hlen]
              obtain ⟨s1, s2⟩ := hs2.mut q3.l3 (v' := .dct (pput kvs k' v)) (o' := .dct (putD ds k' d)) e1 r1 (fun _ _ q => by cases q) fun mv => ⟨i, _, rfl, r2, List.getElem?_set_self g3, Rpk.mv mv _ _ (e4'.put hv2)⟩
              exact ⟨b1, _, q, s1, (St.of q2).trans s2, q3.set r2 _⟩
            · exact q.elim
          · exact q.elim
        · exact q.elim
    · exact sndS_bad
  | «at» o f =>
    cases o <;> first | (refine sndS_toS h hE fun v d μ1 hv k h3 hs => ?_; exact sndS_bad) | skip
    rename_i j
    refine sndS_toS h hE fun v d μ1 hv k1 h3 hs => ?_
    simp only [pasgT]
    split
    · rename_i c fs ho
      obtain ⟨i, r1, r2, r3, r4⟩ := own_ref hs ho
      obtain ⟨_, gs, e2, _, e3, e4⟩ := r4
      cases e2
      simp only [asgT, evE, r1, e3]
      split
      · rename_i k hk
        simp only [hk, ← e4.len]
        split
        · rename_i hc
          intro b Q E hd ha
          obtain ⟨s1, s2⟩ := hs.mut hd.l3 (v' := .ins c (pputF fs f v)) (o' := .ins c (putFD gs f d)) ho r1 (fun _ _ _ => ⟨_, _, rfl⟩) fun mv => ⟨i, _, rfl, r2, List.getElem?_set_self r3, Rpf.mv mv _ _ (Rpf.put hv e4)⟩
          exact ⟨b, _, ha, s1, s2, hd.set r2 _⟩
        · exact sndS_bad
      · exact sndS_bad
    · exact sndS_bad

/-- what a for walks: nobody changes it meanwhile -/
def SrS (W : Nat → Prop) (μ : Mu) (vs : List PV) (src : Src) : Prop := ∃ ds, src.all μ = some ds ∧ Rps W μ vs ds ∧ ((∀ μ', src.all μ' = some ds) ∨ ∃ i, 3 ≤ i ∧ i < μ.length ∧ ¬ W i ∧ ∀ μ', μ'[i]? = μ[i]? → src.all μ' = some ds)
theorem sndIS (hF : FOk n F pF pI) (it : LI) : ∀ W μ ρv ρ, Bd W μ → Re W μ ρv ρ → Nl ρv (leakS it) → Snv n W (SrS W) μ (pvI P pF pI it ρv) (evI P F it ρ μ) := by
  intro W μ ρv ρ hW hR hN
  cases it with
  | exp e =>
    simp only [pvI, evI]
    refine snd_bind (sndE hF e W μ ρv ρ hW hR hN) fun x d μ1 h1 k1 l1 => ?_
    cases x <;> first | exact snd_bad | skip
    · obtain ⟨ds, rfl, hr⟩ := h1.1
      exact snd_ret ⟨ds, rfl, hr, .inl fun _ => rfl⟩
    · obtain ⟨⟨i, ds, rfl, h3, hi, hr⟩, hf⟩ := h1
      have e1 : lst? μ1 (.ref i) = some ds := by simp only [lst?, hi]
      simp only [e1]
      refine snd_ret ⟨ds, by simp only [Src.all, lst?, hi], hr, .inr ⟨i, h3, lt_of_some hi, hf i rfl, fun μ' k => ?_⟩⟩
      simp only [Src.all, lst?, k, hi]
  | rng e =>
    simp only [pvI, evI]
    refine snd_bind (toBv (sndE hF e) W μ ρv ρ hW hR hN) fun x d μ1 h1 k1 l1 => ?_
    cases x <;> first | exact snd_bad | skip
    obtain rfl : d = _ := h1
    exact snd_if fun hc => snd_ret ⟨_, rfl, rps_mapI _, .inl fun _ => rfl⟩
  | enum e =>
    simp only [pvI, evI]
    refine snd_bind (sndE hF e W μ ρv ρ hW hR hN) fun x d μ1 h1 k1 l1 => ?_
    cases x <;> first | exact snd_bad | skip
    obtain ⟨⟨i, ds, rfl, h3, hi, hr⟩, hf⟩ := h1
    have e1 : lst? μ1 (.ref i) = some ds := by simp only [lst?, hi]
    simp only [e1]
    refine snd_ret ⟨_, by simp only [Src.all, lst?, hi]; rfl, rps_enum 0 hr, .inr ⟨i, h3, lt_of_some hi, hf i rfl, fun μ' k => ?_⟩⟩
    simp only [Src.all, lst?, k, hi]
    rfl
/-- the turns of a for -/
theorem for_snd {A : Nat → Prop} {n0 : Nat} {src : Src} {xs : List D} {body : D → Fr → Mu → RS} {pbody : PV → PFr → T PS} {ρv0 : PFr} {ρ0 : Fr} {μ0 : Mu} (l0 : 3 ≤ μ0.length)
    (hs : ∀ ρv ρ μ, St ρv0 ρ0 μ0 ρv ρ μ → src.all μ = some xs)
    (hb : ∀ v d ρv ρ μ, Sf A n0 ρv ρ μ → 3 ≤ μ.length → Rp (WW A ρv ρ) μ v d → SndS n A n0 ρv ρ μ (pbody v ρv) (body d ρ μ)) :
    ∀ (vs : List PV) (k : Nat) (ρv : PFr) (ρ : Fr) (μ : Mu), Sf A n0 ρv ρ μ → St ρv0 ρ0 μ0 ρv ρ μ → Rps (WW A ρv ρ) μ vs (xs.drop k) → SndS n A n0 ρv ρ μ (pforN pbody vs ρv) (forN src body (xs.length - k) k ρ μ)
  | [], k, ρv, ρ, μ, h, st, hr => by
    intro b Q E hd ha
    have e := hr.nil
    have hl : xs.length ≤ k := by
      rw [List.drop_eq_nil_iff] at e
      exact e
    have e2 : xs.length - k = 0 := by omega
    rw [e2]
    have e3 : xs[k]? = none := List.getElem?_eq_none hl
    simp only [forN, Src.next, hs _ _ _ st, Option.map_some, e3]
    exact ⟨b, _, ha, h, St.refl, hd⟩
  | v :: vs, k, ρv, ρ, μ, h, st, hr => by
    intro b Q E hd ha
    obtain ⟨d, r, e, h1, h2⟩ := hr.uncons
    have hl : k < xs.length := by
      rcases Nat.lt_or_ge k xs.length with z | z
      · exact z
      · rw [List.drop_eq_nil_of_le z] at e
        cases e
    rw [List.drop_eq_getElem_cons hl] at e
    obtain ⟨e4, e5⟩ := List.cons.inj e
    have e2 : xs.length - k = (xs.length - (k + 1)) + 1 := by omega
    have e3 : xs[k]? = some d := by rw [List.getElem?_eq_getElem hl, e4]
    rw [e2]
    unfold pforN at ha
    have z := hb v d ρv ρ μ h hd.l3 h1 b _ E hd (all_bind.mp ha)
    simp only [forN, Src.next, hs _ _ _ st, Option.map_some, e3]
    have rc : ∀ ρv1 ρ1 μ1 b1, Sf A n0 ρv1 ρ1 μ1 → St ρv ρ μ ρv1 ρ1 μ1 → Dr n b1 μ1 → (pforN pbody vs ρv1).All b1 Q E → PoS n A n0 ρv ρ μ Q E (forN src body (xs.length - (k + 1)) (k + 1) ρ1 μ1) := fun ρv1 ρ1 μ1 b1 s1 s2 d1 a1 =>
      (for_snd l0 hs hb vs (k + 1) ρv1 ρ1 μ1 s1 (st.trans s2) (Rps.mv (s2.mv hd.l3) _ _ (by rw [e5]; exact h2))).from s2 d1 a1
    generalize body d ρ μ = r0 at z
    cases r0 with
    | nx ρ1 μ1 => obtain ⟨b1, ρv1, q, s1, s2, s3⟩ := z; exact rc ρv1 ρ1 μ1 b1 s1 s2 s3 q
    | ct ρ1 μ1 => obtain ⟨b1, ρv1, q, s1, s2, s3⟩ := z; exact rc ρv1 ρ1 μ1 b1 s1 s2 s3 q
    | brk ρ1 μ1 => obtain ⟨b1, ρv1, q, s1, s2, s3⟩ := z; exact ⟨b1, ρv1, q, s1, s2, s3⟩
    | ret d _ μ1 => obtain ⟨b1, ρv1, q, s1, s2, s3⟩ := z; exact ⟨b1, ρv1, q, s1, s2, s3⟩
    | exc c gs _ μ1 => exact z
    | no => exact z
/-- the turns of a while -/
theorem while_snd {A : Nat → Prop} {n0 : Nat} {test : Fr → Mu → R D} {body : Fr → Mu → RS} {js : List Nat} {ptest : PFr → T PV} {pbody : PFr → T PS}
    (ht : ∀ ρv ρ μ, Sf A n0 ρv ρ μ → Nl ρv js → Snv n (WW A ρv ρ) (Rp (WW A ρv ρ)) μ (ptest ρv) (test ρ μ))
    (hb : ∀ ρv ρ μ, Sf A n0 ρv ρ μ → SndS n A n0 ρv ρ μ (pbody ρv) (body ρ μ)) :
    ∀ (k : Nat) (ρv : PFr) (ρ : Fr) (μ : Mu), Sf A n0 ρv ρ μ → SndS n A n0 ρv ρ μ (pwhileN (fun ρ => rel ρ js) ptest pbody k ρv) (whileN test body k ρ μ)
  | 0, ρv, ρ, μ, h => sndS_bad
  | k + 1, ρv, ρ, μ, h => by
    intro b Q E hd ha
    unfold pwhileN at ha
    have h' := h.rel hd.l3 js
    have z := ht _ ρ μ h' (nl_rel js) b _ E hd (all_bind.mp ha)
    simp only [whileN]
    have st0 : St ρv ρ μ (rel ρv js) ρ μ := St.rel js
    generalize test ρ μ = r0 at z
    cases r0 with
    | no => exact z.elim
    | exc c gs μ1 =>
      obtain ⟨b1, fs, q, q1, q2, q3⟩ := z
      exact ⟨b1, fs, q, q1.sub q3.l3 fun i h => .inl h, q2.to, q3⟩
    | ok d μ1 =>
      obtain ⟨b1, v, q, q1, q2, q3⟩ := z
      have h1 := h'.kp hd.l3 q2
      have st1 : St ρv ρ μ (rel ρv js) ρ μ1 := st0.trans (St.of q2)
      cases v <;> first | exact q.elim | skip
      rename_i c
      obtain rfl : d = _ := q1.1
      cases c with
      | false => exact ⟨b1, _, q, h1, st1, q3⟩
      | true =>
        simp only at q ⊢
        have z2 := hb _ ρ μ1 h1 b1 _ E q3 (all_bind.mp q)
        have rc : ∀ ρv2 ρ2 μ2 b2, Sf A n0 ρv2 ρ2 μ2 → St (rel ρv js) ρ μ1 ρv2 ρ2 μ2 → Dr n b2 μ2 → (pwhileN (fun ρ => rel ρ js) ptest pbody k ρv2).All b2 Q E → PoS n A n0 ρv ρ μ Q E (whileN test body k ρ2 μ2) := fun ρv2 ρ2 μ2 b2 s1 s2 d2 a2 =>
          (while_snd ht hb k ρv2 ρ2 μ2 s1).from (st1.trans s2) d2 a2
        generalize body ρ μ1 = r1 at z2
        cases r1 with
        | nx ρ2 μ2 => obtain ⟨b2, ρv2, q, s1, s2, s3⟩ := z2; exact rc ρv2 ρ2 μ2 b2 s1 s2 s3 q
        | ct ρ2 μ2 => obtain ⟨b2, ρv2, q, s1, s2, s3⟩ := z2; exact rc ρv2 ρ2 μ2 b2 s1 s2 s3 q
        | brk ρ2 μ2 => obtain ⟨b2, ρv2, q, s1, s2, s3⟩ := z2; exact ⟨b2, ρv2, q, s1, st1.trans s2, s3⟩
        | ret d _ μ2 => obtain ⟨b2, ρv2, q, s1, s2, s3⟩ := z2; exact ⟨b2, ρv2, q, s1, st1.kpT s2, s3⟩
        | exc c gs _ μ2 => obtain ⟨b2, ρv2, q, s1, s2, s3⟩ := z2; exact ⟨b2, ρv2, q, s1, st1.kpT s2, s3⟩
        | no => exact z2
end
end Lt

set_option Elab.async false
set_option linter.all false
set_option maxRecDepth 100000
set_option maxHeartbeats 4000000
/-! Pv10: blocks; what is called. -/
namespace Lt
open PySem L2
section
variable {n : Nat} {P : Pg} {F : Nat → List D → Mu → R D} {pF : Nat → List PV → T PV} {pI : Nat → Nat → List PV → T PV}
theorem app_shape {ρv : PFr} {e : LE} {j : Nat} {a : LE} (h : appOf ρv e = some (j, .inl a)) : e = .meth (.var j) "append" (.cons a .nil) := by
  unfold appOf at h
  split at h
  · split at h
    · rename_i hc
      split at h
      · cases h
      · cases h
        rw [hc.1]
    · cases h
  · split at h
    · rename_i hc
      cases h
      rw [hc.1]
    · cases h
  · cases h
theorem app_shape2 {ρv : PFr} {e : LE} {j j' : Nat} {a : LE} (h : appOf ρv e = some (j, .inr (j', a))) : e = .meth (.var j) "append" (.cons (.meth (.var j') "pop" (.cons a .nil)) .nil) ∧ j ≠ j' := by
  unfold appOf at h
  split at h
  · split at h
    · rename_i hc
      split at h
      · rename_i hd
        cases h
        rw [hc.1, hd.1]
        exact ⟨rfl, hd.2.2⟩
      · cases h
    · cases h
  · split at h
    · cases h
    · cases h
  · cases h
theorem sndS_ret {A : Nat → Prop} {n0 : Nat} {ρv : PFr} {ρ ρ1 : Fr} {μ : Mu} {v : PV} {d : D} (h : Rp A μ v d) : SndS n A n0 ρv ρ μ (.ret (.ret v)) (.ret d ρ1 μ) := fun b Q E hd ha => ⟨b, v, ha, h, Kp.refl, hd⟩
theorem append_snd (hF : FOk n F pF pI) {A : Nat → Prop} {n0 : Nat} {ρv : PFr} {ρ : Fr} {μ : Mu} {j : Nat} {a : LE} {xs : List PV} (h : Sf A n0 ρv ρ μ) (hN : Nl ρv (leakE a)) (ho : ρv[j]? = some (some (true, .lst xs))) :
    SndS n A n0 ρv ρ μ ((pvE P pF pI a ρv).bind fun v => if xs.length < sizeLine then .ret (.nx (ρv.set j (some (true, .lst (xs ++ [v]))))) else .bad) ((evE P F (.meth (.var j) "append" (.cons a .nil)) ρ μ).toS ρ fun _ μ => .nx ρ μ) := by
  intro b Q E hd ha
  have z := sndE (P := P) hF a _ μ ρv ρ h.bd h.re hN b _ E hd (all_bind.mp ha)
  obtain ⟨i, r1, r2, r3, r4⟩ := own_ref h ho
  obtain ⟨_, ds, e2, _, e3, e4⟩ := r4
  cases e2
  have m1 : methK P (.ref i) "append" μ = some .lst := by
    simp only [methK, e3]
    rw [if_pos (by decide)]
  simp only [evE, r1, R.bind, m1, evA]
  generalize evE P F a ρ μ = r0 at z
  cases r0 with
  | no => exact z.elim
  | exc c fs m =>
    obtain ⟨b1, fs', q, q1, q2, q3⟩ := z
    exact ⟨b1, fs', q, q1.sub q3.l3 fun i h => .inl h, q2.to, q3⟩
  | ok d μ1 =>
    obtain ⟨b1, v, q, q1, q2, q3⟩ := z
    have h1 := h.kp hd.l3 q2
    have e5 : μ1[i]? = some (.lst ds) := by rw [q2.2 i r2 r3 id, e3]
    have e4' : Rps (WW A ρv ρ) μ1 xs ds := e4.kp hd.l3 q2
    simp only [R.bind, methL, e5, if_true]
    split at q
    · rename_i hlen
      rw [if_pos (by rw [← e4.len]; exact hlen)]
      obtain ⟨s1, s2⟩ := h1.mut q3.l3 (v' := .lst (xs ++ [v])) (o' := .lst (ds ++ [d])) ho r1 (fun _ _ q => by cases q) fun mv => ⟨i, _, rfl, r2, List.getElem?_set_self (Nat.lt_of_lt_of_le r3 q2.1), Rps.mv mv _ _ (e4'.app (Rps.one q1))⟩
      exact ⟨b1, _, q, s1, (St.of q2).trans s2, q3.set r2 _⟩
    · exact q.elim
theorem Rps.drop1 {W : Nat → Prop} {μ : Mu} {vs : List PV} {ds : List D} {i : Nat} {v : PV} (h : Rps W μ vs ds) (e : vs[i]? = some v) : ∃ d, ds[i]? = some d ∧ Rp W μ v d := h.at e
theorem pop_snd (hF : FOk n F pF pI) {A : Nat → Prop} {n0 : Nat} {ρv : PFr} {ρ : Fr} {μ : Mu} {j j' : Nat} {a : LE} {xs ys : List PV} (h : Sf A n0 ρv ρ μ) (hN : Nl ρv (leakE a)) (ho : ρv[j]? = some (some (true, .lst xs))) (ho' : ρv[j']? = some (some (true, .lst ys))) (hj : j ≠ j') :
    SndS n A n0 ρv ρ μ ((pvE P pF pI a ρv).bind fun k => (match k with
        | .int k => if -(2 ^ 63) ≤ k ∧ k < 2 ^ 63 then (match seqIndex? k ys.length with
            | some i => (match ys[i]? with
              | some y => if xs.length < sizeLine then .ret (.nx ((ρv.set j' (some (true, .lst (ys.eraseIdx i)))).set j (some (true, .lst (xs ++ [y]))))) else .bad
              | none => .bad)
            | none => .bad) else .bad
        | _ => .bad)) ((evE P F (.meth (.var j) "append" (.cons (.meth (.var j') "pop" (.cons a .nil)) .nil)) ρ μ).toS ρ fun _ μ => .nx ρ μ) := by
  intro b Q E hd ha
  have z := sndE (P := P) hF a _ μ ρv ρ h.bd h.re hN b _ E hd (all_bind.mp ha)
  obtain ⟨i, r1, r2, r3, r4⟩ := own_ref h ho
  obtain ⟨_, ds, e2, _, e3, e4⟩ := r4
  cases e2
  obtain ⟨i', r1', r2', r3', r4'⟩ := own_ref h ho'
  obtain ⟨_, ds', e2, _, e3', e4'⟩ := r4'
  cases e2
  have hi : i ≠ i' := fun e => hj (h.nd j j' i _ _ ho r1 ho' (by rw [e]; exact r1'))
  have m1 : methK P (.ref i) "append" μ = some .lst := by
    simp only [methK, e3]
    rw [if_pos (by decide)]
  have m2 : methK P (.ref i') "pop" μ = some .lst := by
    simp only [methK, e3']
    rw [if_pos (by decide)]
  simp only [evE, r1, r1', R.bind, m1, m2, evA]
  generalize evE P F a ρ μ = r0 at z
  cases r0 with
  | no => exact z.elim
  | exc c fs m =>
    obtain ⟨b1, fs', q, q1, q2, q3⟩ := z
    exact ⟨b1, fs', q, q1.sub q3.l3 fun i h => .inl h, q2.to, q3⟩
  | ok d μ1 =>
    obtain ⟨b1, v, q, q1, q2, q3⟩ := z
    have h1 := h.kp hd.l3 q2
    have e5 : μ1[i]? = some (.lst ds) := by rw [q2.2 i r2 r3 id, e3]
    have e5' : μ1[i']? = some (.lst ds') := by rw [q2.2 i' r2' r3' id, e3']
    have e6 : Rps (WW A ρv ρ) μ1 xs ds := e4.kp hd.l3 q2
    have e6' : Rps (WW A ρv ρ) μ1 ys ds' := e4'.kp hd.l3 q2
    cases v <;> first | exact q.elim | skip
    rename_i k
    obtain rfl : d = _ := q1.1
    simp only [R.bind, methL, e5, e5', if_true]
    rw [if_neg (by decide)]
    simp only at q
    split at q
    · rename_i hk
      rw [if_pos hk]
      rw [e6'.len] at q
      cases hx : seqIndex? k ds'.length with
      | none => rw [hx] at q; exact q.elim
      | some m =>
        rw [hx] at q
        simp only at q ⊢
        cases hy : ys[m]? with
        | none => rw [hy] at q; exact q.elim
        | some y =>
          rw [hy] at q
          obtain ⟨dy, g1, g2⟩ := e6'.at hy
          simp only [g1]
          simp only at q
          split at q
          · rename_i hlen
            obtain ⟨s1, s2⟩ := h1.mut q3.l3 (v' := .lst (ys.eraseIdx m)) (o' := .lst (ds'.eraseIdx m)) ho' r1' (fun _ _ q => by cases q) fun mv => ⟨i', _, rfl, r2', List.getElem?_set_self (Nat.lt_of_lt_of_le r3' q2.1), Rps.mv mv _ _ e6'.erase⟩
            have l3' : 3 ≤ (μ1.set i' (.lst (ds'.eraseIdx m))).length := by rw [List.length_set]; exact q3.l3
            have ho2 : (ρv.set j' (some (true, .lst (ys.eraseIdx m))))[j]? = some (some (true, .lst xs)) := by rw [List.getElem?_set_ne (Ne.symm hj)]; exact ho
            have e7 : (μ1.set i' (.lst (ds'.eraseIdx m)))[i]? = some (.lst ds) := by rw [List.getElem?_set_ne (Ne.symm hi)]; exact e5
            have e8 : Rps (WW A (ρv.set j' (some (true, .lst (ys.eraseIdx m)))) ρ) (μ1.set i' (.lst (ds'.eraseIdx m))) xs ds := Rps.mv (s2.mv q3.l3) _ _ e6
            have e9 : Rp (WW A (ρv.set j' (some (true, .lst (ys.eraseIdx m)))) ρ) (μ1.set i' (.lst (ds'.eraseIdx m))) y dy := g2.mv (s2.mv q3.l3)
            simp only [R.bind, e7]
            rw [if_pos (by rw [← e6.len]; exact hlen)]
            obtain ⟨s3, s4⟩ := s1.mut l3' (v' := .lst (xs ++ [y])) (o' := .lst (ds ++ [dy])) ho2 r1 (fun _ _ q => by cases q) fun mv => ⟨i, _, rfl, r2, List.getElem?_set_self (by rw [List.length_set]; exact Nat.lt_of_lt_of_le r3 q2.1), Rps.mv mv _ _ (e8.app (Rps.one e9))⟩
            exact ⟨b1, _, q, s3, ((St.of q2).trans s2).trans s4, (q3.set r2' _).set r2 _⟩
          · exact q.elim
    · exact q.elim
mutual
theorem sndSt (hF : FOk n F pF pI) : ∀ (s : LS) (A : Nat → Prop) (n0 : Nat) (ρv : PFr) (ρ : Fr) (μ : Mu), 3 ≤ μ.length → Sf A n0 ρv ρ μ → SndS n A n0 ρv ρ μ (pvS P pF pI s ρv) (evS P F s ρ μ)
  | .asg t e, A, n0, ρv, ρ, μ, l3, h => by
    simp only [pvS, evS]
    exact SndS.from0 (asg_snd hF t e (h.rel l3 _) (nl_rel _)) (St.rel _)
  | .par is es, A, n0, ρv, ρ, μ, l3, h => by
    simp only [pvS, evS]
    refine SndS.from0 ?_ (St.rel (leakA es))
    have h1 := h.rel l3 (leakA es)
    refine sndS_toS h1 ((sndA hF es).1 _ μ _ ρ h1.bd h1.re (nl_rel _)) fun v d μ1 hv k h3 hs b Q E hd ha => ?_
    split at ha
    · rename_i ρ' q
      obtain ⟨ρ2, e1, s1, s2⟩ := hs.sets hd.l3 hv q
      simp only [e1]
      exact ⟨b, _, ha, s1, s2, hd⟩
    · exact ha.elim
  | .expr e, A, n0, ρv, ρ, μ, l3, h => by
    simp only [pvS, evS]
    split
    · rename_i j a q
      split
      · rename_i xs ho
        rw [app_shape q]
        exact SndS.from0 (append_snd hF (h.rel l3 _) (nl_rel _) ho) (St.rel _)
      · exact sndS_bad
    · rename_i j j' a q
      split
      · rename_i xs ys ho ho'
        obtain ⟨q1, q2⟩ := app_shape2 q
        rw [q1]
        exact SndS.from0 (pop_snd hF (h.rel l3 _) (nl_rel _) ho ho' q2) (St.rel _)
      · exact sndS_bad
    · refine SndS.from0 ?_ (St.rel (leakE e))
      have h1 := h.rel l3 (leakE e)
      exact sndS_toS h1 (sndE hF e _ μ _ ρ h1.bd h1.re (nl_rel _)) fun v d μ1 hv k h3 hs b Q E hd ha => ⟨b, _, ha, hs, St.refl, hd⟩
  | .ret e, A, n0, ρv, ρ, μ, l3, h => by
    simp only [pvS, evS]
    refine SndS.from0 ?_ (St.rel (leakE e))
    have h1 := h.rel l3 (leakE e)
    exact sndS_toS h1 (sndE hF e _ μ _ ρ h1.bd h1.re (nl_rel _)) fun v d μ1 hv k h3 hs b Q E hd ha => ⟨b, v, ha, hv.sub hd.l3 fun i h => .inl h, Kp.refl, hd⟩
  | .retN, A, n0, ρv, ρ, μ, l3, h => by
    simp only [pvS, evS]
    exact sndS_ret rp_non
  | .ite c a b, A, n0, ρv, ρ, μ, l3, h => by
    simp only [pvS, evS]
    refine SndS.from0 ?_ (St.rel (leakE c))
    have h1 := h.rel l3 (leakE c)
    refine sndS_toS h1 (sndE hF c _ μ _ ρ h1.bd h1.re (nl_rel _)) fun v d μ1 hv k h3 hs => ?_
    cases v <;> first | exact sndS_bad | skip
    rename_i c
    obtain rfl : d = _ := hv.1
    cases c with
    | true => exact sndBl hF a A n0 _ ρ μ1 (Nat.le_trans h3 k.1) hs
    | false => exact sndBl hF b A n0 _ ρ μ1 (Nat.le_trans h3 k.1) hs
  | .for g it b, A, n0, ρv, ρ, μ, l3, h => by
    simp only [pvS, evS]
    refine SndS.from0 ?_ (St.rel (leakS it))
    have h1 := h.rel l3 (leakS it)
    refine sndS_toS h1 (sndIS hF it _ μ _ ρ h1.bd h1.re (nl_rel _)) fun vs src μ1 hv k h3 hs => ?_
    obtain ⟨ds, s1, s2, s3⟩ := hv
    simp only [s1]
    have l1 : 3 ≤ μ1.length := Nat.le_trans h3 k.1
    refine for_snd (src := src) (xs := ds) (ρv0 := rel ρv (leakS it)) (ρ0 := ρ) (μ0 := μ1) l1 (fun ρv2 ρ2 μ2 st => ?_) (fun v d ρv2 ρ2 μ2 hs2 l2 hv2 => ?_) vs 0 _ ρ μ1 hs St.refl (by simpa using s2)
    · rcases s3 with s3 | ⟨i, i3, il, iw, s3⟩
      · exact s3 _
      · exact s3 _ (st.kp.2 i i3 il fun o => iw (.inr o))
    · intro b2 Q E hd ha
      split at ha
      · rename_i ρ' q
        obtain ⟨ρ3, e1, t1, t2⟩ := hs2.bindG l2 hv2 q
        simp only [e1]
        exact (sndBl hF b A n0 _ ρ3 μ2 l2 t1).from t2 hd ha
      · exact ha.elim
  | .while c b, A, n0, ρv, ρ, μ, l3, h => by
    simp only [pvS, evS]
    exact while_snd (js := leakE c) (fun ρv ρ μ h hN => sndE hF c _ μ ρv ρ h.bd h.re hN) (fun ρv ρ μ h b' Q E hd ha => sndBl hF b A n0 ρv ρ μ hd.l3 h b' Q E hd ha) P.fuel ρv ρ μ h
  | .raise c as, A, n0, ρv, ρ, μ, l3, h => by
    simp only [pvS, evS]
    refine SndS.from0 ?_ (St.rel (leakA as))
    have h1 := h.rel l3 (leakA as)
    refine sndS_toS h1 ((sndA hF as).1 _ μ _ ρ h1.bd h1.re (nl_rel _)) fun v d μ1 hv k h3 hs b Q E hd ha => ?_
    split at ha
    · rename_i fs m q
      obtain ⟨gs, e1, e2⟩ := pexc_snd hv q
      simp only [e1]
      exact ⟨b, fs, ha, e2.sub hd.l3 fun i h => .inl h, Kp.refl, hd⟩
    · exact ha.elim
  | .pass, A, n0, ρv, ρ, μ, l3, h => by
    simp only [pvS, evS]
    exact fun b Q E hd ha => ⟨b, _, ha, h, St.refl, hd⟩
  | .brk, A, n0, ρv, ρ, μ, l3, h => by
    simp only [pvS, evS]
    exact fun b Q E hd ha => ⟨b, _, ha, h, St.refl, hd⟩
  | .cont, A, n0, ρv, ρ, μ, l3, h => by
    simp only [pvS, evS]
    exact fun b Q E hd ha => ⟨b, _, ha, h, St.refl, hd⟩
theorem sndBl (hF : FOk n F pF pI) : ∀ (s : LB) (A : Nat → Prop) (n0 : Nat) (ρv : PFr) (ρ : Fr) (μ : Mu), 3 ≤ μ.length → Sf A n0 ρv ρ μ → SndS n A n0 ρv ρ μ (pvB P pF pI s ρv) (evB P F s ρ μ)
  | .nil, A, n0, ρv, ρ, μ, l3, h => by
    simp only [pvB, evB]
    exact fun b Q E hd ha => ⟨b, _, ha, h, St.refl, hd⟩
  | .cons s r, A, n0, ρv, ρ, μ, l3, h => by
    simp only [pvB, evB]
    exact sndS_thn (sndSt hF s A n0 ρv ρ μ l3 h) fun ρv1 ρ1 μ1 h1 b Q E hd ha => sndBl hF r A n0 ρv1 ρ1 μ1 hd.l3 h1 b Q E hd ha
end
end
end Lt

set_option Elab.async false
set_option linter.all false
set_option maxRecDepth 100000
set_option maxHeartbeats 4000000
/-! Pv11: the draws. -/
namespace Lt
open PySem L2
/-- a for, by an invariant -/
theorem for_inv {src : Src} {xs : List D} {body : D → Fr → Mu → RS} (I : Nat → Fr → Mu → Prop) (hsrc : ∀ k ρ μ, I k ρ μ → src.all μ = some xs)
    (hstep : ∀ k d ρ μ, xs[k]? = some d → I k ρ μ → (body d ρ μ).Nx (I (k + 1))) : ∀ (m k : Nat) (ρ : Fr) (μ : Mu), m + k = xs.length → I k ρ μ → (forN src body m k ρ μ).Nx (I xs.length)
  | 0, k, ρ, μ, e, h => by
    have hk : xs[k]? = none := List.getElem?_eq_none (by omega)
    simp only [forN, Src.next, hsrc _ _ _ h, Option.map_some, hk]
    have : k = xs.length := by omega
    rw [← this]
    exact h
  | m + 1, k, ρ, μ, e, h => by
    have hl : k < xs.length := by omega
    have hk : xs[k]? = some xs[k] := List.getElem?_eq_getElem hl
    have z := hstep k _ ρ μ hk h
    simp only [forN, Src.next, hsrc _ _ _ h, Option.map_some, hk]
    generalize body xs[k] ρ μ = r at z
    cases r with
    | nx ρ' μ' => exact for_inv I hsrc hstep m (k + 1) ρ' μ' (by omega) z
    | _ => exact z.elim
theorem RS.Nx.ex {r : RS} {Q : Fr → Mu → Prop} (h : r.Nx Q) : ∃ ρ μ, r = .nx ρ μ ∧ Q ρ μ := by
  cases r with
  | nx ρ μ => exact ⟨ρ, μ, rfl, h⟩
  | _ => exact h.elim
def innerB : LB := .cons (.asg (.nm 4) (.bin .Mod (.bi .int (.cons (.bin .Add (.bin .Add (.bin .Mult (.var 4) (.cst (.int 48271))) (.var 5)) (.var 1)) .nil)) (.var 3))) .nil
def outerB : LB := .cons (.asg (.nm 4) (.bin .Add (.bin .Mult (.cst (.int 50021)) (.var 1)) (.bin .FloorDiv (.var 3) (.cst (.int 17))))) (.cons (.for (.nm 5) (.exp (.ix (.var 0) (.cst (.str "cells")))) innerB) (.cons (.asg (.nm 2) (.bin .Add (.bin .Mult (.var 2) (.cst (.int 2147483647))) (.bin .Mod (.bi .int (.cons (.bin .Pow (.var 4) (.cst (.int 5))) .nil)) (.var 3)))) .nil))
section
variable {P : Pg} {F : Nat → List D → Mu → R D}
def dObj (r u : Int) : O := .dct [(.inr "wide", .ref 0), (.inr "cells", .ref 1), (.inr "rest", .int r), (.inr "turn", .int u)]
theorem look_cells {r u : Int} : kLook [(.inr "wide", D.ref 0), (.inr "cells", .ref 1), (.inr "rest", .int r), (.inr "turn", .int u)] (.inr "cells") = some (.ref 1) := by
  simp [kLook, str_inj]
theorem look_turn {r u : Int} : kLook [(.inr "wide", D.ref 0), (.inr "cells", .ref 1), (.inr "rest", .int r), (.inr "turn", .int u)] (.inr "turn") = some (.int u) := by
  simp [kLook, str_inj]
theorem look_rest {r u : Int} : kLook [(.inr "wide", D.ref 0), (.inr "cells", .ref 1), (.inr "rest", .int r), (.inr "turn", .int u)] (.inr "rest") = some (.int r) := by
  simp [kLook, str_inj]
theorem look_wide {r u : Int} : kLook [(.inr "wide", D.ref 0), (.inr "cells", .ref 1), (.inr "rest", .int r), (.inr "turn", .int u)] (.inr "wide") = some (.ref 0) := by
  simp [kLook, str_inj]
theorem put_turn {r u v : Int} : putD [(.inr "wide", D.ref 0), (.inr "cells", .ref 1), (.inr "rest", .int r), (.inr "turn", .int u)] (.inr "turn") (.int v) = [(.inr "wide", D.ref 0), (.inr "cells", .ref 1), (.inr "rest", .int r), (.inr "turn", .int v)] := by
  simp [putD, kLook, str_inj]
theorem put_rest {r u v : Int} : putD [(.inr "wide", D.ref 0), (.inr "cells", .ref 1), (.inr "rest", .int r), (.inr "turn", .int u)] (.inr "rest") (.int v) = [(.inr "wide", D.ref 0), (.inr "cells", .ref 1), (.inr "rest", .int v), (.inr "turn", .int u)] := by
  simp [putD, kLook, str_inj]
theorem inner_ok {n : Nat} {μ : Mu} {cs : List Int} {r T Fo p B : Int} {c0 : Option D} (hd : μ[2]? = some (dObj r T)) (hc : μ[1]? = some (.lst (cs.map .int))) (hp : 0 < p ∧ p < 2147483648) (hB : 0 ≤ B ∧ B < 2 ^ 63) :
    (evS P F (.for (.nm 5) (.exp (.ix (.var 0) (.cst (.str "cells")))) innerB) [some (.ref 2), some (.int T), some (.int Fo), some (.int p), some (.int B), c0] μ).Nx fun ρ' μ' => μ' = μ ∧ ∃ (B' : Int) (c' : Option D), (0 ≤ B' ∧ B' < 2 ^ 63) ∧ ρ' = [some (.ref 2), some (.int T), some (.int Fo), some (.int p), some (.int B'), c'] := by
  have h1 : evI P F (.exp (.ix (.var 0) (.cst (.str "cells")))) [some (.ref 2), some (.int T), some (.int Fo), some (.int p), some (.int B), c0] μ = .ok (.live (.ref 1)) μ := by
    simp [evI, evE, R.bind, ixD, hd, dObj, key?, look_cells, lst?, hc]
  have h2 : Src.all μ (.live (.ref 1)) = some (cs.map .int) := by simp [Src.all, lst?, hc]
  simp only [evS, h1, R.toS, h2]
  have z := for_inv (src := .live (.ref 1)) (xs := cs.map D.int) (body := fun d ρ μ => match bindG (.nm 5) d ρ with
      | some ρ' => evB P F innerB ρ' μ
      | none => .no) (fun _ ρ' μ' => μ' = μ ∧ ∃ (B' : Int) (c' : Option D), (0 ≤ B' ∧ B' < 2 ^ 63) ∧ ρ' = [some (.ref 2), some (.int T), some (.int Fo), some (.int p), some (.int B'), c'])
    (fun k ρ' μ' h => by rw [h.1]; exact h2) (fun k d ρ' μ' hk h => by
      obtain ⟨rfl, B', c', hB', rfl⟩ := h
      obtain ⟨c, _, rfl⟩ := List.mem_map.mp (List.mem_of_getElem? hk)
      have hm : (-(2 ^ 64) < B' ∧ B' < 2 ^ 64) ∨ (-(2 ^ 64) < (48271 : Int) ∧ (48271 : Int) < 2 ^ 64) := .inr ⟨by decide, by decide⟩
      simp only [bindG, List.set, innerB, evB, evS, evE, evA, R.bind, R.toS, RS.thn, asgT, List.getElem?_cons_zero, List.getElem?_cons_succ, opD, if_pos hm, biD, if_pos hp.1, RS.Nx]
      refine ⟨trivial, _, _, ⟨Int.emod_nonneg _ (by omega), ?_⟩, rfl⟩
      have := Int.emod_lt_of_pos (B' * 48271 + c + T) hp.1
      omega) (cs.map D.int).length 0 _ μ (by simp) ⟨rfl, B, c0, hB, rfl⟩
  exact z
theorem outer_ok {n : Nat} {μ : Mu} {cs : List Int} {r T Fo p : Int} {c0 c1 c2 : Option D} (hd : μ[2]? = some (dObj r T)) (hc : μ[1]? = some (.lst (cs.map .int))) (hp : 17 ≤ p ∧ p < 2147483648) (hT : 0 ≤ T ∧ T ≤ B0) (hF : 0 ≤ Fo) :
    (evB P F outerB [some (.ref 2), some (.int T), some (.int Fo), some (.int p), c1, c2] μ).Nx fun ρ' μ' => μ' = μ ∧ ∃ (Fo' : Int) (c1 c2 : Option D), 0 ≤ Fo' ∧ ρ' = [some (.ref 2), some (.int T), some (.int Fo'), some (.int p), c1, c2] := by
  have hB : B0 = 100000000000000 := rfl
  have hm : (-(2 ^ 64) < (50021 : Int) ∧ (50021 : Int) < 2 ^ 64) ∨ (-(2 ^ 64) < T ∧ T < 2 ^ 64) := .inl ⟨by decide, by decide⟩
  have hq : (0 : Int) < 17 ∧ (17 : Int) < 1073741824 := ⟨by decide, by decide⟩
  have hb : 0 ≤ 50021 * T + p / 17 ∧ 50021 * T + p / 17 < 2 ^ 63 := by omega
  obtain ⟨ρ', μ', e, rfl, B', c', hB', rfl⟩ := (inner_ok (n := n) (P := P) (F := F) (Fo := Fo) (c0 := c2) hd hc ⟨by omega, hp.2⟩ hb).ex
  have h1 : evS P F (.asg (.nm 4) (.bin .Add (.bin .Mult (.cst (.int 50021)) (.var 1)) (.bin .FloorDiv (.var 3) (.cst (.int 17))))) [some (.ref 2), some (.int T), some (.int Fo), some (.int p), c1, c2] μ' = .nx [some (.ref 2), some (.int T), some (.int Fo), some (.int p), some (.int (50021 * T + p / 17)), c2] μ' := by
    simp only [evS, evE, R.bind, R.toS, asgT, List.getElem?_cons_zero, List.getElem?_cons_succ, opD, if_pos hm, if_pos hq, List.set]
  have hm2 : (-(2 ^ 64) < Fo ∧ Fo < 2 ^ 64) ∨ (-(2 ^ 64) < (2147483647 : Int) ∧ (2147483647 : Int) < 2 ^ 64) := .inr ⟨by decide, by decide⟩
  have hpw : (0 : Int) ≤ 5 ∧ (5 : Int) ≤ 1000000 ∧ B'.natAbs < 2 ^ 64 := ⟨by decide, by decide, by omega⟩
  have hp0 : 0 < p := by omega
  unfold outerB
  rw [evB, h1]
  simp only [RS.thn]
  rw [evB, e]
  simp only [RS.thn, evB, evS, evE, evA, R.bind, R.toS, asgT, List.getElem?_cons_zero, List.getElem?_cons_succ, opD, if_pos hm2, if_pos hpw, if_pos hp0, biD, List.set, RS.Nx]
  have := Int.emod_nonneg (B' ^ (5 : Int).toNat) (show p ≠ 0 by omega)
  exact ⟨trivial, _, _, _, by omega, rfl⟩
theorem dMixed_eq : dMixed = .cons (.par [1, 2] (.cons (.bin .Add (.ix (.var 0) (.cst (.str "turn"))) (.cst (.int 1))) (.cons (.cst (.int 0)) .nil))) (.cons (.asg (.sub (.var 0) (.cst (.str "turn"))) (.var 1)) (.cons (.for (.nm 3) (.exp (.lst (.cons (.cst (.int 2147483629)) (.cons (.cst (.int 2147483587)) (.cons (.cst (.int 2147483579)) (.cons (.cst (.int 2147483563)) .nil)))))) outerB) (.cons (.ret (.var 2)) .nil))) := rfl
theorem Draw.len {n : Nat} {t : Int} {μ : Mu} (h : Draw n t μ) : 3 ≤ μ.length := by
  obtain ⟨r, u, h, _⟩ := h.draw
  exact lt_of_some h
/-- one more long number -/
theorem mixed_ok {n k : Nat} {t : Int} {μ : Mu} (hf : P.fns[1]? = some ⟨1, 6, dMixed⟩) (hD : Draw n t μ) (ht : t + 1 ≤ B0) :
    (call P (k + 1) 1 [.ref 2] μ).Ok fun d μ' => ∃ z : Int, d = .int z ∧ 0 ≤ z ∧ Draw n (t + 1) μ' ∧ Kp no0 μ μ' ∧ μ'[0]? = μ[0]? ∧ μ'[1]? = μ[1]? ∧ ∃ r u, 0 ≤ r ∧ 0 ≤ u ∧ u ≤ t + 1 ∧ μ'[2]? = some (dObj r u) := by
  refine call_ok hf rfl ?_
  have l3 := hD.len
  obtain ⟨cs, hc, hcn⟩ := hD.cells
  obtain ⟨r, u, hd, hr, hu, hut⟩ := hD.draw
  have hd0 : μ[2]? = some (dObj r u) := hd
  show (evB P (call P k) dMixed [some (.ref 2), none, none, none, none, none] μ).En _ _
  rw [dMixed_eq]
  have s1 : evS P (call P k) (.par [1, 2] (.cons (.bin .Add (.ix (.var 0) (.cst (.str "turn"))) (.cst (.int 1))) (.cons (.cst (.int 0)) .nil))) [some (.ref 2), none, none, none, none, none] μ = .nx [some (.ref 2), some (.int (u + 1)), some (.int 0), none, none, none] μ := by
    simp [evS, evA, evE, R.bind, R.toS, ixD, hd0, dObj, key?, look_turn, opD, setFr]
  have s2 : evS P (call P k) (.asg (.sub (.var 0) (.cst (.str "turn"))) (.var 1)) [some (.ref 2), some (.int (u + 1)), some (.int 0), none, none, none] μ = .nx [some (.ref 2), some (.int (u + 1)), some (.int 0), none, none, none] (μ.set 2 (dObj r (u + 1))) := by
    simp only [evS, evE, R.toS, asgT, List.getElem?_cons_zero, List.getElem?_cons_succ, hd0, dObj, key?, put_turn]
    rw [if_pos (by show 4 < sizeLine; decide)]
  rw [evB, s1]
  simp only [RS.thn]
  rw [evB, s2]
  simp only [RS.thn]
  generalize hμ1 : μ.set 2 (dObj r (u + 1)) = μ1
  have l1 : μ1.length = μ.length := by rw [← hμ1, List.length_set]
  have hd1 : μ1[2]? = some (dObj r (u + 1)) := by rw [← hμ1]; exact List.getElem?_set_self l3
  have hc1 : μ1[1]? = some (.lst (cs.map .int)) := by rw [← hμ1, List.getElem?_set_ne (by decide)]; exact hc
  have k1 : ∀ i, i ≠ 2 → μ1[i]? = μ[i]? := fun i hi => by rw [← hμ1, List.getElem?_set_ne (Ne.symm hi)]
  have hB : B0 = 100000000000000 := rfl
  have ps : ∀ (j : Nat) (d : D), [D.int 2147483629, .int 2147483587, .int 2147483579, .int 2147483563][j]? = some d → ∃ p : Int, d = .int p ∧ 17 ≤ p ∧ p < 2147483648 := fun j d e => by
    have := List.mem_of_getElem? e
    simp only [List.mem_cons, List.not_mem_nil, or_false] at this
    rcases this with rfl | rfl | rfl | rfl <;> exact ⟨_, rfl, by decide, by decide⟩
  have s3 : (evS P (call P k) (.for (.nm 3) (.exp (.lst (.cons (.cst (.int 2147483629)) (.cons (.cst (.int 2147483587)) (.cons (.cst (.int 2147483579)) (.cons (.cst (.int 2147483563)) .nil)))))) outerB) [some (.ref 2), some (.int (u + 1)), some (.int 0), none, none, none] μ1).Nx fun ρ' μ' => μ' = μ1 ++ [.lst [.int 2147483629, .int 2147483587, .int 2147483579, .int 2147483563]] ∧ ∃ (Fo : Int) (c0 c1 c2 : Option D), 0 ≤ Fo ∧ ρ' = [some (.ref 2), some (.int (u + 1)), some (.int Fo), c0, c1, c2] := by
    have hsz : [D.int 2147483629, .int 2147483587, .int 2147483579, .int 2147483563].length ≤ sizeLine := by decide
    have g1 : (μ1 ++ [O.lst [D.int 2147483629, .int 2147483587, .int 2147483579, .int 2147483563]])[μ1.length]? = some (O.lst [D.int 2147483629, .int 2147483587, .int 2147483579, .int 2147483563]) := by simp
    have g2 : evI P (call P k) (.exp (.lst (.cons (.cst (.int 2147483629)) (.cons (.cst (.int 2147483587)) (.cons (.cst (.int 2147483579)) (.cons (.cst (.int 2147483563)) .nil)))))) [some (.ref 2), some (.int (u + 1)), some (.int 0), none, none, none] μ1 = .ok (.live (.ref μ1.length)) (μ1 ++ [.lst [.int 2147483629, .int 2147483587, .int 2147483579, .int 2147483563]]) := by
      simp only [evI, evE, evA, R.bind, if_pos hsz, new, lst?, g1]
    simp only [evS, g2, R.toS, Src.all, lst?, g1]
    exact for_inv (src := .live (.ref μ1.length)) (xs := [D.int 2147483629, .int 2147483587, .int 2147483579, .int 2147483563]) (body := fun d ρ μ => match bindG (.nm 3) d ρ with
      | some ρ' => evB P (call P k) outerB ρ' μ
      | none => .no) (fun _ ρ' μ' => μ' = μ1 ++ [.lst [.int 2147483629, .int 2147483587, .int 2147483579, .int 2147483563]] ∧ ∃ (Fo : Int) (c0 c1 c2 : Option D), 0 ≤ Fo ∧ ρ' = [some (.ref 2), some (.int (u + 1)), some (.int Fo), c0, c1, c2])
      (fun _ ρ' μ' h => by rw [h.1]; simp only [Src.all, lst?, g1]) (fun j d ρ' μ' hj h => by
        obtain ⟨rfl, Fo, c0, c1, c2, hF, rfl⟩ := h
        obtain ⟨p, rfl, hp1, hp2⟩ := ps j d hj
        have z := outer_ok (n := n) (P := P) (F := call P k) (μ := μ1 ++ [.lst [.int 2147483629, .int 2147483587, .int 2147483579, .int 2147483563]]) (cs := cs) (r := r) (T := u + 1) (Fo := Fo) (p := p) (c1 := c1) (c2 := c2) (c0 := c0)
          (by rw [List.getElem?_append_left (by omega)]; exact hd1) (by rw [List.getElem?_append_left (by omega)]; exact hc1) ⟨hp1, hp2⟩ (by omega) hF
        obtain ⟨ρ2, μ2, e, rfl, Fo', c1', c2', hF', rfl⟩ := z.ex
        simp only [bindG, List.set, e]
        exact ⟨rfl, Fo', _, c1', c2', hF', rfl⟩) 4 0 _ _ rfl ⟨rfl, 0, none, none, none, Int.le_refl _, rfl⟩
  obtain ⟨ρ', μ', e, rfl, Fo, c0, c1, c2, hF, rfl⟩ := s3.ex
  rw [evB, e]
  simp only [RS.thn, evB, evS, evE, R.toS, List.getElem?_cons_zero, List.getElem?_cons_succ, RS.En]
  have k2 : ∀ i, i < μ.length → i ≠ 2 → (μ1 ++ [O.lst [D.int 2147483629, .int 2147483587, .int 2147483579, .int 2147483563]])[i]? = μ[i]? := fun i hl hi => by
    rw [List.getElem?_append_left (by omega)]
    exact k1 i hi
  have hd2 : (μ1 ++ [O.lst [D.int 2147483629, .int 2147483587, .int 2147483579, .int 2147483563]])[2]? = some (dObj r (u + 1)) := by rw [List.getElem?_append_left (by omega)]; exact hd1
  refine ⟨Fo, rfl, hF, ⟨?_, ?_, r, u + 1, hd2, hr, by omega, by omega⟩, ⟨by simp [l1], fun i h1 h2 _ => k2 i h2 (by omega)⟩, k2 0 (by omega) (by decide), k2 1 (by omega) (by decide), r, u + 1, hr, by omega, by omega, hd2⟩
  · obtain ⟨ws, w1, w2⟩ := hD.wide
    exact ⟨ws, by rw [k2 0 (by omega) (by decide)]; exact w1, w2⟩
  · exact ⟨cs, by rw [k2 1 (by omega) (by decide)]; exact hc, hcn⟩
theorem eqD_int {a b : Int} {μ : Mu} : eqD (.int a) (.int b) μ = some (a == b) := rfl
theorem canLay_ints : ∀ ws : List Int, PyData.canLayAll0 (ws.map PyData.int) = true
  | [] => rfl
  | w :: ws => by simp [PyData.canLayAll0, PyData.canLay0, canLay_ints ws]
theorem depth_ints : ∀ ws : List Int, PyData.depthAll (ws.map PyData.int) ≤ 1
  | [] => by simp [PyData.depthAll]
  | w :: ws => by
    have := depth_ints ws
    simp [PyData.depthAll, PyData.depth]
    omega
theorem toP_ints {n : Nat} {μ : Mu} : ∀ ws : List Int, (ws.map D.int).mapM (toP (n + 1) μ) = some (ws.map PyData.int)
  | [] => rfl
  | w :: ws => by simp [List.mapM_cons, toP, toP_ints ws]
theorem neD_nil {μ : Mu} {ws : List Int} {i j : Nat} (hi : μ[i]? = some (.lst (ws.map .int))) (hj : μ[j]? = some (.lst [])) : cmpD .NotEq (.ref i) (.ref j) μ = some (!ws.isEmpty) := by
  have e1 : toP 60 μ (.ref i) = some (.list (ws.map PyData.int)) := by simp only [toP, hi, toP_ints, Option.map_some]
  have e2 : toP 60 μ (.ref j) = some (.list []) := by simp only [toP, hj]; rfl
  have h1 : SeqAt.shaped (.list (ws.map PyData.int)) = true := by
    have := depth_ints ws
    simp [SeqAt.shaped, PyData.canLay0, canLay_ints, PyData.depth]
    omega
  have h2 : SeqAt.shaped (.list []) = true := by decide
  simp only [cmpD, eqD, shaped2, e1, e2, h1, h2, Bool.and_self, if_true, Option.map_some]
  cases ws <;> rfl
theorem eraseIdx_map {α β : Type} (f : α → β) : ∀ (l : List α) (i : Nat), (l.map f).eraseIdx i = (l.eraseIdx i).map f
  | [], _ => rfl
  | _ :: _, 0 => rfl
  | x :: l, i + 1 => by simp [eraseIdx_map f l i]
/-- a drawn number -/
theorem take_ok {n k : Nat} {t m : Int} {μ : Mu} (hf2 : P.fns[2]? = some ⟨2, 3, dTake⟩) (hf : P.fns[1]? = some ⟨1, 6, dMixed⟩) (hD : Draw n t μ) (hn : n ≤ 1000) (ht0 : 0 ≤ t) (ht : t + 1 ≤ B0) (hm : 0 < m ∧ m < 1073741824) :
    (call P (k + 2) 2 [.ref 2, .int m] μ).Ok fun d μ' => ∃ z : Int, d = .int z ∧ 0 ≤ z ∧ z < m ∧ Draw n (t + 1) μ' ∧ Kp no0 μ μ' := by
  refine call_ok hf2 rfl ?_
  have l3 := hD.len
  obtain ⟨cs, hc, hcn⟩ := hD.cells
  obtain ⟨ws, hw, hwp, hwn⟩ := hD.wide
  obtain ⟨r, u, hd, hr, hu, hut⟩ := hD.draw
  have hd0 : μ[2]? = some (dObj r u) := hd
  show (evB P (call P (k + 1)) dTake [some (.ref 2), some (.int m), none] μ).En _ _
  have p1 : ∃ r1 u1 μ1, 0 ≤ r1 ∧ 0 ≤ u1 ∧ u1 ≤ t + 1 ∧ μ1[2]? = some (dObj r1 u1) ∧ (∃ ws' : List Int, μ1[0]? = some (.lst (ws'.map .int)) ∧ (∀ z ∈ ws', 0 ≤ z) ∧ ws'.length ≤ n) ∧ μ1[1]? = some (.lst (cs.map .int)) ∧ Kp no0 μ μ1 ∧
      evS P (call P (k + 1)) (.ite (.cmp .Eq (.ix (.var 0) (.cst (.str "rest"))) (.cst (.int 0))) (.cons (.asg (.sub (.var 0) (.cst (.str "rest"))) (.ite (.cmp .NotEq (.ix (.var 0) (.cst (.str "wide"))) (.lst (.nil))) (.meth (.ix (.var 0) (.cst (.str "wide"))) "pop" (.cons (.cst (.int 0)) .nil)) (.fn 1 (.cons (.var 0) .nil)))) .nil) (.nil)) [some (.ref 2), some (.int m), none] μ = .nx [some (.ref 2), some (.int m), none] μ1 := by
    by_cases h0 : r = 0
    · subst h0
      have q0 : ∀ g : D → Mu → RS, (evE P (call P (k + 1)) (.cmp .Eq (.ix (.var 0) (.cst (.str "rest"))) (.cst (.int 0))) [some (.ref 2), some (.int m), none] μ).toS [some (.ref 2), some (.int m), none] g = g (.bl true) μ := fun g => by
        simp only [evE, R.bind, R.toS, ixD, List.getElem?_cons_zero, hd0, dObj, key?, look_rest, Option.bind_some, cmpD, eqD_int, blR]
        rfl
      have hsz : ([] : List D).length ≤ sizeLine := by decide
      have g0 : (μ ++ [O.lst []])[2]? = some (dObj 0 u) := by rw [List.getElem?_append_left (by omega)]; exact hd0
      have g1 : (μ ++ [O.lst []])[0]? = some (.lst (ws.map .int)) := by rw [List.getElem?_append_left (by omega)]; exact hw
      have g2 : (μ ++ [O.lst []])[1]? = some (.lst (cs.map .int)) := by rw [List.getElem?_append_left (by omega)]; exact hc
      have g3 : (μ ++ [O.lst []])[μ.length]? = some (.lst []) := by simp
      have q1 : ∀ (a b : LE), evE P (call P (k + 1)) (.ite (.cmp .NotEq (.ix (.var 0) (.cst (.str "wide"))) (.lst (.nil))) a b) [some (.ref 2), some (.int m), none] μ = (if ws.isEmpty then evE P (call P (k + 1)) b [some (.ref 2), some (.int m), none] (μ ++ [.lst []]) else evE P (call P (k + 1)) a [some (.ref 2), some (.int m), none] (μ ++ [.lst []])) := fun a b => by
        simp only [evE, evA, R.bind, ixD, List.getElem?_cons_zero, hd0, dObj, key?, look_wide, Option.bind_some, if_pos hsz, new, neD_nil g1 g3, blR]
        cases ws <;> rfl
      have kA : Kp no0 μ (μ ++ [O.lst []]) := Kp.app _
      cases ws with
      | cons w ws =>
        have hsx : (-(2 ^ 63) : Int) ≤ 0 ∧ (0 : Int) < 2 ^ 63 := ⟨by decide, by decide⟩
        have mk : methK P (.ref 0) "pop" (μ ++ [O.lst []]) = some .lst := by
          simp only [methK, g1]
          rw [if_pos (by decide)]
        have e1 : evE P (call P (k + 1)) (.meth (.ix (.var 0) (.cst (.str "wide"))) "pop" (.cons (.cst (.int 0)) .nil)) [some (.ref 2), some (.int m), none] (μ ++ [O.lst []]) = .ok (.int w) ((μ ++ [O.lst []]).set 0 (.lst (ws.map .int))) := by
          have hx : seqIndex? 0 (List.map D.int (w :: ws)).length = some 0 := by
            simp [seqIndex?]
          simp only [evE, evA, R.bind, ixD, List.getElem?_cons_zero, g0, dObj, key?, look_wide, Option.bind_some, mk, methL, g1]
          rw [if_neg (by decide), if_pos trivial, if_pos hsx, hx]
          rfl
        have e2 : ((μ ++ [O.lst []]).set 0 (.lst (ws.map .int)))[2]? = some (dObj 0 u) := by rw [List.getElem?_set_ne (by decide)]; exact g0
        refine ⟨w, u, ((μ ++ [O.lst []]).set 0 (.lst (ws.map .int))).set 2 (dObj w u), hwp w (by simp), hu, by omega, ?_, ⟨ws, ?_, fun z hz => hwp z (by simp [hz]), by simp at hwn; omega⟩, ?_, ⟨by simp, fun i a b c => ?_⟩, ?_⟩
        · exact List.getElem?_set_self (by simp; omega)
        · rw [List.getElem?_set_ne (by decide)]; exact List.getElem?_set_self (by simp)
        · rw [List.getElem?_set_ne (by decide), List.getElem?_set_ne (by decide)]; exact g2
        · rw [List.getElem?_set_ne (by omega), List.getElem?_set_ne (by omega)]; exact kA.2 i a b c
        · rw [evS, q0]
          simp only [evB]
          rw [evS, q1, if_neg (by simp), e1]
          simp only [R.toS, asgT, evE, List.getElem?_cons_zero, e2, dObj, key?, put_rest, RS.thn]
          rw [if_pos (by show 4 < sizeLine; decide)]
      | nil =>
        have hD2 : Draw n t (μ ++ [O.lst []]) := ⟨⟨[], g1, hwp, hwn⟩, ⟨cs, g2, hcn⟩, 0, u, g0, hr, hu, hut⟩
        obtain ⟨d, μ2, e1, z, rfl, hz, hD3, kB, m0, m1, r3, u3, hr3, hu3, hut3, hd3⟩ := (mixed_ok (k := k) hf hD2 ht).ex
        have e2 : evE P (call P (k + 1)) (.fn 1 (.cons (.var 0) .nil)) [some (.ref 2), some (.int m), none] (μ ++ [.lst []]) = .ok (.int z) μ2 := by
          simp only [evE, evA, R.bind, List.getElem?_cons_zero, e1]
        have l2 : 3 ≤ μ2.length := hD3.len
        refine ⟨z, u3, μ2.set 2 (dObj z u3), hz, hu3, hut3, List.getElem?_set_self l2, ⟨[], ?_, hwp, hwn⟩, ?_, ⟨by simp; have := kB.1; simp at this; omega, fun i a b c => ?_⟩, ?_⟩
        · rw [List.getElem?_set_ne (by decide), m0]; exact g1
        · rw [List.getElem?_set_ne (by decide), m1]; exact g2
        · rw [List.getElem?_set_ne (by omega), kB.2 i a (by simp; omega) c]; exact kA.2 i a b c
        · rw [evS, q0]
          simp only [evB]
          rw [evS, q1, if_pos (by simp), e2]
          simp only [R.toS, asgT, evE, List.getElem?_cons_zero, hd3, dObj, key?, put_rest, RS.thn]
          rw [if_pos (by show 4 < sizeLine; decide)]
    · refine ⟨r, u, μ, hr, hu, by omega, hd0, ⟨ws, hw, hwp, hwn⟩, hc, Kp.refl, ?_⟩
      have hb : (r == 0) = false := by simpa using h0
      simp only [evS, evE, R.bind, R.toS, ixD, List.getElem?_cons_zero, hd0, dObj, key?, look_rest, Option.bind_some, cmpD, eqD_int, blR, hb, evB]
  obtain ⟨r1, u1, μ1, hr1, hu1, hut1, hd1, hw1, hc1, k1, e1⟩ := p1
  have hm0 : (0 : Int) < m := hm.1
  unfold dTake
  rw [evB, e1]
  simp only [RS.thn, evB, evS, evE, evA, R.bind, R.toS, asgT, ixD, List.getElem?_cons_zero, List.getElem?_cons_succ, hd1, dObj, key?, look_rest, Option.bind_some, biD, opD, if_pos hm0, if_pos hm, put_rest, List.set]
  rw [if_pos (by show 4 < sizeLine; decide)]
  have l1 : 3 ≤ μ1.length := Nat.le_trans l3 k1.1
  refine ⟨r1 % m, rfl, Int.emod_nonneg _ (by omega), Int.emod_lt_of_pos _ hm0, ⟨?_, ⟨cs, ?_, hcn⟩, r1 / m, u1, List.getElem?_set_self l1, Int.ediv_nonneg hr1 (by omega), hu1, hut1⟩, Nat.le_trans k1.1 (by simp), fun i a b c => ?_⟩
  · obtain ⟨ws', w1, w2⟩ := hw1
    exact ⟨ws', by rw [List.getElem?_set_ne (by decide)]; exact w1, w2⟩
  · rw [List.getElem?_set_ne (by decide)]; exact hc1
  · rw [List.getElem?_set_ne (by omega)]; exact k1.2 i a b c
end
end Lt

set_option Elab.async false
set_option linter.all false
set_option maxRecDepth 100000
set_option maxHeartbeats 4000000
/-! Pv12: calls of defs. -/
namespace Lt
open PySem L2
mutual
/-- a call of the f-th def on values; the first four are the draws' -/
def pcall (P : Pg) : Nat → Nat → List PV → T PV
  | 0, _, _ => .bad
  | n + 1, f, vs => if f = 2 then (match n, vs with
      | _ + 1, [.drw, .int k] => if 0 < k ∧ k < 1073741824 then .drw k.toNat fun r => .ret (.int r) else .bad
      | _, _ => .bad)
    else match P.fns[f]? with
    | some g => if vs.length = g.np then (pvB P (pcall P n) (pinit P n) g.body (vs.map (fun v => some (false, v)) ++ List.replicate (g.ns - g.np) none)).bind fun s => (match s with
        | .nx _ => .ret .non
        | .ret v => .ret v
        | _ => .bad) else .bad
    | none => .bad
/-- .. of an __init__: the new instance -/
def pinit (P : Pg) : Nat → Nat → Nat → List PV → T PV
  | 0, _, _, _ => .bad
  | n + 1, f, c, vs => match P.fns[f]? with
    | some g => if vs.length + 1 = g.np then (pvB P (pcall P n) (pinit P n) g.body (some (true, .ins c []) :: (vs.map (fun v => some (false, v)) ++ List.replicate (g.ns - g.np) none))).bind fun s => (match s with
        | .nx ρ => (match ρ[0]? with
          | some (some (true, PV.ins c fs)) => T.ret (PV.ins c fs)
          | _ => .bad)
        | _ => .bad) else .bad
    | none => .bad
end
/-- the draws' defs -/
structure Dw (P : Pg) : Prop where
  d1 : P.fns[1]? = some ⟨1, 6, dMixed⟩
  d2 : P.fns[2]? = some ⟨2, 3, dTake⟩
theorem re_args {W : Nat → Prop} {μ : Mu} (m : Nat) : ∀ {vs : List PV} {ds : List D}, Rps W μ vs ds → Re W μ (vs.map (fun v => some (false, v)) ++ List.replicate m none) (ds.map some ++ List.replicate m none) := fun {vs ds} h => by
  have key : ∀ (j : Nat) (b : Bool) (v : PV), (vs.map (fun v => some (false, v)) ++ List.replicate m none)[j]? = some (some (b, v)) → vs[j]? = some v ∧ b = false := fun j b v e => by
    by_cases hj : j < vs.length
    · rw [List.getElem?_append_left (by simpa using hj), List.getElem?_map] at e
      obtain ⟨w, e1, e2⟩ := Option.map_eq_some_iff.mp e
      cases e2
      exact ⟨e1, rfl⟩
    · rw [List.getElem?_append_right (by simpa using Nat.le_of_not_lt hj)] at e
      have := List.mem_of_getElem? e
      rw [List.mem_replicate] at this
      cases this.2
  refine ⟨by simp [h.len], fun j v e => ?_, fun j v e => ?_⟩
  · obtain ⟨e1, _⟩ := key j _ v e
    obtain ⟨d, e2, e3⟩ := h.at e1
    have hj : j < ds.length := lt_of_some e2
    exact ⟨d, by rw [List.getElem?_append_left (by simpa using hj), List.getElem?_map, e2]; rfl, e3⟩
  · obtain ⟨_, e1⟩ := key j _ v e
    cases e1
theorem not_own {vs : List PV} {m j : Nat} {v : PV} : (vs.map (fun v => some (false, v)) ++ List.replicate m none)[j]? ≠ some (some (true, v)) := fun e => by
  have := List.mem_of_getElem? e
  rcases List.mem_append.mp this with h | h
  · obtain ⟨w, _, h⟩ := List.mem_map.mp h
    cases h
  · rw [List.mem_replicate] at h
    cases h.2
theorem call_snd {P : Pg} (dw : Dw P) (N : Nat) (hN : N ≤ 1000) : ∀ n : Nat, FOk N (call P n) (pcall P n) (pinit P n)
  | 0 => ⟨fun W μ f vs ds hW h => by simp only [pcall]; exact snd_bad, fun W μ f c vs ds hW h => by simp only [pinit]; exact snd_bad⟩
  | n + 1 => by
    have ih := call_snd dw N hN n
    refine ⟨fun W μ f vs ds hW h => ?_, fun W μ f c vs ds hW h => ?_⟩
    · unfold pcall
      split
      · rename_i hf
        subst hf
        split
        · rename_i n k
          obtain ⟨d1, r1, rfl, h1, h2⟩ := h.uncons
          obtain ⟨d2, r2, rfl, h3, h4⟩ := h2.uncons
          obtain rfl := h4.nil
          obtain rfl : d1 = _ := h1.1
          obtain rfl : d2 = _ := h3.1
          split
          · rename_i hk
            rintro b Q E ⟨hn, t, ht0, hD, htb⟩ ⟨a1, a2, a3, a4⟩
            obtain ⟨d, μ', e, z, rfl, hz0, hzk, hD', hK⟩ := (take_ok (P := P) (k := n) (m := k) dw.d2 dw.d1 hD hn ht0 (by omega) hk).ex
            rw [e]
            have q : Q (b - 1) (.int z.toNat) := a4 z.toNat (by omega)
            rw [show ((z.toNat : Nat) : Int) = z by omega] at q
            exact ⟨b - 1, _, q, rp_int, hK, hn, t + 1, by omega, hD', by omega⟩
          · exact snd_bad
        · exact snd_bad
      · split
        · rename_i hf2 g hg
          split
          · rename_i hl
            intro b Q E hd ha
            have l3 := hd.l3
            have hre := re_args (g.ns - g.np) h
            have hs : Sf W μ.length (vs.map (fun v => some (false, v)) ++ List.replicate (g.ns - g.np) none) (ds.map some ++ List.replicate (g.ns - g.np) none) μ := {
              re := ⟨hre.len, fun j v e => by
                obtain ⟨d, e1, e2⟩ := hre.get j v e
                exact ⟨d, e1, e2.sub l3 fun i hi => by
                  rcases hi with hi | ⟨j, v, o, _⟩
                  · exact hi
                  · exact absurd o not_own⟩, fun j v e => absurd e not_own⟩
              nd := fun j j' i v v' e => absurd e not_own
              low := fun i o => by
                obtain ⟨j, v, o, _⟩ := o
                exact absurd o not_own
              bdA := hW
              le := Nat.le_refl _
              slf := fun j c fs e => absurd e not_own }
            have z := sndBl ih g.body W μ.length _ _ μ l3 hs b _ E hd (all_bind.mp ha)
            simp only [call, hg, ← h.len, hl, if_true]
            generalize evB P (call P n) g.body (ds.map some ++ List.replicate (g.ns - g.np) none) μ = r at z
            have kk : ∀ μ', Kp (Own (vs.map (fun v => some (false, v)) ++ List.replicate (g.ns - g.np) none) (ds.map some ++ List.replicate (g.ns - g.np) none)) μ μ' → Kp no0 μ μ' := fun μ' k => ⟨k.1, fun i a b _ => k.2 i a b fun ⟨j, v, o, _⟩ => absurd o not_own⟩
            cases r with
            | nx ρ' μ' =>
              obtain ⟨b', w, q, q1, q2, q3⟩ := z
              exact ⟨b', _, q, rp_non, kk _ q2.kp, q3⟩
            | ct ρ' μ' => obtain ⟨b', w, q, q1, q2, q3⟩ := z; exact q.elim
            | brk ρ' μ' => obtain ⟨b', w, q, q1, q2, q3⟩ := z; exact q.elim
            | ret d _ μ' =>
              obtain ⟨b', w, q, q1, q2, q3⟩ := z
              exact ⟨b', _, q, q1, kk _ q2, q3⟩
            | exc c gs _ μ' =>
              obtain ⟨b', w, q, q1, q2, q3⟩ := z
              exact ⟨b', w, q, q1, kk _ q2, q3⟩
            | no => exact z
          · exact snd_bad
        · exact snd_bad
    · unfold pinit
      split
      · rename_i g hg
        split
        · rename_i hl
          intro b Q E hd ha
          have l3 := hd.l3
          have hre := re_args (g.ns - g.np) (h.kp l3 (Kp.app (O.ins c [])))
          generalize hρv : some (true, PV.ins c []) :: (vs.map (fun v => some (false, v)) ++ List.replicate (g.ns - g.np) none) = ρv at ha
          generalize hρ : some (D.ref μ.length) :: (ds.map some ++ List.replicate (g.ns - g.np) none) = ρ
          have oo : ∀ (j : Nat) (v : PV), ρv[j]? = some (some (true, v)) → j = 0 ∧ v = .ins c [] := fun j v e => by
            rw [← hρv] at e
            cases j with
            | zero => cases e; exact ⟨rfl, rfl⟩
            | succ j => exact absurd (by simpa using e) not_own
          have r0 : ρ[0]? = some (some (D.ref μ.length)) := by rw [← hρ]; rfl
          have v0 : ρv[0]? = some (some (true, PV.ins c [])) := by rw [← hρv]; rfl
          have ow : ∀ i, Own ρv ρ i → i = μ.length := fun i ⟨j, v, o1, o2⟩ => by
            obtain ⟨rfl, _⟩ := oo j v o1
            rw [r0] at o2
            cases o2
            rfl
          have mv : Mv W (WW W ρv ρ) μ (μ ++ [O.ins c []]) := ⟨l3, fun i a b _ => by rw [List.getElem?_append_left b], fun i hi => by
            rcases hi with hi | hi
            · exact .inl hi
            · rw [ow i hi]; exact .inr (Nat.le_refl _)⟩
          have hs : Sf W μ.length ρv ρ (μ ++ [O.ins c []]) := {
            re := ⟨by rw [← hρv, ← hρ]; simp [h.len], fun j v e => by
              cases j with
              | zero => rw [v0] at e; cases e
              | succ j =>
                rw [← hρv] at e
                have e' : (vs.map (fun v => some (false, v)) ++ List.replicate (g.ns - g.np) none)[j]? = some (some (false, v)) := by simpa using e
                obtain ⟨d, e1, e2⟩ := (re_args (g.ns - g.np) h).get j v e'
                refine ⟨d, by rw [← hρ]; simpa using e1, e2.mv mv⟩, fun j v e => by
              obtain ⟨rfl, rfl⟩ := oo j v e
              exact ⟨μ.length, r0, .inr ⟨0, _, v0, r0⟩, μ.length, [], rfl, l3, by simp, rfl⟩⟩
            nd := fun j j' i v v' e1 _ e2 _ => by rw [(oo j v e1).1, (oo j' v' e2).1]
            low := fun i o => by
              rw [ow i o]
              exact ⟨Nat.le_refl _, l3, by simp⟩
            bdA := hW
            le := by simp
            slf := fun j c fs e => by
              obtain ⟨rfl, _⟩ := oo j _ e
              exact r0 }
          have z := sndBl ih g.body W μ.length _ _ (μ ++ [O.ins c []]) (by simp; omega) hs b _ E (hd.app _) (all_bind.mp ha)
          have hl2 : ds.length + 1 = g.np := by rw [← h.len]; exact hl
          have hfr : (D.ref μ.length :: ds).map some ++ List.replicate (g.ns - g.np) none = ρ := by rw [← hρ]; rfl
          simp only [mkI, call, hg, List.length_cons, hl2, if_true, hfr]
          generalize evB P (call P n) g.body ρ (μ ++ [O.ins c []]) = r at z
          have kk : ∀ μ', Kp (Own ρv ρ) (μ ++ [O.ins c []]) μ' → Kp no0 μ μ' := fun μ' k => ⟨Nat.le_trans (by simp) k.1, fun i a b _ => by
            rw [k.2 i a (by simp; omega) fun o => by have := ow i o; omega, List.getElem?_append_left b]⟩
          cases r with
          | nx ρ' μ' =>
            obtain ⟨b', w, q, q1, q2, q3⟩ := z
            simp only at q
            split at q
            · rename_i c fs e
              refine ⟨b', _, q, ?_, kk _ q2.kp, q3⟩
              obtain ⟨i, e1, e2, e3⟩ := q1.re.own 0 _ e
              have e4 := q1.slf 0 c fs e
              rw [e1] at e4
              cases e4
              exact ⟨e3.sub q3.l3 fun i h => .inl h, fun i e hw => by
                cases e
                exact Nat.lt_irrefl _ (hW _ hw)⟩
            · exact q.elim
          | ct ρ' μ' => obtain ⟨b', w, q, q1, q2, q3⟩ := z; exact q.elim
          | brk ρ' μ' => obtain ⟨b', w, q, q1, q2, q3⟩ := z; exact q.elim
          | ret d _ μ' => obtain ⟨b', w, q, q1, q2, q3⟩ := z; exact q.elim
          | exc c gs _ μ' =>
            obtain ⟨b', w, q, q1, q2, q3⟩ := z
            exact ⟨b', w, q, q1, kk _ q2, q3⟩
          | no => exact z
        · exact snd_bad
      · exact snd_bad
end Lt

set_option Elab.async false
set_option linter.all false
set_option maxRecDepth 100000
set_option maxHeartbeats 4000000
/-! Pv13: a law's def. -/
namespace Lt
open PySem L2
theorem law_pure {P : Pg} (dw : Dw P) (d0 : P.fns[0]? = some ⟨1, 3, dBegun⟩) {f m k b : Nat} {rest : LB} {ns : List Int} (hg : P.fns[f]? = some ⟨1, k + 2, .cons (.asg (.nm 1) (.fn 0 (.cons (.var 0) .nil))) rest⟩) (hn : ns.length ≤ 1000)
    (hb : b ≤ 100000000000000) (hQ : (pvB P (pcall P (m + 1)) (pinit P (m + 1)) rest (some (false, .rol ns.length) :: some (false, .drw) :: List.replicate k none)).All b (fun _ s => s = .ret (.bl true)) (fun _ _ _ => False)) :
    ∃ μ, call P (m + 2) f [.rol (ns.map D.int)] [] = .ok (.bl true) μ := by
  obtain ⟨d, μ, e, rfl, hD, hl⟩ := (begun_ok (P := P) (n := ns.length) (k := m) (ns := ns) d0 (Nat.le_refl _) (Nat.le_trans hn (by decide))).ex
  have s1 : evS P (call P (m + 1)) (.asg (.nm 1) (.fn 0 (.cons (.var 0) .nil))) (some (.rol (ns.map D.int)) :: none :: List.replicate k none) [] = .nx (some (.rol (ns.map D.int)) :: some (.ref 2) :: List.replicate k none) μ := by
    simp only [evS, evE, evA, R.bind, R.toS, List.getElem?_cons_zero, e, asgT, List.set]
  have key : ∀ (j : Nat) (b : Bool) (v : PV), (some (false, PV.rol ns.length) :: some (false, PV.drw) :: List.replicate k none)[j]? = some (some (b, v)) → b = false ∧ ((j = 0 ∧ v = .rol ns.length) ∨ (j = 1 ∧ v = .drw)) := fun j b v e => by
    match j, e with
    | 0, e => cases e; exact ⟨rfl, .inl ⟨rfl, rfl⟩⟩
    | 1, e => cases e; exact ⟨rfl, .inr ⟨rfl, rfl⟩⟩
    | j + 2, e =>
      have := List.mem_of_getElem? (show (List.replicate k none)[j]? = some (some (b, v)) from by simpa using e)
      rw [List.mem_replicate] at this
      cases this.2
  have no : ∀ (j : Nat) (v : PV), (some (false, PV.rol ns.length) :: some (false, PV.drw) :: List.replicate k none)[j]? ≠ some (some (true, v)) := fun j v e => by
    have := (key j _ v e).1
    cases this
  have hs : Sf no0 μ.length (some (false, PV.rol ns.length) :: some (false, PV.drw) :: List.replicate k none) (some (.rol (ns.map D.int)) :: some (.ref 2) :: List.replicate k none) μ := {
    re := ⟨by simp, fun j v e => by
      rcases (key j _ v e).2 with ⟨rfl, rfl⟩ | ⟨rfl, rfl⟩
      · exact ⟨_, rfl, ⟨_, rfl, by simp⟩, fre_not nofun⟩
      · refine ⟨_, rfl, rfl, fun i _ hw => ?_⟩
        rcases hw with hw | ⟨j, v, o, _⟩
        · exact hw
        · exact no _ _ o, fun j v e => absurd e (no _ _)⟩
    nd := fun j j' i v v' e => absurd e (no _ _)
    low := fun i ⟨j, v, o, _⟩ => absurd o (no _ _)
    bdA := fun i h => h.elim
    le := Nat.le_refl _
    slf := fun j c fs e => absurd e (no _ _) }
  have hd : Dr ns.length b μ := ⟨hn, 0, Int.le_refl _, hD, by
    have : B0 = 100000000000000 := rfl
    omega⟩
  have z := sndBl (P := P) (call_snd dw ns.length hn (m + 1)) rest no0 μ.length _ _ μ (by omega) hs b _ _ hd hQ
  have hr : (List.map some [D.rol (ns.map D.int)] ++ List.replicate (k + 2 - 1) none : Fr) = some (.rol (ns.map D.int)) :: none :: List.replicate k none := by
    simp [List.replicate_succ]
  rw [call]
  simp only [hg, List.length_cons, List.length_nil, if_true, hr]
  rw [evB, s1]
  simp only [RS.thn]
  generalize evB P (call P (m + 1)) rest (some (.rol (ns.map D.int)) :: some (.ref 2) :: List.replicate k none) μ = r at z
  cases r with
  | nx ρ' μ' => obtain ⟨_, _, q, _⟩ := z; cases q
  | ct ρ' μ' => obtain ⟨_, _, q, _⟩ := z; cases q
  | brk ρ' μ' => obtain ⟨_, _, q, _⟩ := z; cases q
  | ret d _ μ' =>
    obtain ⟨_, _, q, q1, _⟩ := z
    cases q
    obtain rfl : d = _ := q1.1
    exact ⟨_, rfl⟩
  | exc c gs _ μ' => obtain ⟨_, _, q, _⟩ := z; exact q.elim
  | no => exact z.elim

/-! ### rules for the pure evaluator -/
abbrev noE : EX := fun _ _ _ => False
/-- a tree, all of whose ends are as told, drawn by trying -/
def T.allB {α : Type} : T α → (α → Bool) → Bool
  | .ret a, q => q a
  | .drw n k, q => decide (0 < n) && decide (n < 1073741824) && (List.range n).all fun r => (k r).allB q
  | .exc _ _, _ => false
  | .bad, _ => false
def T.dep {α : Type} : T α → Nat → Bool
  | .ret _, _ => true
  | .drw n k, d => decide (0 < d) && (List.range n).all fun r => (k r).dep (d - 1)
  | .exc _ _, _ => true
  | .bad, _ => true
theorem T.All.mono {α : Type} {Q : Nat → α → Prop} {E : EX} (hq : ∀ b b' a, b ≤ b' → Q b a → Q b' a) (he : ∀ b b' c fs, b ≤ b' → E b c fs → E b' c fs) : ∀ {t : T α} {b b' : Nat}, b ≤ b' → t.All b Q E → t.All b' Q E
  | .ret _, _, _, hb, h => hq _ _ _ hb h
  | .exc _ _, _, _, hb, h => he _ _ _ _ hb h
  | .bad, _, _, _, h => h
  | .drw n k, b, b', hb, ⟨h1, h2, h3, h4⟩ => ⟨h1, h2, by omega, fun r hr => (h4 r hr).mono hq he (by omega)⟩
/-- all ends, with so many draws at most, whatever is drawn -/
def AllN {α : Type} (b : Nat) (t : T α) (Q : α → Prop) : Prop := t.All b (fun _ a => Q a) noE
theorem AllN.imp {α : Type} {b : Nat} {t : T α} {Q Q' : α → Prop} (h : AllN b t Q) (i : ∀ a, Q a → Q' a) : AllN b t Q' := T.All.imp (fun _ a => i a) (fun _ _ _ h => h) h
theorem AllN.le {α : Type} {b b' : Nat} {t : T α} {Q : α → Prop} (h : AllN b t Q) (hb : b ≤ b') : AllN b' t Q := T.All.mono (fun _ _ _ _ h => h) (fun _ _ _ _ _ h => h) hb h
theorem alln_ret {α : Type} {b : Nat} {a : α} {Q : α → Prop} (h : Q a) : AllN b (.ret a) Q := h
theorem all_split {α : Type} {Q : α → Prop} {R : Nat → α → Prop} {b2 : Nat} (hR : ∀ b' a, b2 ≤ b' → Q a → R b' a) : ∀ {t : T α} {b1 : Nat}, t.All b1 (fun _ a => Q a) noE → t.All (b1 + b2) R noE
  | .ret a, b1, h => hR _ a (Nat.le_add_left _ _) h
  | .exc _ _, _, h => h
  | .bad, _, h => h
  | .drw n k, b1, ⟨h1, h2, h3, h4⟩ => ⟨h1, h2, by omega, fun r hr => by
    have := all_split hR (h4 r hr)
    rw [show b1 + b2 - 1 = b1 - 1 + b2 by omega]
    exact this⟩
theorem AllN.bind {α β : Type} {b1 b2 : Nat} {t : T α} {f : α → T β} {Q : α → Prop} {Q' : β → Prop} (h : AllN b1 t Q) (hf : ∀ a, Q a → AllN b2 (f a) Q') : AllN (b1 + b2) (t.bind f) Q' := by
  refine all_bind.mpr (all_split (Q := Q) (fun b' a hb hq => ?_) h)
  exact (hf a hq).le hb
theorem AllN.bind0 {α β : Type} {b : Nat} {t : T α} {f : α → T β} {Q : α → Prop} {Q' : β → Prop} (h : AllN 0 t Q) (hf : ∀ a, Q a → AllN b (f a) Q') : AllN b (t.bind f) Q' := by
  have := AllN.bind h hf
  rwa [Nat.zero_add] at this
theorem alln_drw {α : Type} {b n : Nat} {k : Nat → T α} {Q : α → Prop} (h1 : 0 < n) (h2 : n < 1073741824) (h : ∀ r, r < n → AllN b (k r) Q) : AllN (b + 1) (.drw n k) Q := ⟨h1, h2, by omega, h⟩
/-- a for, by an invariant -/
theorem pfor_inv {body : PV → PFr → T PS} {c : Nat} (I : Nat → PFr → Prop) (Q : PS → Prop) : ∀ (vs : List PV) (k : Nat) (ρ : PFr), I k ρ →
    (∀ j v ρ, vs[j]? = some v → I (k + j) ρ → AllN c (body v ρ) fun s => match s with
      | .nx ρ' => I (k + j + 1) ρ'
      | .ct ρ' => I (k + j + 1) ρ'
      | .brk ρ' => Q (.nx ρ')
      | .ret v => Q (.ret v)) → (∀ ρ, I (k + vs.length) ρ → Q (.nx ρ)) → AllN (c * vs.length) (pforN body vs ρ) Q
  | [], k, ρ, h, _, hq => hq ρ h
  | v :: vs, k, ρ, h, hb, hq => by
    unfold pforN
    rw [List.length_cons, Nat.mul_succ, Nat.add_comm]
    refine AllN.bind (hb 0 v ρ rfl h) fun s hs => ?_
    have rc : ∀ ρ', I (k + 1) ρ' → AllN (c * vs.length) (pforN body vs ρ') Q := fun ρ' h' => pfor_inv I Q vs (k + 1) ρ' h' (fun j v ρ hj hi => by
      have z := hb (j + 1) v ρ (by simpa using hj) (by rwa [show k + 1 + j = k + (j + 1) by omega] at hi)
      rwa [show k + (j + 1) + 1 = k + 1 + j + 1 by omega] at z) fun ρ hi => hq ρ (by rwa [show k + 1 + vs.length = k + (vs.length + 1) by omega] at hi)
    cases s with
    | nx ρ' => exact rc ρ' hs
    | ct ρ' => exact rc ρ' hs
    | brk ρ' => exact alln_ret hs
    | ret v => exact alln_ret hs
end Lt

set_option Elab.async false
set_option linter.all false
set_option maxRecDepth 100000
set_option maxHeartbeats 4000000
/-! Pv14: trees tried out by the kernel. -/
namespace Lt
open PySem L2
mutual
def pvb : PV → PV → Bool
  | .non, w => (match w with | .non => true | _ => false)
  | .bl a, w => (match w with | .bl b => a == b | _ => false)
  | .int a, w => (match w with | .int b => a == b | _ => false)
  | .str a, w => (match w with | .str b => a == b | _ => false)
  | .tup a, w => (match w with | .tup b => pvbs a b | _ => false)
  | .lst a, w => (match w with | .lst b => pvbs a b | _ => false)
  | .dct a, w => (match w with | .dct b => pvbk a b | _ => false)
  | .exc a f m, w => (match w with | .exc b g n => a == b && pvbf f g && m == n | _ => false)
  | .ins a f, w => (match w with | .ins b g => a == b && pvbf f g | _ => false)
  | .drw, w => (match w with | .drw => true | _ => false)
  | .rol a, w => (match w with | .rol b => a == b | _ => false)
def pvbs : List PV → List PV → Bool
  | [], w => w.isEmpty
  | a :: r, w => (match w with | b :: s => pvb a b && pvbs r s | [] => false)
def pvbk : List (Key × PV) → List (Key × PV) → Bool
  | [], w => w.isEmpty
  | (k, a) :: r, w => (match w with | p :: s => decide (k = p.1) && pvb a p.2 && pvbk r s | [] => false)
def pvbf : List (Str × PV) → List (Str × PV) → Bool
  | [], w => w.isEmpty
  | (k, a) :: r, w => (match w with | p :: s => k == p.1 && pvb a p.2 && pvbf r s | [] => false)
end
mutual
theorem pvb_eq : ∀ (a b : PV), pvb a b = true → a = b
  | .non, b, h => by cases b <;> simp_all [pvb]
  | .bl _, b, h => by cases b <;> simp_all [pvb]
  | .int _, b, h => by cases b <;> simp_all [pvb]
  | .str _, b, h => by cases b <;> simp_all [pvb]
  | .drw, b, h => by cases b <;> simp_all [pvb]
  | .rol _, b, h => by cases b <;> simp_all [pvb]
  | .tup l, b, h => by
    cases b <;> simp only [pvb, Bool.false_eq_true] at h
    rw [pvbs_eq _ _ h]
  | .lst l, b, h => by
    cases b <;> simp only [pvb, Bool.false_eq_true] at h
    rw [pvbs_eq _ _ h]
  | .dct l, b, h => by
    cases b <;> simp only [pvb, Bool.false_eq_true] at h
    rw [pvbk_eq _ _ h]
  | .exc c l m, b, h => by
    cases b <;> simp only [pvb, Bool.false_eq_true, Bool.and_eq_true, beq_iff_eq] at h
    rw [pvbf_eq _ _ h.1.2, h.1.1, h.2]
  | .ins c l, b, h => by
    cases b <;> simp only [pvb, Bool.false_eq_true, Bool.and_eq_true, beq_iff_eq] at h
    rw [pvbf_eq _ _ h.2, h.1]
theorem pvbs_eq : ∀ (a b : List PV), pvbs a b = true → a = b
  | [], b, h => by cases b <;> simp_all [pvbs]
  | x :: a, b, h => by
    cases b <;> simp only [pvbs, Bool.false_eq_true, Bool.and_eq_true] at h
    rw [pvb_eq _ _ h.1, pvbs_eq _ _ h.2]
theorem pvbk_eq : ∀ (a b : List (Key × PV)), pvbk a b = true → a = b
  | [], b, h => by cases b <;> simp_all [pvbk]
  | (k, x) :: a, b, h => by
    cases b <;> simp only [pvbk, Bool.false_eq_true, Bool.and_eq_true, decide_eq_true_eq] at h
    rw [h.1.1, pvb_eq _ _ h.1.2, pvbk_eq _ _ h.2]
theorem pvbf_eq : ∀ (a b : List (Str × PV)), pvbf a b = true → a = b
  | [], b, h => by cases b <;> simp_all [pvbf]
  | (k, x) :: a, b, h => by
    cases b <;> simp only [pvbf, Bool.false_eq_true, Bool.and_eq_true, beq_iff_eq] at h
    rw [h.1.1, pvb_eq _ _ h.1.2, pvbf_eq _ _ h.2]
end
theorem allB_all {α : Type} {q : α → Bool} : ∀ {t : T α} {d : Nat}, t.allB q = true → t.dep d = true → AllN d t fun a => q a = true
  | .ret a, d, h, _ => h
  | .exc _ _, _, h, _ => by cases h
  | .bad, _, h, _ => by cases h
  | .drw n k, d, h, h' => by
    simp only [T.allB, Bool.and_eq_true, decide_eq_true_eq, List.all_eq_true, List.mem_range] at h
    simp only [T.dep, Bool.and_eq_true, decide_eq_true_eq, List.all_eq_true, List.mem_range] at h'
    exact ⟨h.1.1, h.1.2, h'.1, fun r hr => allB_all (h.2 r hr) (h'.2 r hr)⟩
/-- both at once -/
def T.tryB {α : Type} : T α → Nat → (α → Bool) → Bool
  | .ret a, _, q => q a
  | .drw n k, d, q => decide (0 < n) && decide (n < 1073741824) && decide (0 < d) && (List.range n).all fun r => (k r).tryB (d - 1) q
  | .exc _ _, _, _ => false
  | .bad, _, _ => false
theorem tryB_all {α : Type} {q : α → Bool} : ∀ {t : T α} {d : Nat}, t.tryB d q = true → AllN d t fun a => q a = true
  | .ret a, d, h => h
  | .exc _ _, _, h => by cases h
  | .bad, _, h => by cases h
  | .drw n k, d, h => by
    simp only [T.tryB, Bool.and_eq_true, decide_eq_true_eq, List.all_eq_true, List.mem_range] at h
    exact ⟨h.1.1.1, h.1.1.2, h.1.2, fun r hr => tryB_all (h.2 r hr)⟩
def mem1 (l : List PV) (v : PV) : Bool := l.any fun w => pvb w v
theorem mem1_in {l : List PV} {v : PV} (h : mem1 l v = true) : v ∈ l := by
  simp only [mem1, List.any_eq_true] at h
  obtain ⟨w, h1, h2⟩ := h
  rw [← pvb_eq w v h2]
  exact h1
theorem alln_thn {b1 b2 : Nat} {t : T PS} {f : PFr → T PS} {I : PFr → Prop} {Q : PS → Prop} (h : AllN b1 t fun s => ∃ ρ, s = .nx ρ ∧ I ρ) (hf : ∀ ρ, I ρ → AllN b2 (f ρ) Q) : AllN (b1 + b2) (t.thn f) Q := by
  refine AllN.bind h ?_
  rintro s ⟨ρ, rfl, hi⟩
  exact hf ρ hi
theorem pvB_app {P : Pg} {F : Nat → List PV → T PV} {I : Nat → Nat → List PV → T PV} {s : LS} {r : LB} {ρ : PFr} {b1 b2 : Nat} {J : PFr → Prop} {Q : PS → Prop} (h : AllN b1 (pvS P F I s ρ) fun s => ∃ ρ, s = .nx ρ ∧ J ρ) (hf : ∀ ρ, J ρ → AllN b2 (pvB P F I r ρ) Q) : AllN (b1 + b2) (pvB P F I (.cons s r) ρ) Q := by
  rw [pvB]
  exact alln_thn h hf
def LB.app : LB → LB → LB
  | .nil, b => b
  | .cons s r, b => .cons s (r.app b)
theorem thn_assoc {t : T PS} {f g : PFr → T PS} : (t.thn f).thn g = t.thn fun ρ => (f ρ).thn g := by
  unfold T.thn
  induction t with
  | ret s => cases s <;> rfl
  | drw n k ih => simp only [T.bind]; congr 1; funext r; exact ih r
  | exc c fs => rfl
  | bad => rfl
theorem pvB_cat {P : Pg} {F : Nat → List PV → T PV} {I : Nat → Nat → List PV → T PV} : ∀ {a b : LB} {ρ : PFr}, pvB P F I (a.app b) ρ = (pvB P F I a ρ).thn fun ρ => pvB P F I b ρ
  | .nil, b, ρ => by simp only [LB.app, pvB]; rfl
  | .cons s r, b, ρ => by
    simp only [LB.app, pvB, thn_assoc]
    congr 1
    funext ρ
    exact pvB_cat
end Lt

set_option Elab.async false
set_option linter.all false
set_option maxRecDepth 100000
namespace Lt.K01
open PySem Lt
def T0 : List Ty := [.cls 13, .cls 12, .cls 17, .cls 4, .cls 15, .cls 9, .cls 14, .cls 16, .cls 3, .cls 19, .cls 10, .cls 7, .cls 6, .cls 11, .cls 5, .cls 1, .cls 18, .cls 8, .cls 2, .cls 0, .py "ValueError"]
def G0 : GT := [("_law_begun", .fn 0 ["_law_script"]), ("_law_mixed", .fn 1 ["_law_draw"]), ("_law_take", .fn 2 ["_law_draw", "_law_size"]), ("_law_pick", .fn 3 ["_law_draw", "_law_some"]), ("_law_odd", .fn 4 ["_law_draw"]), ("_law_marks_of", .fn 5 ["_law_error"]), ("_law_is_alone", .fn 6 ["_law_error", "_law_place"]), ("_law_alone", .fn 7 ["_law_errors"]), ("_law_told_of", .fn 8 ["_law_errors"]), ("law", .fn 9 ["_law_script"]), ("PoolError", .cls 0 ["_"] false), ("BadKind", .cls 1 ["part"] true), ("BadBook", .cls 2 ["part"] true), ("BadWash", .cls 3 ["_"] false), ("NoKind", .cls 4 ["kind"] true), ("BadNumber", .cls 5 ["number"] true), ("BadRun", .cls 6 ["at"] true), ("BadSight", .cls 7 ["_"] false), ("BadHow", .cls 8 ["_"] false), ("NoField", .cls 9 ["field"] true), ("BadSights", .cls 10 ["at"] true), ("BadOffered", .cls 11 ["at"] true), ("TooMany", .cls 12 ["most"] true), ("Unlike", .cls 13 ["_"] false), ("Empty", .cls 14 ["_"] false), ("NoHand", .cls 15 ["hand"] true), ("Barred", .cls 16 ["_"] false), ("NothingDone", .cls 17 ["_"] false), ("BadJournal", .cls 18 ["at"] true), ("BadText", .cls 19 ["line"] true)]
/-- _law_begun -/
def b0 : LB := .cons (.asg (.nm 1) (.comp [2] (.nm 2) (.exp (.var 0)) (.cons (.cmp .GtE (.bi .abs (.cons (.var 2) .nil)) (.bin .Pow (.cst (.int 10)) (.cst (.int 18)))) .nil) (.bin .Sub (.bi .abs (.cons (.var 2) .nil)) (.bin .Pow (.cst (.int 10)) (.cst (.int 18)))))) (.cons (.ret (.dct (.cons (.cst (.str "wide")) (.cons (.var 1) (.cons (.cst (.str "cells")) (.cons (.comp [2] (.nm 2) (.exp (.var 0)) (.nil) (.bin .Mod (.bi .int (.cons (.bi .abs (.cons (.var 2) .nil)) .nil)) (.cst (.int 2147483629)))) (.cons (.cst (.str "rest")) (.cons (.cst (.int 0)) (.cons (.cst (.str "turn")) (.cons (.cst (.int 0)) .nil)))))))))) .nil)
/-- _law_mixed -/
def b1 : LB := .cons (.par [1, 2] (.cons (.bin .Add (.ix (.var 0) (.cst (.str "turn"))) (.cst (.int 1))) (.cons (.cst (.int 0)) .nil))) (.cons (.asg (.sub (.var 0) (.cst (.str "turn"))) (.var 1)) (.cons (.for (.nm 3) (.exp (.lst (.cons (.cst (.int 2147483629)) (.cons (.cst (.int 2147483587)) (.cons (.cst (.int 2147483579)) (.cons (.cst (.int 2147483563)) .nil)))))) (.cons (.asg (.nm 4) (.bin .Add (.bin .Mult (.cst (.int 50021)) (.var 1)) (.bin .FloorDiv (.var 3) (.cst (.int 17))))) (.cons (.for (.nm 5) (.exp (.ix (.var 0) (.cst (.str "cells")))) (.cons (.asg (.nm 4) (.bin .Mod (.bi .int (.cons (.bin .Add (.bin .Add (.bin .Mult (.var 4) (.cst (.int 48271))) (.var 5)) (.var 1)) .nil)) (.var 3))) .nil)) (.cons (.asg (.nm 2) (.bin .Add (.bin .Mult (.var 2) (.cst (.int 2147483647))) (.bin .Mod (.bi .int (.cons (.bin .Pow (.var 4) (.cst (.int 5))) .nil)) (.var 3)))) .nil)))) (.cons (.ret (.var 2)) .nil)))
/-- _law_take -/
def b2 : LB := .cons (.ite (.cmp .Eq (.ix (.var 0) (.cst (.str "rest"))) (.cst (.int 0))) (.cons (.asg (.sub (.var 0) (.cst (.str "rest"))) (.ite (.cmp .NotEq (.ix (.var 0) (.cst (.str "wide"))) (.lst (.nil))) (.meth (.ix (.var 0) (.cst (.str "wide"))) "pop" (.cons (.cst (.int 0)) .nil)) (.fn 1 (.cons (.var 0) .nil)))) .nil) (.nil)) (.cons (.asg (.nm 2) (.bin .Mod (.bi .int (.cons (.ix (.var 0) (.cst (.str "rest"))) .nil)) (.var 1))) (.cons (.asg (.sub (.var 0) (.cst (.str "rest"))) (.bin .FloorDiv (.ix (.var 0) (.cst (.str "rest"))) (.var 1))) (.cons (.ret (.var 2)) .nil)))
/-- _law_pick -/
def b3 : LB := .cons (.ret (.ix (.var 1) (.fn 2 (.cons (.var 0) (.cons (.bi .len (.cons (.var 1) .nil)) .nil))))) .nil
/-- _law_odd -/
def b4 : LB := .cons (.asg (.nm 1) (.lst (.cons (.cst (.non)) (.cons (.cst (.bl true)) (.cons (.cst (.bl false)) (.cons (.cst (.int 0)) (.cons (.cst (.int 1)) (.cons (.neg (.cst (.int 1))) (.cons (.bin .Pow (.cst (.int 10)) (.cst (.int 20))) (.cons (.cst (.str "")) (.cons (.cst (.str "a")) (.cons (.cst (.str "list")) (.cons (.cst (.str "held")) (.cons (.tup (.nil)) (.cons (.tup (.cons (.cst (.str "a")) .nil)) (.cons (.tup (.cons (.cst (.str "take")) (.cons (.cst (.str "a")) .nil))) (.cons (.lst (.nil)) (.cons (.dct (.nil)) (.cons (.tup (.cons (.tup (.nil)) .nil)) .nil))))))))))))))))))) (.cons (.asg (.nm 1) (.bin .Add (.var 1) (.lst (.cons (.tup (.cons (.cst (.str "give")) (.cons (.cst (.int 0)) .nil))) (.cons (.tup (.cons (.cst (.str "give")) (.cons (.cst (.bl true)) .nil))) (.cons (.lst (.cons (.cst (.str "a")) .nil)) (.cons (.dct (.cons (.cst (.str "a")) (.cons (.cst (.str "list")) .nil))) (.cons (.tup (.cons (.cst (.str "a")) (.cons (.cst (.str "b")) .nil))) (.cons (.tup (.cons (.tup (.nil)) (.cons (.tup (.nil)) .nil))) (.cons (.cst (.str "A b")) (.cons (.cst (.str "given")) .nil))))))))))) (.cons (.ret (.fn 3 (.cons (.var 0) (.cons (.var 1) .nil)))) .nil))
/-- _law_marks_of -/
def b5 : LB := .cons (.asg (.nm 1) (.lst (.cons (.isi (.var 0) [.cls 2]) (.cons (.isi (.var 0) [.cls 8]) (.cons (.isi (.var 0) [.cls 18]) .nil))))) (.cons (.asg (.nm 1) (.bin .Add (.var 1) (.lst (.cons (.isi (.var 0) [.cls 1]) (.cons (.isi (.var 0) [.cls 5]) (.cons (.isi (.var 0) [.cls 11]) .nil)))))) (.cons (.asg (.nm 1) (.bin .Add (.var 1) (.lst (.cons (.isi (.var 0) [.cls 6]) (.cons (.isi (.var 0) [.cls 7]) (.cons (.isi (.var 0) [.cls 10]) .nil)))))) (.cons (.asg (.nm 1) (.bin .Add (.var 1) (.lst (.cons (.isi (.var 0) [.cls 19]) (.cons (.isi (.var 0) [.cls 3]) (.cons (.isi (.var 0) [.cls 16]) .nil)))))) (.cons (.asg (.nm 1) (.bin .Add (.var 1) (.lst (.cons (.isi (.var 0) [.cls 14]) (.cons (.isi (.var 0) [.cls 9]) (.cons (.isi (.var 0) [.cls 15]) .nil)))))) (.cons (.asg (.nm 1) (.bin .Add (.var 1) (.lst (.cons (.isi (.var 0) [.cls 4]) (.cons (.isi (.var 0) [.cls 17]) (.cons (.isi (.var 0) [.cls 12]) .nil)))))) (.cons (.ret (.bin .Add (.var 1) (.lst (.cons (.isi (.var 0) [.cls 13]) .nil)))) .nil))))))
/-- _law_is_alone -/
def b6 : LB := .cons (.ite (.or (.not (.isi (.var 0) [.cls 0])) (.not (.isi (.var 0) [.py "ValueError"]))) (.cons (.ret (.cst (.bl false))) .nil) (.nil)) (.cons (.ret (.cmp .Eq (.fn 5 (.cons (.var 0) .nil)) (.comp [2] (.nm 2) (.rng (.cst (.int 19))) (.nil) (.cmp .Eq (.var 2) (.var 1))))) .nil)
/-- _law_alone -/
def b7 : LB := .cons (.for (.tp [1, 2]) (.enum (.var 0)) (.cons (.ite (.not (.fn 6 (.cons (.var 2) (.cons (.var 1) .nil)))) (.cons (.ret (.cst (.bl false))) .nil) (.nil)) .nil)) (.cons (.ret (.cst (.bl true))) .nil)
/-- _law_told_of -/
def b8 : LB := .cons (.asg (.nm 1) (.lst (.cons (.attr (.ix (.var 0) (.cst (.int 0))) "part") (.cons (.attr (.ix (.var 0) (.cst (.int 2))) "at") (.cons (.attr (.ix (.var 0) (.cst (.int 3))) "part") (.cons (.attr (.ix (.var 0) (.cst (.int 4))) "number") (.cons (.attr (.ix (.var 0) (.cst (.int 5))) "at") (.cons (.attr (.ix (.var 0) (.cst (.int 6))) "at") (.cons (.attr (.ix (.var 0) (.cst (.int 8))) "at") .nil))))))))) (.cons (.ret (.bin .Add (.var 1) (.lst (.cons (.attr (.ix (.var 0) (.cst (.int 9))) "line") (.cons (.attr (.ix (.var 0) (.cst (.int 13))) "field") (.cons (.attr (.ix (.var 0) (.cst (.int 14))) "hand") (.cons (.attr (.ix (.var 0) (.cst (.int 15))) "kind") (.cons (.attr (.ix (.var 0) (.cst (.int 17))) "most") .nil)))))))) .nil)
/-- law -/
def b9 : LB := .cons (.asg (.nm 1) (.fn 0 (.cons (.var 0) .nil))) (.cons (.for (.nm 2) (.rng (.bin .Add (.cst (.int 2)) (.bi .min2 (.cons (.bi .len (.cons (.var 0) .nil)) (.cons (.cst (.int 8)) .nil))))) (.cons (.par [3, 4] (.cons (.fn 4 (.cons (.var 1) .nil)) (.cons (.fn 4 (.cons (.var 1) .nil)) .nil))) (.cons (.asg (.nm 5) (.lst (.cons (.mk 2 (.cons (.var 3) .nil)) (.cons (.mk 8 (.cons (.cst (.str "told")) .nil)) (.cons (.mk 18 (.cons (.var 3) .nil)) (.cons (.mk 1 (.cons (.var 3) .nil)) (.cons (.mk 5 (.cons (.var 3) .nil)) (.cons (.mk 11 (.cons (.var 3) .nil)) .nil)))))))) (.cons (.asg (.nm 5) (.bin .Add (.var 5) (.lst (.cons (.mk 6 (.cons (.var 3) .nil)) (.cons (.mk 7 (.cons (.cst (.str "told")) .nil)) (.cons (.mk 10 (.cons (.var 3) .nil)) (.cons (.mk 19 (.cons (.var 3) .nil)) (.cons (.mk 3 (.cons (.cst (.str "told")) .nil)) (.cons (.mk 16 (.cons (.cst (.str "told")) .nil)) .nil))))))))) (.cons (.asg (.nm 5) (.bin .Add (.var 5) (.lst (.cons (.mk 14 (.cons (.cst (.str "told")) .nil)) (.cons (.mk 9 (.cons (.var 3) .nil)) (.cons (.mk 15 (.cons (.var 3) .nil)) (.cons (.mk 4 (.cons (.var 3) .nil)) (.cons (.mk 17 (.cons (.cst (.str "told")) .nil)) (.cons (.mk 12 (.cons (.var 3) .nil)) .nil))))))))) (.cons (.expr (.meth (.var 5) "append" (.cons (.mk 13 (.cons (.cst (.str "told")) .nil)) .nil))) (.cons (.ite (.or (.not (.fn 7 (.cons (.var 5) .nil))) (.cmp .NotEq (.bi .repr (.cons (.fn 8 (.cons (.var 5) .nil)) .nil)) (.bi .repr (.cons (.bin .Mult (.lst (.cons (.var 3) .nil)) (.cst (.int 12))) .nil)))) (.cons (.ret (.cst (.bl false))) .nil) (.nil)) (.cons (.asg (.nm 6) (.lst (.cons (.mk 2 (.cons (.var 4) .nil)) (.cons (.mk 8 (.cons (.cst (.str "")) .nil)) (.cons (.mk 18 (.cons (.var 4) .nil)) (.cons (.mk 1 (.cons (.var 4) .nil)) (.cons (.mk 5 (.cons (.var 4) .nil)) .nil))))))) (.cons (.asg (.nm 6) (.bin .Add (.var 6) (.lst (.cons (.mk 11 (.cons (.var 4) .nil)) (.cons (.mk 6 (.cons (.var 4) .nil)) (.cons (.mk 7 (.cons (.cst (.str "")) .nil)) (.cons (.mk 10 (.cons (.var 4) .nil)) (.cons (.mk 19 (.cons (.var 4) .nil)) .nil)))))))) (.cons (.asg (.nm 6) (.bin .Add (.var 6) (.lst (.cons (.mk 3 (.cons (.cst (.str "")) .nil)) (.cons (.mk 16 (.cons (.cst (.str "")) .nil)) (.cons (.mk 14 (.cons (.cst (.str "")) .nil)) (.cons (.mk 9 (.cons (.var 4) .nil)) (.cons (.mk 15 (.cons (.var 4) .nil)) (.cons (.mk 4 (.cons (.var 4) .nil)) .nil))))))))) (.cons (.asg (.nm 6) (.bin .Add (.var 6) (.lst (.cons (.mk 17 (.cons (.cst (.str "")) .nil)) (.cons (.mk 12 (.cons (.var 4) .nil)) (.cons (.mk 13 (.cons (.cst (.str "")) .nil)) .nil)))))) (.cons (.ite (.or (.not (.fn 7 (.cons (.var 6) .nil))) (.cmp .NotEq (.bi .repr (.cons (.fn 8 (.cons (.var 6) .nil)) .nil)) (.bi .repr (.cons (.bin .Mult (.lst (.cons (.var 4) .nil)) (.cst (.int 12))) .nil)))) (.cons (.ret (.cst (.bl false))) .nil) (.nil)) .nil)))))))))))) (.cons (.asg (.nm 7) (.mk 0 (.cons (.cst (.str "told")) .nil))) (.cons (.asg (.nm 8) (.comp [9] (.nm 9) (.exp (.lst (.cons (.mk 8 (.cons (.cst (.str "told")) .nil)) (.cons (.mk 7 (.cons (.cst (.str "told")) .nil)) (.cons (.mk 3 (.cons (.cst (.str "told")) .nil)) (.cons (.mk 16 (.cons (.cst (.str "told")) .nil)) (.cons (.var 7) .nil))))))) (.nil) (.bi .str (.cons (.var 9) .nil)))) (.cons (.asg (.nm 8) (.bin .Add (.var 8) (.comp [9] (.nm 9) (.exp (.lst (.cons (.mk 14 (.cons (.cst (.str "told")) .nil)) (.cons (.mk 17 (.cons (.cst (.str "told")) .nil)) (.cons (.mk 13 (.cons (.cst (.str "told")) .nil)) .nil))))) (.nil) (.bi .str (.cons (.var 9) .nil))))) (.cons (.ret (.and (.cmp .Eq (.var 8) (.bin .Mult (.lst (.cons (.cst (.str "told")) .nil)) (.cst (.int 8)))) (.and (.cmp .NotIn (.cst (.bl true)) (.fn 5 (.cons (.var 7) .nil))) (.isi (.var 7) [.py "ValueError"])))) .nil)))))
def N0 : List Str := ["_law_script", "_law_wide", "_law_cell"]
def N1 : List Str := ["_law_draw", "_law_turn", "_law_found", "_law_prime", "_law_blend", "_law_cell"]
def N2 : List Str := ["_law_draw", "_law_size", "_law_found"]
def N3 : List Str := ["_law_draw", "_law_some"]
def N4 : List Str := ["_law_draw", "_law_some"]
def N5 : List Str := ["_law_error", "_law_found"]
def N6 : List Str := ["_law_error", "_law_place", "_law_k"]
def N7 : List Str := ["_law_errors", "_law_k", "_law_error"]
def N8 : List Str := ["_law_errors", "_law_found"]
def N9 : List Str := ["_law_script", "_law_draw", "_law_turn", "_law_uno", "_law_duo", "_law_made", "_law_more", "_law_plain", "_law_said", "_law_error"]
def fns0 : List LFn := [⟨1, 3, b0⟩, ⟨1, 6, b1⟩, ⟨2, 3, b2⟩, ⟨2, 2, b3⟩, ⟨1, 2, b4⟩, ⟨1, 2, b5⟩, ⟨2, 3, b6⟩, ⟨1, 3, b7⟩, ⟨1, 2, b8⟩, ⟨1, 10, b9⟩]
def cls0 : List LCls := [⟨true, [], none, none, [], [], []⟩, ⟨true, [0], none, some "part", ["part"], [], []⟩, ⟨true, [0], none, some "part", ["part"], [], []⟩, ⟨true, [0], none, none, [], [], []⟩, ⟨true, [0], none, some "kind", ["kind"], [], []⟩, ⟨true, [0], none, some "number", ["number"], [], []⟩, ⟨true, [0], none, some "at", ["at"], [], []⟩, ⟨true, [0], none, none, [], [], []⟩, ⟨true, [0], none, none, [], [], []⟩, ⟨true, [0], none, some "field", ["field"], [], []⟩, ⟨true, [0], none, some "at", ["at"], [], []⟩, ⟨true, [0], none, some "at", ["at"], [], []⟩, ⟨true, [0], none, some "most", ["most"], [], []⟩, ⟨true, [0], none, none, [], [], []⟩, ⟨true, [0], none, none, [], [], []⟩, ⟨true, [0], none, some "hand", ["hand"], [], []⟩, ⟨true, [0], none, none, [], [], []⟩, ⟨true, [0], none, none, [], [], []⟩, ⟨true, [0], none, some "at", ["at"], [], []⟩, ⟨true, [0], none, some "line", ["line"], [], []⟩]
def P0 : Pg := ⟨fns0, cls0, 100000⟩
end Lt.K01

set_option Elab.async false
set_option linter.all false
set_option maxRecDepth 100000
set_option maxHeartbeats 0
namespace Lt.K01
open PySem Lt
def takeB : Nat → LB → LB
  | n + 1, .cons s r => .cons s (takeB n r)
  | _, _ => .nil
def dropB : Nat → LB → LB
  | n + 1, .cons _ r => dropB n r
  | _, b => b
def tB : LB := match b9 with
  | .cons _ (.cons (.for _ _ B) _) => B
  | _ => .nil
def par : LS := .par [3, 4] (.cons (.fn 4 (.cons (.var 1) .nil)) (.cons (.fn 4 (.cons (.var 1) .nil)) .nil))
def bA : LB := takeB 5 (dropB 1 tB)
def bB : LB := dropB 6 tB
def bR : LB := dropB 2 b9
theorem tB_eq : tB = .cons par (bA.app bB) := rfl
theorem b9_eq : b9 = .cons (.asg (.nm 1) (.fn 0 (.cons (.var 0) .nil))) (.cons (.for (.nm 2) (.rng (.bin .Add (.cst (.int 2)) (.bi .min2 (.cons (.bi .len (.cons (.var 0) .nil)) (.cons (.cst (.int 8)) .nil))))) tB) bR) := rfl
def s (x : Str) : PV := .str x
def odds : List PV := [.non, .bl true, .bl false, .int 0, .int 1, .int (-1), .int (10 ^ 20), s "", s "a", s "list", s "held", .tup [], .tup [s "a"], .tup [s "take", s "a"], .lst [], .dct [], .tup [.tup []],
  .tup [s "give", .int 0], .tup [s "give", .bl true], .lst [s "a"], .dct [(.inr "a", s "list")], .tup [s "a", s "b"], .tup [.tup [], .tup []], s "A b", s "given"]
abbrev F0 := pcall P0 39
abbrev I0 := pinit P0 39
theorem odd_ok : AllN 1 (F0 4 [.drw]) (· ∈ odds) := (tryB_all (q := mem1 odds) (by kernel_rfl)).imp fun _ h => mem1_in h
def slot (i : Nat) : T PS → Option (Bool × PV)
  | .ret (.nx ρ) => match ρ[i]? with
    | some o => o
    | none => none
  | _ => none
def okA (v : PV) : Prop := ∀ (n : Nat) (s2 s4 s5 s6 : Option (Bool × PV)), pvB P0 F0 I0 bA [some (false, .rol n), some (false, .drw), s2, some (false, v), s4, s5, s6, none, none, none] =
  .ret (.nx [some (false, .rol n), some (false, .drw), s2, some (false, v), s4, slot 5 (pvB P0 F0 I0 bA [some (false, .rol n), some (false, .drw), s2, some (false, v), s4, s5, s6, none, none, none]), s6, none, none, none])
def okB (v : PV) : Prop := ∀ (n : Nat) (s2 s3 s5 s6 : Option (Bool × PV)), pvB P0 F0 I0 bB [some (false, .rol n), some (false, .drw), s2, s3, some (false, v), s5, s6, none, none, none] =
  .ret (.nx [some (false, .rol n), some (false, .drw), s2, s3, some (false, v), s5, slot 6 (pvB P0 F0 I0 bB [some (false, .rol n), some (false, .drw), s2, s3, some (false, v), s5, s6, none, none, none]), none, none, none])
end Lt.K01

set_option Elab.async false
set_option linter.all false
set_option maxRecDepth 100000
set_option maxHeartbeats 0
namespace Lt.K01
open PySem Lt
theorem okA_0 : okA (odds.getD 0 .non) := by intro n s2 s4 s5 s6; kernel_rfl
theorem okB_0 : okB (odds.getD 0 .non) := by intro n s2 s4 s5 s6; kernel_rfl
theorem okA_1 : okA (odds.getD 1 .non) := by intro n s2 s4 s5 s6; kernel_rfl
theorem okB_1 : okB (odds.getD 1 .non) := by intro n s2 s4 s5 s6; kernel_rfl
theorem okA_2 : okA (odds.getD 2 .non) := by intro n s2 s4 s5 s6; kernel_rfl
theorem okB_2 : okB (odds.getD 2 .non) := by intro n s2 s4 s5 s6; kernel_rfl
theorem okA_3 : okA (odds.getD 3 .non) := by intro n s2 s4 s5 s6; kernel_rfl
theorem okB_3 : okB (odds.getD 3 .non) := by intro n s2 s4 s5 s6; kernel_rfl
theorem okA_4 : okA (odds.getD 4 .non) := by intro n s2 s4 s5 s6; kernel_rfl
theorem okB_4 : okB (odds.getD 4 .non) := by intro n s2 s4 s5 s6; kernel_rfl
theorem okA_5 : okA (odds.getD 5 .non) := by intro n s2 s4 s5 s6; kernel_rfl
theorem okB_5 : okB (odds.getD 5 .non) := by intro n s2 s4 s5 s6; kernel_rfl
theorem okA_6 : okA (odds.getD 6 .non) := by intro n s2 s4 s5 s6; kernel_rfl
theorem okB_6 : okB (odds.getD 6 .non) := by intro n s2 s4 s5 s6; kernel_rfl
theorem okA_7 : okA (odds.getD 7 .non) := by intro n s2 s4 s5 s6; kernel_rfl
theorem okB_7 : okB (odds.getD 7 .non) := by intro n s2 s4 s5 s6; kernel_rfl
theorem okA_8 : okA (odds.getD 8 .non) := by intro n s2 s4 s5 s6; kernel_rfl
theorem okB_8 : okB (odds.getD 8 .non) := by intro n s2 s4 s5 s6; kernel_rfl
theorem okA_9 : okA (odds.getD 9 .non) := by intro n s2 s4 s5 s6; kernel_rfl
theorem okB_9 : okB (odds.getD 9 .non) := by intro n s2 s4 s5 s6; kernel_rfl
theorem okA_10 : okA (odds.getD 10 .non) := by intro n s2 s4 s5 s6; kernel_rfl
theorem okB_10 : okB (odds.getD 10 .non) := by intro n s2 s4 s5 s6; kernel_rfl
theorem okA_11 : okA (odds.getD 11 .non) := by intro n s2 s4 s5 s6; kernel_rfl
theorem okB_11 : okB (odds.getD 11 .non) := by intro n s2 s4 s5 s6; kernel_rfl
theorem okA_12 : okA (odds.getD 12 .non) := by intro n s2 s4 s5 s6; kernel_rfl
theorem okB_12 : okB (odds.getD 12 .non) := by intro n s2 s4 s5 s6; kernel_rfl
theorem okA_13 : okA (odds.getD 13 .non) := by intro n s2 s4 s5 s6; kernel_rfl
theorem okB_13 : okB (odds.getD 13 .non) := by intro n s2 s4 s5 s6; kernel_rfl
theorem okA_14 : okA (odds.getD 14 .non) := by intro n s2 s4 s5 s6; kernel_rfl
theorem okB_14 : okB (odds.getD 14 .non) := by intro n s2 s4 s5 s6; kernel_rfl
theorem okA_15 : okA (odds.getD 15 .non) := by intro n s2 s4 s5 s6; kernel_rfl
theorem okB_15 : okB (odds.getD 15 .non) := by intro n s2 s4 s5 s6; kernel_rfl
theorem okA_16 : okA (odds.getD 16 .non) := by intro n s2 s4 s5 s6; kernel_rfl
theorem okB_16 : okB (odds.getD 16 .non) := by intro n s2 s4 s5 s6; kernel_rfl
theorem okA_17 : okA (odds.getD 17 .non) := by intro n s2 s4 s5 s6; kernel_rfl
theorem okB_17 : okB (odds.getD 17 .non) := by intro n s2 s4 s5 s6; kernel_rfl
theorem okA_18 : okA (odds.getD 18 .non) := by intro n s2 s4 s5 s6; kernel_rfl
theorem okB_18 : okB (odds.getD 18 .non) := by intro n s2 s4 s5 s6; kernel_rfl
theorem okA_19 : okA (odds.getD 19 .non) := by intro n s2 s4 s5 s6; kernel_rfl
theorem okB_19 : okB (odds.getD 19 .non) := by intro n s2 s4 s5 s6; kernel_rfl
theorem okA_20 : okA (odds.getD 20 .non) := by intro n s2 s4 s5 s6; kernel_rfl
theorem okB_20 : okB (odds.getD 20 .non) := by intro n s2 s4 s5 s6; kernel_rfl
theorem okA_21 : okA (odds.getD 21 .non) := by intro n s2 s4 s5 s6; kernel_rfl
theorem okB_21 : okB (odds.getD 21 .non) := by intro n s2 s4 s5 s6; kernel_rfl
theorem okA_22 : okA (odds.getD 22 .non) := by intro n s2 s4 s5 s6; kernel_rfl
theorem okB_22 : okB (odds.getD 22 .non) := by intro n s2 s4 s5 s6; kernel_rfl
theorem okA_23 : okA (odds.getD 23 .non) := by intro n s2 s4 s5 s6; kernel_rfl
theorem okB_23 : okB (odds.getD 23 .non) := by intro n s2 s4 s5 s6; kernel_rfl
theorem okA_24 : okA (odds.getD 24 .non) := by intro n s2 s4 s5 s6; kernel_rfl
theorem okB_24 : okB (odds.getD 24 .non) := by intro n s2 s4 s5 s6; kernel_rfl
theorem all25 {p : PV → Prop} (h0 : p (odds.getD 0 .non)) (h1 : p (odds.getD 1 .non)) (h2 : p (odds.getD 2 .non)) (h3 : p (odds.getD 3 .non)) (h4 : p (odds.getD 4 .non)) (h5 : p (odds.getD 5 .non)) (h6 : p (odds.getD 6 .non)) (h7 : p (odds.getD 7 .non)) (h8 : p (odds.getD 8 .non)) (h9 : p (odds.getD 9 .non)) (h10 : p (odds.getD 10 .non)) (h11 : p (odds.getD 11 .non)) (h12 : p (odds.getD 12 .non)) (h13 : p (odds.getD 13 .non)) (h14 : p (odds.getD 14 .non)) (h15 : p (odds.getD 15 .non)) (h16 : p (odds.getD 16 .non)) (h17 : p (odds.getD 17 .non)) (h18 : p (odds.getD 18 .non)) (h19 : p (odds.getD 19 .non)) (h20 : p (odds.getD 20 .non)) (h21 : p (odds.getD 21 .non)) (h22 : p (odds.getD 22 .non)) (h23 : p (odds.getD 23 .non)) (h24 : p (odds.getD 24 .non)) (v : PV) (h : v ∈ odds) : p v := by
  simp only [odds, List.mem_cons, List.not_mem_nil, or_false] at h
  rcases h with rfl | rfl | rfl | rfl | rfl | rfl | rfl | rfl | rfl | rfl | rfl | rfl | rfl | rfl | rfl | rfl | rfl | rfl | rfl | rfl | rfl | rfl | rfl | rfl | rfl
  · exact h0
  · exact h1
  · exact h2
  · exact h3
  · exact h4
  · exact h5
  · exact h6
  · exact h7
  · exact h8
  · exact h9
  · exact h10
  · exact h11
  · exact h12
  · exact h13
  · exact h14
  · exact h15
  · exact h16
  · exact h17
  · exact h18
  · exact h19
  · exact h20
  · exact h21
  · exact h22
  · exact h23
  · exact h24
theorem okA_all (v : PV) (h : v ∈ odds) : okA v := all25 okA_0 okA_1 okA_2 okA_3 okA_4 okA_5 okA_6 okA_7 okA_8 okA_9 okA_10 okA_11 okA_12 okA_13 okA_14 okA_15 okA_16 okA_17 okA_18 okA_19 okA_20 okA_21 okA_22 okA_23 okA_24 v h
theorem okB_all (v : PV) (h : v ∈ odds) : okB v := all25 okB_0 okB_1 okB_2 okB_3 okB_4 okB_5 okB_6 okB_7 okB_8 okB_9 okB_10 okB_11 okB_12 okB_13 okB_14 okB_15 okB_16 okB_17 okB_18 okB_19 okB_20 okB_21 okB_22 okB_23 okB_24 v h
end Lt.K01

set_option Elab.async false
set_option linter.all false
set_option maxRecDepth 100000
set_option maxHeartbeats 1000000
namespace Lt.K01
open PySem Lt
theorem cat_ok {P : Pg} {F : Nat → List PV → T PV} {I : Nat → Nat → List PV → T PV} {a b : LB} {ρ ρ1 ρ2 : PFr} (h1 : pvB P F I a ρ = .ret (.nx ρ1)) (h2 : pvB P F I b ρ1 = .ret (.nx ρ2)) : pvB P F I (a.app b) ρ = .ret (.nx ρ2) := by
  rw [pvB_cat, h1]
  exact h2
/-- one turn -/
def Iv (n : Nat) (ρ : PFr) : Prop := ∃ s2 s3 s4 s5 s6, ρ = [some (false, .rol n), some (false, .drw), s2, s3, s4, s5, s6, none, none, none]
theorem turn_ok (n : Nat) (ρ : PFr) (h : Iv n ρ) : AllN 2 (pvB P0 F0 I0 tB ρ) fun s => ∃ ρ', s = .nx ρ' ∧ Iv n ρ' := by
  obtain ⟨s2, s3, s4, s5, s6, rfl⟩ := h
  rw [tB_eq]
  refine pvB_app (b1 := 2) (b2 := 0) (J := fun ρ => ∃ u v, u ∈ odds ∧ v ∈ odds ∧ ρ = [some (false, .rol n), some (false, .drw), s2, some (false, u), some (false, v), s5, s6, none, none, none]) ?_ ?_
  · have e : rel [some (false, PV.rol n), some (false, .drw), s2, s3, s4, s5, s6, none, none, none] (leakA (.cons (.fn 4 (.cons (.var 1) .nil)) (.cons (.fn 4 (.cons (.var 1) .nil)) .nil))) = [some (false, PV.rol n), some (false, .drw), s2, s3, s4, s5, s6, none, none, none] := rfl
    have hx : ∀ k : PV → T (List PV), AllN 1 ((pvE P0 F0 I0 (.fn 4 (.cons (.var 1) .nil)) [some (false, PV.rol n), some (false, .drw), s2, s3, s4, s5, s6, none, none, none])) (· ∈ odds) := fun k => odd_ok
    unfold par
    rw [pvS, e]
    refine AllN.bind (b1 := 2) (b2 := 0) (Q := fun ds => ∃ u v, u ∈ odds ∧ v ∈ odds ∧ ds = [u, v]) ?_ ?_
    · rw [pvA]
      refine AllN.bind (b1 := 1) (b2 := 1) (hx fun _ => .bad) fun u hu => ?_
      refine AllN.bind (b1 := 1) (b2 := 0) (Q := fun ds => ∃ v, v ∈ odds ∧ ds = [v]) ?_ ?_
      · rw [pvA]
        refine AllN.bind (b1 := 1) (b2 := 0) (hx fun _ => .bad) fun v hv => ?_
        exact alln_ret ⟨v, hv, rfl⟩
      · rintro _ ⟨v, hv, rfl⟩
        exact alln_ret ⟨u, v, hu, hv, rfl⟩
    · rintro _ ⟨u, v, hu, hv, rfl⟩
      exact alln_ret ⟨_, rfl, u, v, hu, hv, rfl⟩
  · rintro _ ⟨u, v, hu, hv, rfl⟩
    rw [cat_ok (okA_all u hu n s2 (some (false, v)) s5 s6) (okB_all v hv n s2 (some (false, u)) _ s6)]
    exact alln_ret ⟨_, rfl, _, _, _, _, _, rfl⟩
theorem tail_ok (n : Nat) (ρ : PFr) (h : Iv n ρ) : AllN 0 (pvB P0 F0 I0 bR ρ) (· = .ret (.bl true)) := by
  obtain ⟨s2, s3, s4, s5, s6, rfl⟩ := h
  have e : pvB P0 F0 I0 bR [some (false, .rol n), some (false, .drw), s2, s3, s4, s5, s6, none, none, none] = .ret (.ret (.bl true)) := by kernel_rfl
  rw [e]
  exact alln_ret rfl
theorem rest_ok (n : Nat) : AllN 20 (pvB P0 F0 I0 (.cons (.for (.nm 2) (.rng (.bin .Add (.cst (.int 2)) (.bi .min2 (.cons (.bi .len (.cons (.var 0) .nil)) (.cons (.cst (.int 8)) .nil))))) tB) bR) [some (false, .rol n), some (false, .drw), none, none, none, none, none, none, none, none]) (· = .ret (.bl true)) := by
  refine pvB_app (b1 := 20) (b2 := 0) (J := Iv n) ?_ fun ρ h => tail_ok n ρ h
  rw [pvS]
  have e : rel [some (false, PV.rol n), some (false, .drw), none, none, none, none, none, none, none, none] (leakS (.rng (.bin .Add (.cst (.int 2)) (.bi .min2 (.cons (.bi .len (.cons (.var 0) .nil)) (.cons (.cst (.int 8)) .nil)))))) = [some (false, .rol n), some (false, .drw), none, none, none, none, none, none, none, none] := rfl
  rw [e]
  have e2 : ∃ l : List PV, l.length ≤ 10 ∧ pvI P0 F0 I0 (.rng (.bin .Add (.cst (.int 2)) (.bi .min2 (.cons (.bi .len (.cons (.var 0) .nil)) (.cons (.cst (.int 8)) .nil))))) [some (false, .rol n), some (false, .drw), none, none, none, none, none, none, none, none] = .ret l := by
    have hz : -(2 ^ 62) ≤ 2 + (if (8 : Int) < n then 8 else (n : Int)) ∧ 2 + (if (8 : Int) < n then 8 else (n : Int)) < 2 ^ 62 := by
      split <;> omega
    refine ⟨(List.range (2 + (if (8 : Int) < n then 8 else (n : Int))).toNat).map fun (k : Nat) => PV.int (k : Int), ?_, ?_⟩
    · simp only [List.length_map, List.length_range]
      split <;> omega
    · simp only [pvI, pvE, pvA, T.bind, List.getElem?_cons_zero, pbi, T.of, pop2]
      rw [if_pos hz]
  obtain ⟨l, hl, e2⟩ := e2
  rw [e2]
  refine AllN.le (b := 2 * l.length) ?_ (by omega)
  refine pfor_inv (fun _ => Iv n) (fun s => ∃ ρ, s = .nx ρ ∧ Iv n ρ) l 0 _ ⟨_, _, _, _, _, rfl⟩ (fun j v ρ _ h => ?_) fun ρ h => ⟨ρ, rfl, h⟩
  have h2 : Iv n (ρ.set 2 (some (false, v))) := by
    obtain ⟨s2, s3, s4, s5, s6, rfl⟩ := h
    exact ⟨_, _, _, _, _, rfl⟩
  refine (turn_ok n _ h2).imp ?_
  rintro _ ⟨ρ', rfl, h'⟩
  exact h'
theorem run (ns : List Int) (h : ns.length ≤ 63) : ∃ μ, call P0 40 9 [.rol (ns.map D.int)] [] = .ok (.bl true) μ :=
  law_pure (m := 38) (k := 8) (b := 20) (rest := .cons (.for (.nm 2) (.rng (.bin .Add (.cst (.int 2)) (.bi .min2 (.cons (.bi .len (.cons (.var 0) .nil)) (.cons (.cst (.int 8)) .nil))))) tB) bR) ⟨rfl, rfl⟩ rfl rfl (by omega) (by decide) (rest_ok ns.length)
end Lt.K01

set_option maxHeartbeats 200000
namespace Lt.K01
open PySem Lt
def ca0 (c : Nat) : Addr := ([24, 46, 67, 79, 100, 121, 142, 154, 166, 187, 208, 229, 250, 262, 274, 295, 307, 319, 340, 361] : List Addr).getD c 0
def fa0 (f : Nat) : Addr := ([368, 375, 382, 389, 396, 403, 408, 415, 422, 427] : List Addr).getD f 0
def pn0 (f : Nat) : List Str := ([["_law_script"], ["_law_draw"], ["_law_draw", "_law_size"], ["_law_draw", "_law_some"], ["_law_draw"], ["_law_error"], ["_law_error", "_law_place"], ["_law_errors"], ["_law_errors"], ["_law_script"]] : List (List Str)).getD f []
end Lt.K01
open PySem PySem.W PyProof.Rows
set_option maxHeartbeats 0 in
theorem PySem.Challenge.cw_secondhands_k01_errors_made_holds : PySem.Challenge.rw_secondhands_k01_errors_made.Holds := by
  w_on; o_law; k_head; (case hw => w_witness2)
  k_fill
  refine Lt.walk_lt (K := PySem.Challenge.cw_secondhands_k01_errors_made_holds.heap_39) (m := 40) (P := Lt.K01.P0) (ca := Lt.K01.ca0) (G := Lt.K01.G0) (T := Lt.K01.T0) (fa := Lt.K01.fa0) (fd := fun p f => Lt.fdAt (PySem.Challenge.cw_secondhands_k01_errors_made_holds.heap_39 p) (Lt.K01.fa0 f)) (pn := Lt.K01.pn0) (f := 9) (g := ⟨1, 10, Lt.K01.b9⟩) (x := "_law_script") rfl (by decide) rfl (by kernel_rfl) ⟨rfl, by decide, by decide⟩ (fun w h Y => Y) (fun w mg base X hm hs => ?_) (fun w => by k_is) rfl rfl (fun w s u => ?_) (fun ns h => Lt.K01.run ns h)
  · obtain ⟨b1, b2, b3, b4⟩ := Lt.nms_of X hm (show Lt.nmsB (PySem.Challenge.cw_secondhands_k01_errors_made_holds.heap_39 w.params) Lt.K01.P0 Lt.K01.ca0 Lt.K01.fa0 Lt.K01.G0 = true from by kernel_rfl)
    obtain ⟨i1, i2⟩ := Lt.isiK_of (show Lt.isiB (PySem.Challenge.cw_secondhands_k01_errors_made_holds.heap_39 w.params) Lt.K01.P0 Lt.K01.ca0 Lt.K01.T0 = true from by kernel_rfl)
    have e1 : ∃ fd, Lt.ExcI PySem.Challenge.rw_secondhands_k01_errors_made.row.prog (PySem.Challenge.cw_secondhands_k01_errors_made_holds.heap_39 w.params) 46 43 "part" "part" fd := ⟨_, {
      T := ⟨⟨_, _, _, _, _, _, _, _, _, _, _, _, _, _, _, by k_is, by kernel_rfl⟩, by k_is, by k_is, by k_is, by k_is⟩
      iC := by k_is
      tI := by k_is
      lk := ⟨_, _, _, by k_is⟩
      body := ⟨_, _, _, _, _, _, _, _, _, _, _, _, rfl, by kernel_rfl⟩
      code := by k_is
      ns := ⟨by kernel_rfl, by kernel_rfl, by kernel_rfl, by kernel_rfl, by decide⟩
      sc := ⟨rfl, rfl, rfl⟩
      bind := fun s u v => .of_eq (by kernel_rfl)
      bindK := fun s u v => .of_eq (by kernel_rfl)
      glb := ⟨rfl, rfl⟩
      par := ⟨_, rfl, rfl⟩
      clo := ⟨_, _, _, _, rfl, by k_is⟩
      cdo := ⟨_, _, _, _, _, _, _, rfl, by k_is, rfl, by kernel_rfl⟩
      top := by kernel_rfl
      op := by k_is
      mro := by k_is
      sup := by kernel_rfl
      hB := by k_is
      an := ⟨by decide, by decide⟩
      fno := by k_is }⟩
    have e2 : ∃ fd, Lt.ExcI PySem.Challenge.rw_secondhands_k01_errors_made.row.prog (PySem.Challenge.cw_secondhands_k01_errors_made_holds.heap_39 w.params) 67 64 "part" "part" fd := ⟨_, {
      T := ⟨⟨_, _, _, _, _, _, _, _, _, _, _, _, _, _, _, by k_is, by kernel_rfl⟩, by k_is, by k_is, by k_is, by k_is⟩
      iC := by k_is
      tI := by k_is
      lk := ⟨_, _, _, by k_is⟩
      body := ⟨_, _, _, _, _, _, _, _, _, _, _, _, rfl, by kernel_rfl⟩
      code := by k_is
      ns := ⟨by kernel_rfl, by kernel_rfl, by kernel_rfl, by kernel_rfl, by decide⟩
      sc := ⟨rfl, rfl, rfl⟩
      bind := fun s u v => .of_eq (by kernel_rfl)
      bindK := fun s u v => .of_eq (by kernel_rfl)
      glb := ⟨rfl, rfl⟩
      par := ⟨_, rfl, rfl⟩
      clo := ⟨_, _, _, _, rfl, by k_is⟩
      cdo := ⟨_, _, _, _, _, _, _, rfl, by k_is, rfl, by kernel_rfl⟩
      top := by kernel_rfl
      op := by k_is
      mro := by k_is
      sup := by kernel_rfl
      hB := by k_is
      an := ⟨by decide, by decide⟩
      fno := by k_is }⟩
    have e4 : ∃ fd, Lt.ExcI PySem.Challenge.rw_secondhands_k01_errors_made.row.prog (PySem.Challenge.cw_secondhands_k01_errors_made_holds.heap_39 w.params) 100 97 "kind" "kind" fd := ⟨_, {
      T := ⟨⟨_, _, _, _, _, _, _, _, _, _, _, _, _, _, _, by k_is, by kernel_rfl⟩, by k_is, by k_is, by k_is, by k_is⟩
      iC := by k_is
      tI := by k_is
      lk := ⟨_, _, _, by k_is⟩
      body := ⟨_, _, _, _, _, _, _, _, _, _, _, _, rfl, by kernel_rfl⟩
      code := by k_is
      ns := ⟨by kernel_rfl, by kernel_rfl, by kernel_rfl, by kernel_rfl, by decide⟩
      sc := ⟨rfl, rfl, rfl⟩
      bind := fun s u v => .of_eq (by kernel_rfl)
      bindK := fun s u v => .of_eq (by kernel_rfl)
      glb := ⟨rfl, rfl⟩
      par := ⟨_, rfl, rfl⟩
      clo := ⟨_, _, _, _, rfl, by k_is⟩
      cdo := ⟨_, _, _, _, _, _, _, rfl, by k_is, rfl, by kernel_rfl⟩
      top := by kernel_rfl
      op := by k_is
      mro := by k_is
      sup := by kernel_rfl
      hB := by k_is
      an := ⟨by decide, by decide⟩
      fno := by k_is }⟩
    have e5 : ∃ fd, Lt.ExcI PySem.Challenge.rw_secondhands_k01_errors_made.row.prog (PySem.Challenge.cw_secondhands_k01_errors_made_holds.heap_39 w.params) 121 118 "number" "number" fd := ⟨_, {
      T := ⟨⟨_, _, _, _, _, _, _, _, _, _, _, _, _, _, _, by k_is, by kernel_rfl⟩, by k_is, by k_is, by k_is, by k_is⟩
      iC := by k_is
      tI := by k_is
      lk := ⟨_, _, _, by k_is⟩
      body := ⟨_, _, _, _, _, _, _, _, _, _, _, _, rfl, by kernel_rfl⟩
      code := by k_is
      ns := ⟨by kernel_rfl, by kernel_rfl, by kernel_rfl, by kernel_rfl, by decide⟩
      sc := ⟨rfl, rfl, rfl⟩
      bind := fun s u v => .of_eq (by kernel_rfl)
      bindK := fun s u v => .of_eq (by kernel_rfl)
      glb := ⟨rfl, rfl⟩
      par := ⟨_, rfl, rfl⟩
      clo := ⟨_, _, _, _, rfl, by k_is⟩
      cdo := ⟨_, _, _, _, _, _, _, rfl, by k_is, rfl, by kernel_rfl⟩
      top := by kernel_rfl
      op := by k_is
      mro := by k_is
      sup := by kernel_rfl
      hB := by k_is
      an := ⟨by decide, by decide⟩
      fno := by k_is }⟩
    have e6 : ∃ fd, Lt.ExcI PySem.Challenge.rw_secondhands_k01_errors_made.row.prog (PySem.Challenge.cw_secondhands_k01_errors_made_holds.heap_39 w.params) 142 139 "at" "at" fd := ⟨_, {
      T := ⟨⟨_, _, _, _, _, _, _, _, _, _, _, _, _, _, _, by k_is, by kernel_rfl⟩, by k_is, by k_is, by k_is, by k_is⟩
      iC := by k_is
      tI := by k_is
      lk := ⟨_, _, _, by k_is⟩
      body := ⟨_, _, _, _, _, _, _, _, _, _, _, _, rfl, by kernel_rfl⟩
      code := by k_is
      ns := ⟨by kernel_rfl, by kernel_rfl, by kernel_rfl, by kernel_rfl, by decide⟩
      sc := ⟨rfl, rfl, rfl⟩
      bind := fun s u v => .of_eq (by kernel_rfl)
      bindK := fun s u v => .of_eq (by kernel_rfl)
      glb := ⟨rfl, rfl⟩
      par := ⟨_, rfl, rfl⟩
      clo := ⟨_, _, _, _, rfl, by k_is⟩
      cdo := ⟨_, _, _, _, _, _, _, rfl, by k_is, rfl, by kernel_rfl⟩
      top := by kernel_rfl
      op := by k_is
      mro := by k_is
      sup := by kernel_rfl
      hB := by k_is
      an := ⟨by decide, by decide⟩
      fno := by k_is }⟩
    have e9 : ∃ fd, Lt.ExcI PySem.Challenge.rw_secondhands_k01_errors_made.row.prog (PySem.Challenge.cw_secondhands_k01_errors_made_holds.heap_39 w.params) 187 184 "field" "field" fd := ⟨_, {
      T := ⟨⟨_, _, _, _, _, _, _, _, _, _, _, _, _, _, _, by k_is, by kernel_rfl⟩, by k_is, by k_is, by k_is, by k_is⟩
      iC := by k_is
      tI := by k_is
      lk := ⟨_, _, _, by k_is⟩
      body := ⟨_, _, _, _, _, _, _, _, _, _, _, _, rfl, by kernel_rfl⟩
      code := by k_is
      ns := ⟨by kernel_rfl, by kernel_rfl, by kernel_rfl, by kernel_rfl, by decide⟩
      sc := ⟨rfl, rfl, rfl⟩
      bind := fun s u v => .of_eq (by kernel_rfl)
      bindK := fun s u v => .of_eq (by kernel_rfl)
      glb := ⟨rfl, rfl⟩
      par := ⟨_, rfl, rfl⟩
      clo := ⟨_, _, _, _, rfl, by k_is⟩
      cdo := ⟨_, _, _, _, _, _, _, rfl, by k_is, rfl, by kernel_rfl⟩
      top := by kernel_rfl
      op := by k_is
      mro := by k_is
      sup := by kernel_rfl
      hB := by k_is
      an := ⟨by decide, by decide⟩
      fno := by k_is }⟩
    have e10 : ∃ fd, Lt.ExcI PySem.Challenge.rw_secondhands_k01_errors_made.row.prog (PySem.Challenge.cw_secondhands_k01_errors_made_holds.heap_39 w.params) 208 205 "at" "at" fd := ⟨_, {
      T := ⟨⟨_, _, _, _, _, _, _, _, _, _, _, _, _, _, _, by k_is, by kernel_rfl⟩, by k_is, by k_is, by k_is, by k_is⟩
      iC := by k_is
      tI := by k_is
      lk := ⟨_, _, _, by k_is⟩
      body := ⟨_, _, _, _, _, _, _, _, _, _, _, _, rfl, by kernel_rfl⟩
      code := by k_is
      ns := ⟨by kernel_rfl, by kernel_rfl, by kernel_rfl, by kernel_rfl, by decide⟩
      sc := ⟨rfl, rfl, rfl⟩
      bind := fun s u v => .of_eq (by kernel_rfl)
      bindK := fun s u v => .of_eq (by kernel_rfl)
      glb := ⟨rfl, rfl⟩
      par := ⟨_, rfl, rfl⟩
      clo := ⟨_, _, _, _, rfl, by k_is⟩
      cdo := ⟨_, _, _, _, _, _, _, rfl, by k_is, rfl, by kernel_rfl⟩
      top := by kernel_rfl
      op := by k_is
      mro := by k_is
      sup := by kernel_rfl
      hB := by k_is
      an := ⟨by decide, by decide⟩
      fno := by k_is }⟩
    have e11 : ∃ fd, Lt.ExcI PySem.Challenge.rw_secondhands_k01_errors_made.row.prog (PySem.Challenge.cw_secondhands_k01_errors_made_holds.heap_39 w.params) 229 226 "at" "at" fd := ⟨_, {
      T := ⟨⟨_, _, _, _, _, _, _, _, _, _, _, _, _, _, _, by k_is, by kernel_rfl⟩, by k_is, by k_is, by k_is, by k_is⟩
      iC := by k_is
      tI := by k_is
      lk := ⟨_, _, _, by k_is⟩
      body := ⟨_, _, _, _, _, _, _, _, _, _, _, _, rfl, by kernel_rfl⟩
      code := by k_is
      ns := ⟨by kernel_rfl, by kernel_rfl, by kernel_rfl, by kernel_rfl, by decide⟩
      sc := ⟨rfl, rfl, rfl⟩
      bind := fun s u v => .of_eq (by kernel_rfl)
      bindK := fun s u v => .of_eq (by kernel_rfl)
      glb := ⟨rfl, rfl⟩
      par := ⟨_, rfl, rfl⟩
      clo := ⟨_, _, _, _, rfl, by k_is⟩
      cdo := ⟨_, _, _, _, _, _, _, rfl, by k_is, rfl, by kernel_rfl⟩
      top := by kernel_rfl
      op := by k_is
      mro := by k_is
      sup := by kernel_rfl
      hB := by k_is
      an := ⟨by decide, by decide⟩
      fno := by k_is }⟩
    have e12 : ∃ fd, Lt.ExcI PySem.Challenge.rw_secondhands_k01_errors_made.row.prog (PySem.Challenge.cw_secondhands_k01_errors_made_holds.heap_39 w.params) 250 247 "most" "most" fd := ⟨_, {
      T := ⟨⟨_, _, _, _, _, _, _, _, _, _, _, _, _, _, _, by k_is, by kernel_rfl⟩, by k_is, by k_is, by k_is, by k_is⟩
      iC := by k_is
      tI := by k_is
      lk := ⟨_, _, _, by k_is⟩
      body := ⟨_, _, _, _, _, _, _, _, _, _, _, _, rfl, by kernel_rfl⟩
      code := by k_is
      ns := ⟨by kernel_rfl, by kernel_rfl, by kernel_rfl, by kernel_rfl, by decide⟩
      sc := ⟨rfl, rfl, rfl⟩
      bind := fun s u v => .of_eq (by kernel_rfl)
      bindK := fun s u v => .of_eq (by kernel_rfl)
      glb := ⟨rfl, rfl⟩
      par := ⟨_, rfl, rfl⟩
      clo := ⟨_, _, _, _, rfl, by k_is⟩
      cdo := ⟨_, _, _, _, _, _, _, rfl, by k_is, rfl, by kernel_rfl⟩
      top := by kernel_rfl
      op := by k_is
      mro := by k_is
      sup := by kernel_rfl
      hB := by k_is
      an := ⟨by decide, by decide⟩
      fno := by k_is }⟩
    have e15 : ∃ fd, Lt.ExcI PySem.Challenge.rw_secondhands_k01_errors_made.row.prog (PySem.Challenge.cw_secondhands_k01_errors_made_holds.heap_39 w.params) 295 292 "hand" "hand" fd := ⟨_, {
      T := ⟨⟨_, _, _, _, _, _, _, _, _, _, _, _, _, _, _, by k_is, by kernel_rfl⟩, by k_is, by k_is, by k_is, by k_is⟩
      iC := by k_is
      tI := by k_is
      lk := ⟨_, _, _, by k_is⟩
      body := ⟨_, _, _, _, _, _, _, _, _, _, _, _, rfl, by kernel_rfl⟩
      code := by k_is
      ns := ⟨by kernel_rfl, by kernel_rfl, by kernel_rfl, by kernel_rfl, by decide⟩
      sc := ⟨rfl, rfl, rfl⟩
      bind := fun s u v => .of_eq (by kernel_rfl)
      bindK := fun s u v => .of_eq (by kernel_rfl)
      glb := ⟨rfl, rfl⟩
      par := ⟨_, rfl, rfl⟩
      clo := ⟨_, _, _, _, rfl, by k_is⟩
      cdo := ⟨_, _, _, _, _, _, _, rfl, by k_is, rfl, by kernel_rfl⟩
      top := by kernel_rfl
      op := by k_is
      mro := by k_is
      sup := by kernel_rfl
      hB := by k_is
      an := ⟨by decide, by decide⟩
      fno := by k_is }⟩
    have e18 : ∃ fd, Lt.ExcI PySem.Challenge.rw_secondhands_k01_errors_made.row.prog (PySem.Challenge.cw_secondhands_k01_errors_made_holds.heap_39 w.params) 340 337 "at" "at" fd := ⟨_, {
      T := ⟨⟨_, _, _, _, _, _, _, _, _, _, _, _, _, _, _, by k_is, by kernel_rfl⟩, by k_is, by k_is, by k_is, by k_is⟩
      iC := by k_is
      tI := by k_is
      lk := ⟨_, _, _, by k_is⟩
      body := ⟨_, _, _, _, _, _, _, _, _, _, _, _, rfl, by kernel_rfl⟩
      code := by k_is
      ns := ⟨by kernel_rfl, by kernel_rfl, by kernel_rfl, by kernel_rfl, by decide⟩
      sc := ⟨rfl, rfl, rfl⟩
      bind := fun s u v => .of_eq (by kernel_rfl)
      bindK := fun s u v => .of_eq (by kernel_rfl)
      glb := ⟨rfl, rfl⟩
      par := ⟨_, rfl, rfl⟩
      clo := ⟨_, _, _, _, rfl, by k_is⟩
      cdo := ⟨_, _, _, _, _, _, _, rfl, by k_is, rfl, by kernel_rfl⟩
      top := by kernel_rfl
      op := by k_is
      mro := by k_is
      sup := by kernel_rfl
      hB := by k_is
      an := ⟨by decide, by decide⟩
      fno := by k_is }⟩
    have e19 : ∃ fd, Lt.ExcI PySem.Challenge.rw_secondhands_k01_errors_made.row.prog (PySem.Challenge.cw_secondhands_k01_errors_made_holds.heap_39 w.params) 361 358 "line" "line" fd := ⟨_, {
      T := ⟨⟨_, _, _, _, _, _, _, _, _, _, _, _, _, _, _, by k_is, by kernel_rfl⟩, by k_is, by k_is, by k_is, by k_is⟩
      iC := by k_is
      tI := by k_is
      lk := ⟨_, _, _, by k_is⟩
      body := ⟨_, _, _, _, _, _, _, _, _, _, _, _, rfl, by kernel_rfl⟩
      code := by k_is
      ns := ⟨by kernel_rfl, by kernel_rfl, by kernel_rfl, by kernel_rfl, by decide⟩
      sc := ⟨rfl, rfl, rfl⟩
      bind := fun s u v => .of_eq (by kernel_rfl)
      bindK := fun s u v => .of_eq (by kernel_rfl)
      glb := ⟨rfl, rfl⟩
      par := ⟨_, rfl, rfl⟩
      clo := ⟨_, _, _, _, rfl, by k_is⟩
      cdo := ⟨_, _, _, _, _, _, _, rfl, by k_is, rfl, by kernel_rfl⟩
      top := by kernel_rfl
      op := by k_is
      mro := by k_is
      sup := by kernel_rfl
      hB := by k_is
      an := ⟨by decide, by decide⟩
      fno := by k_is }⟩
    have hms : mg "super" = none := b1 _ (by decide)
    have F : Lt.AllI (fun f g => Lt.FnL PySem.Challenge.rw_secondhands_k01_errors_made.row.prog w (PySem.Challenge.cw_secondhands_k01_errors_made_holds.heap_39 w.params) Lt.K01.G0 Lt.K01.T0 (Lt.K01.fa0 f) (Lt.fdAt (PySem.Challenge.cw_secondhands_k01_errors_made_holds.heap_39 w.params) (Lt.K01.fa0 f)) (Lt.K01.pn0 f) g) 0 Lt.K01.fns0 := by
      refine ⟨?_, ?_, ?_, ?_, ?_, ?_, ?_, ?_, ?_, ?_, True.intro⟩
      · show Lt.FnL _ w (PySem.Challenge.cw_secondhands_k01_errors_made_holds.heap_39 w.params) Lt.K01.G0 Lt.K01.T0 368 (Lt.fdAt (PySem.Challenge.cw_secondhands_k01_errors_made_holds.heap_39 w.params) 368) ["_law_script"] ⟨1, 3, Lt.K01.b0⟩
        exact Lt.fnL_of Lt.K01.N0 200 (by k_is) (by k_is) (by kernel_rfl) (by kernel_rfl) rfl rfl (Lt.bd1 (fun a => by kernel_rfl))
      · show Lt.FnL _ w (PySem.Challenge.cw_secondhands_k01_errors_made_holds.heap_39 w.params) Lt.K01.G0 Lt.K01.T0 375 (Lt.fdAt (PySem.Challenge.cw_secondhands_k01_errors_made_holds.heap_39 w.params) 375) ["_law_draw"] ⟨1, 6, Lt.K01.b1⟩
        exact Lt.fnL_of Lt.K01.N1 200 (by k_is) (by k_is) (by kernel_rfl) (by kernel_rfl) rfl rfl (Lt.bd1 (fun a => by kernel_rfl))
      · show Lt.FnL _ w (PySem.Challenge.cw_secondhands_k01_errors_made_holds.heap_39 w.params) Lt.K01.G0 Lt.K01.T0 382 (Lt.fdAt (PySem.Challenge.cw_secondhands_k01_errors_made_holds.heap_39 w.params) 382) ["_law_draw", "_law_size"] ⟨2, 3, Lt.K01.b2⟩
        exact Lt.fnL_of Lt.K01.N2 200 (by k_is) (by k_is) (by kernel_rfl) (by kernel_rfl) rfl rfl (Lt.bd2 (fun a b => by kernel_rfl))
      · show Lt.FnL _ w (PySem.Challenge.cw_secondhands_k01_errors_made_holds.heap_39 w.params) Lt.K01.G0 Lt.K01.T0 389 (Lt.fdAt (PySem.Challenge.cw_secondhands_k01_errors_made_holds.heap_39 w.params) 389) ["_law_draw", "_law_some"] ⟨2, 2, Lt.K01.b3⟩
        exact Lt.fnL_of Lt.K01.N3 200 (by k_is) (by k_is) (by kernel_rfl) (by kernel_rfl) rfl rfl (Lt.bd2 (fun a b => by kernel_rfl))
      · show Lt.FnL _ w (PySem.Challenge.cw_secondhands_k01_errors_made_holds.heap_39 w.params) Lt.K01.G0 Lt.K01.T0 396 (Lt.fdAt (PySem.Challenge.cw_secondhands_k01_errors_made_holds.heap_39 w.params) 396) ["_law_draw"] ⟨1, 2, Lt.K01.b4⟩
        exact Lt.fnL_of Lt.K01.N4 200 (by k_is) (by k_is) (by kernel_rfl) (by kernel_rfl) rfl rfl (Lt.bd1 (fun a => by kernel_rfl))
      · show Lt.FnL _ w (PySem.Challenge.cw_secondhands_k01_errors_made_holds.heap_39 w.params) Lt.K01.G0 Lt.K01.T0 403 (Lt.fdAt (PySem.Challenge.cw_secondhands_k01_errors_made_holds.heap_39 w.params) 403) ["_law_error"] ⟨1, 2, Lt.K01.b5⟩
        exact Lt.fnL_of Lt.K01.N5 200 (by k_is) (by k_is) (by kernel_rfl) (by kernel_rfl) rfl rfl (Lt.bd1 (fun a => by kernel_rfl))
      · show Lt.FnL _ w (PySem.Challenge.cw_secondhands_k01_errors_made_holds.heap_39 w.params) Lt.K01.G0 Lt.K01.T0 408 (Lt.fdAt (PySem.Challenge.cw_secondhands_k01_errors_made_holds.heap_39 w.params) 408) ["_law_error", "_law_place"] ⟨2, 3, Lt.K01.b6⟩
        exact Lt.fnL_of Lt.K01.N6 200 (by k_is) (by k_is) (by kernel_rfl) (by kernel_rfl) rfl rfl (Lt.bd2 (fun a b => by kernel_rfl))
      · show Lt.FnL _ w (PySem.Challenge.cw_secondhands_k01_errors_made_holds.heap_39 w.params) Lt.K01.G0 Lt.K01.T0 415 (Lt.fdAt (PySem.Challenge.cw_secondhands_k01_errors_made_holds.heap_39 w.params) 415) ["_law_errors"] ⟨1, 3, Lt.K01.b7⟩
        exact Lt.fnL_of Lt.K01.N7 200 (by k_is) (by k_is) (by kernel_rfl) (by kernel_rfl) rfl rfl (Lt.bd1 (fun a => by kernel_rfl))
      · show Lt.FnL _ w (PySem.Challenge.cw_secondhands_k01_errors_made_holds.heap_39 w.params) Lt.K01.G0 Lt.K01.T0 422 (Lt.fdAt (PySem.Challenge.cw_secondhands_k01_errors_made_holds.heap_39 w.params) 422) ["_law_errors"] ⟨1, 2, Lt.K01.b8⟩
        exact Lt.fnL_of Lt.K01.N8 200 (by k_is) (by k_is) (by kernel_rfl) (by kernel_rfl) rfl rfl (Lt.bd1 (fun a => by kernel_rfl))
      · show Lt.FnL _ w (PySem.Challenge.cw_secondhands_k01_errors_made_holds.heap_39 w.params) Lt.K01.G0 Lt.K01.T0 427 (Lt.fdAt (PySem.Challenge.cw_secondhands_k01_errors_made_holds.heap_39 w.params) 427) ["_law_script"] ⟨1, 10, Lt.K01.b9⟩
        exact Lt.fnL_of Lt.K01.N9 200 (by k_is) (by k_is) (by kernel_rfl) (by kernel_rfl) rfl rfl (Lt.bd1 (fun a => by kernel_rfl))
    have M : Lt.AllI (fun c kc => kc.exc = true → Lt.ExcM PySem.Challenge.rw_secondhands_k01_errors_made.row.prog (PySem.Challenge.cw_secondhands_k01_errors_made_holds.heap_39 w.params) (Lt.K01.ca0 c) kc) 0 Lt.K01.cls0 := ⟨fun _ => .inr ⟨rfl, _, PySem.F.excBase_ValueError, by kernel_rfl⟩,
      fun _ => let ⟨fd, z⟩ := e1; .inl ⟨_, _, _, fd, rfl, z⟩,
      fun _ => let ⟨fd, z⟩ := e2; .inl ⟨_, _, _, fd, rfl, z⟩,
      fun _ => .inr ⟨rfl, _, PySem.F.excBase_ValueError, by kernel_rfl⟩,
      fun _ => let ⟨fd, z⟩ := e4; .inl ⟨_, _, _, fd, rfl, z⟩,
      fun _ => let ⟨fd, z⟩ := e5; .inl ⟨_, _, _, fd, rfl, z⟩,
      fun _ => let ⟨fd, z⟩ := e6; .inl ⟨_, _, _, fd, rfl, z⟩,
      fun _ => .inr ⟨rfl, _, PySem.F.excBase_ValueError, by kernel_rfl⟩,
      fun _ => .inr ⟨rfl, _, PySem.F.excBase_ValueError, by kernel_rfl⟩,
      fun _ => let ⟨fd, z⟩ := e9; .inl ⟨_, _, _, fd, rfl, z⟩,
      fun _ => let ⟨fd, z⟩ := e10; .inl ⟨_, _, _, fd, rfl, z⟩,
      fun _ => let ⟨fd, z⟩ := e11; .inl ⟨_, _, _, fd, rfl, z⟩,
      fun _ => let ⟨fd, z⟩ := e12; .inl ⟨_, _, _, fd, rfl, z⟩,
      fun _ => .inr ⟨rfl, _, PySem.F.excBase_ValueError, by kernel_rfl⟩,
      fun _ => .inr ⟨rfl, _, PySem.F.excBase_ValueError, by kernel_rfl⟩,
      fun _ => let ⟨fd, z⟩ := e15; .inl ⟨_, _, _, fd, rfl, z⟩,
      fun _ => .inr ⟨rfl, _, PySem.F.excBase_ValueError, by kernel_rfl⟩,
      fun _ => .inr ⟨rfl, _, PySem.F.excBase_ValueError, by kernel_rfl⟩,
      fun _ => let ⟨fd, z⟩ := e18; .inl ⟨_, _, _, fd, rfl, z⟩,
      fun _ => let ⟨fd, z⟩ := e19; .inl ⟨_, _, _, fd, rfl, z⟩, True.intro⟩
    have W : Lt.AllI (fun _ y => Lt.KwM PySem.Challenge.rw_secondhands_k01_errors_made.row.prog (PySem.Challenge.cw_secondhands_k01_errors_made_holds.heap_39 w.params) Lt.K01.ca0 Lt.K01.P0 y) 0 Lt.K01.G0 := ⟨True.intro,
      True.intro,
      True.intro,
      True.intro,
      True.intro,
      True.intro,
      True.intro,
      True.intro,
      True.intro,
      True.intro,
      True.intro,
      let ⟨fd, z⟩ := e1; ⟨_, _, _, fd, rfl, rfl, rfl, z⟩,
      let ⟨fd, z⟩ := e2; ⟨_, _, _, fd, rfl, rfl, rfl, z⟩,
      True.intro,
      let ⟨fd, z⟩ := e4; ⟨_, _, _, fd, rfl, rfl, rfl, z⟩,
      let ⟨fd, z⟩ := e5; ⟨_, _, _, fd, rfl, rfl, rfl, z⟩,
      let ⟨fd, z⟩ := e6; ⟨_, _, _, fd, rfl, rfl, rfl, z⟩,
      True.intro,
      True.intro,
      let ⟨fd, z⟩ := e9; ⟨_, _, _, fd, rfl, rfl, rfl, z⟩,
      let ⟨fd, z⟩ := e10; ⟨_, _, _, fd, rfl, rfl, rfl, z⟩,
      let ⟨fd, z⟩ := e11; ⟨_, _, _, fd, rfl, rfl, rfl, z⟩,
      let ⟨fd, z⟩ := e12; ⟨_, _, _, fd, rfl, rfl, rfl, z⟩,
      True.intro,
      True.intro,
      let ⟨fd, z⟩ := e15; ⟨_, _, _, fd, rfl, rfl, rfl, z⟩,
      True.intro,
      True.intro,
      let ⟨fd, z⟩ := e18; ⟨_, _, _, fd, rfl, rfl, rfl, z⟩,
      let ⟨fd, z⟩ := e19; ⟨_, _, _, fd, rfl, rfl, rfl, z⟩, True.intro⟩
    exact {
      sys := hs
      blt := b1
      isi := i1
      cst := fun x d h => by
        have h2 := Lt.lookup_mem h
        simp [Lt.K01.G0] at h2
      fns := fun f g h => Lt.all_at F f g h
      fn := b2
      cls := b3
      mkI := fun c kc h hx => by
        have h2 := List.mem_of_getElem? h
        have h3 : ∀ k ∈ Lt.K01.cls0, k.exc = true := by decide
        rw [h3 _ h2] at hx
        cases hx
      mkE := fun k F c kc h hx => Lt.calD_exc h hx (Lt.all_at M c kc h hx) hms
      mkK := fun k F x c a h => Lt.kw_of hms W k F x c a h
      kit := i2
      fld := b4
      prop := fun c kc f p h hx => by
        have h2 := List.mem_of_getElem? h
        have h3 : ∀ k ∈ Lt.K01.cls0, k.exc = true := by decide
        rw [h3 _ h2] at hx
        cases hx
      meth := fun c kc m f h hx => by
        have h2 := List.mem_of_getElem? h
        have h3 : ∀ k ∈ Lt.K01.cls0, k.exc = true := by decide
        rw [h3 _ h2] at hx
        cases hx }
  · show BindsTo s (Lt.fdAt (PySem.Challenge.cw_secondhands_k01_errors_made_holds.heap_39 w.params) 427) ⟨[u], []⟩ [("_law_script", u)]
    rw [Lt.fdAt_of (show List.lookup 427 (PySem.Challenge.cw_secondhands_k01_errors_made_holds.heap_39 w.params) = some ⟨_, _, .func _, _⟩ from by k_is)]
    exact .of_eq (by kernel_rfl)

