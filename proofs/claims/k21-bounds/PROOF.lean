import PyProof.Rows.All
import HandS.ForMost
import HandS.WordsExc
import HandS.TupAny
import HandS.TupMul
import HandS.Lambda
import HandS.Wide
import HandS.IsInst
import HandS.RaiseMore
import HandS.Conv
import HandS.Text
import HandS.ExcCtx
import KE.GoesRaise
import KE.GoesEnum
import KE.GoesMore
import HandS.TryOnly
import HandS.Style
import HandS.CallSlots
import HandS.Codes
import HandS.CallRecv
import HandS.HeadWalk
import HandS.SlotsOwn
import HandS.ExcIs
import HandS.HotCalls
import HandS.EndTab
import PySem.Challenge.RW_foldchains_k21_whole_bounds
import Wide.All
import OpenK.AllK
import Wide.FinOn
section
set_option Elab.async false
set_option linter.all false
set_option maxRecDepth 100000
/-! FcCore: a clean language of trees, its interpreter. -/
namespace FC
open PySem

/-- values: trees; loc: a place of the store -/
inductive T where
  | non | bl (b : Bool) | int (i : Int) | str (x : Str) | tup (xs : List T) | lst (xs : List T) | fro (xs : List T) | loc (l : Nat)
  deriving Inhabited

inductive Ob where
  | lst (xs : List T)
  | ins (c : Nat) (fs : List (Str × T))
  deriving Inhabited
abbrev Sto := List Ob
abbrev Env := List (Option T)

inductive R (α : Type) where
  | ok (a : α) (S : Sto) | exc (c : Nat) (S : Sto) | bad

def R.bind {α β : Type} (r : R α) (f : α → Sto → R β) : R β :=
  match r with
  | .ok a S => f a S
  | .exc c S => .exc c S
  | .bad => .bad

mutual
def T.data : T → PyData
  | .non => .none
  | .bl b => .bool b
  | .int i => .int i
  | .str x => .str x
  | .tup xs => .tuple (T.dataL xs)
  | .lst xs => .list (T.dataL xs)
  | .fro xs => .list (T.dataL xs)
  | .loc _ => .dict []
def T.dataL : List T → List PyData
  | [] => []
  | x :: xs => x.data :: T.dataL xs
end
mutual
def T.free : T → Bool
  | .non | .bl _ | .int _ | .str _ => true
  | .tup xs | .lst xs | .fro xs => T.freeL xs
  | .loc _ => false
def T.freeL : List T → Bool
  | [] => true
  | x :: xs => x.free && T.freeL xs
end

abbrev lim : Nat := 16777216

def lstOf : Option Ob → Option (List T)
  | some (.lst xs) => some xs
  | _ => none
def lstAt (S : Sto) (l : Nat) : Option (List T) := lstOf S[l]?
/-- the items of a list, a tuple, a list of the store -/
def items (S : Sto) : T → Option (List T)
  | .tup xs => some xs
  | .lst xs => some xs
  | .fro xs => some xs
  | .loc l => lstAt S l
  | _ => none
/-- the items of a list -/
def litems (S : Sto) : T → Option (List T)
  | .lst xs => some xs
  | .loc l => lstAt S l
  | _ => none

/-- == of data -/
def eqD (a b : PyData) : Option Bool := if SeqAt.shaped a && SeqAt.shaped b then some (PyData.eqv a b) else none
def dataOf (S : Sto) : T → PyData
  | .loc l => match lstAt S l with
    | some xs => .list (T.dataL xs)
    | none => .dict []
  | t => t.data
def eqT (S : Sto) (a b : T) : Option Bool := eqD (dataOf S a) (dataOf S b)

def intsOf : List T → Option (List Int)
  | [] => some []
  | .int i :: r => (intsOf r).map (i :: ·)
  | _ => none
def blsOf : List T → Option (List Bool)
  | [] => some []
  | .bl i :: r => (blsOf r).map (i :: ·)
  | _ => none
def strsOf : List T → Option (List Str)
  | [] => some []
  | .str i :: r => (strsOf r).map (i :: ·)
  | _ => none

inductive BOp where
  | add | sub | mul | fdiv | mod | pow
  deriving DecidableEq
inductive COp where
  | eq | ne | lt | le | gt | ge | isin | notin | isN | notN
  deriving DecidableEq
inductive Ty where
  | tup | str | int | bool
  deriving DecidableEq
inductive BFn where
  | len | all | any | sum | max | min | list | tuple | int | str | abs | rng | join | split | index
  deriving DecidableEq
inductive ItK where
  | of | range1 | range2 | enum
  deriving DecidableEq

/-- a value, or a list that is to be new -/
inductive NT where
  | val (t : T) | new (xs : List T)

/-- a new list: a tree, or a place of the store -/
def put (al : Bool) (xs : List T) (S : Sto) : R T :=
  if al then .ok (.loc S.length) (S ++ [.lst xs]) else .ok (.lst xs) S
def putN (al : Bool) (S : Sto) : Option NT → R T
  | some (.val t) => .ok t S
  | some (.new xs) => put al xs S
  | none => .bad

def mulOk (i j : Int) : Bool :=
  (decide (i.natAbs < 2 ^ 64) || decide (j.natAbs < 2 ^ 64)) || decide (i.natAbs.log2 + j.natAbs.log2 < 1000000)
def divOk (j : Int) : Bool := decide (0 < j) && decide (j.natAbs.log2 < 9000)
def rep (xs : List T) (k : Int) : List T := (List.replicate k.toNat xs).flatten
def repS (z : Str) (k : Int) : Str := ⟨((List.replicate k.toNat z.cps.toList).flatten).toArray⟩

def guard (b : Bool) (n : NT) : Option NT := if b then some n else none
def addL (xs ys : Option (List T)) : Option NT := match xs, ys with
  | some xs, some ys => guard (decide (xs.length + ys.length ≤ lim)) (.new (xs ++ ys))
  | _, _ => none
def repL (xs : Option (List T)) (k : Int) : Option NT := match xs with
  | some xs => guard (decide (-1000000 ≤ k) && decide (k ≤ 1000000) && decide (xs.length * k.toNat ≤ lim)) (.new (rep xs k))
  | _ => none
def addT (S : Sto) (a b : T) : Option NT :=
  match a, b with
  | .int i, .int j => some (.val (.int (i + j)))
  | .str x, .str y => guard (decide (x.length + y.length ≤ lim)) (.val (.str (x ++ y)))
  | .tup xs, .tup ys => guard (decide (xs.length + ys.length ≤ lim)) (.val (.tup (xs ++ ys)))
  | a, b => addL (litems S a) (litems S b)
def mulT (S : Sto) (a b : T) : Option NT :=
  match a, b with
  | .int i, .int j => guard (mulOk i j) (.val (.int (i * j)))
  | .tup xs, .int k => guard (decide (2 ≤ k) && decide (k ≤ 1000) && decide (xs.length ≤ 1000) && !xs.isEmpty) (.val (.tup (rep xs k)))
  | .str z, .int k => guard (decide (2 ≤ k) && decide (k ≤ 10000) && decide (0 < z.length) && decide (z.length ≤ 1000)) (.val (.str (repS z k)))
  | a, .int k => repL (litems S a) k
  | _, _ => none
def binT (op : BOp) (S : Sto) (a b : T) : Option NT :=
  match op with
  | .add => addT S a b
  | .mul => mulT S a b
  | op => match a, b with
    | .int i, .int j => match op with
      | .sub => some (.val (.int (i - j)))
      | .fdiv => guard (divOk j) (.val (.int (i / j)))
      | .mod => guard (decide (0 < j)) (.val (.int (i % j)))
      | .pow => guard (decide (0 ≤ j) && decide (j ≤ 1000) && decide (i.natAbs < 1000)) (.val (.int (i ^ j.toNat)))
      | _ => none
    | _, _ => none

def flat : T → Bool
  | .non | .bl _ | .int _ | .str _ => true
  | _ => false
def inT (x : T) (xs : List T) : Bool := xs.any fun y => PyData.eqv y.data x.data

def inL (x : T) (xs : Option (List T)) : Option Bool := xs.bind fun xs => if flat x && xs.all flat then some (inT x xs) else none
def memT (S : Sto) (a b : T) : Option Bool := match a, b with
  | .str x, .str y => some (!(Builtin.Str.occurrences y x 0 y.length 1).isEmpty)
  | a, b => inL a (items S b)
def isNone : T → Bool
  | .non => true
  | _ => false
def cmpI (p : Int → Int → Bool) (a b : T) : Option Bool := match a, b with
  | .int i, .int j => some (p i j)
  | _, _ => none
def cmpT (op : COp) (S : Sto) (a b : T) : Option Bool :=
  match op with
  | .eq => eqT S a b
  | .ne => (eqT S a b).map (!·)
  | .lt => cmpI (fun i j => decide (i < j)) a b
  | .le => cmpI (fun i j => decide (i ≤ j)) a b
  | .gt => cmpI (fun i j => decide (j < i)) a b
  | .ge => cmpI (fun i j => decide (j ≤ i)) a b
  | .isin => memT S a b
  | .notin => (memT S a b).map (!·)
  | .isN => if isNone b then some (isNone a) else none
  | .notN => if isNone b then some (!isNone a) else none

def isTy : Ty → T → Option Bool
  | _, .loc _ => none
  | .tup, .tup _ => some true
  | .str, .str _ => some true
  | .int, .int _ => some true
  | .int, .bl _ => some true
  | .bool, .bl _ => some true
  | _, _ => some false

def ixS (z : Str) (i : Int) : Option T := if decide (z.length ≤ lim) then (L2.atI z.cps.toList i).map fun c => .str ⟨#[c]⟩ else none
def ixL (xs : Option (List T)) (i : Int) : Option T := xs.bind fun xs => L2.atI xs i
def ixT (S : Sto) (a b : T) : Option T :=
  match b with
  | .int i => match a with
    | .str z => ixS z i
    | a => ixL (items S a) i
  | _ => none
def cutT {α : Type} (xs : List α) (lo hi : Option Int) : List α := (xs.drop (HT.sIx xs.length 0 lo)).take (HT.sIx xs.length xs.length hi - HT.sIx xs.length 0 lo)

/-- plain targets: slots, tuples of them -/
inductive P where
  | nm (i : Nat)
  | tp (ps : List P)
  deriving Inhabited
mutual
def bindT : P → T → Env → Option Env
  | .nm i, t, e => some (e.set i (some t))
  | .tp ps, .tup xs, e => bindTs ps xs e
  | .tp _, _, _ => none
def bindTs : List P → List T → Env → Option Env
  | [], [], e => some e
  | p :: ps, x :: xs, e => match bindT p x e with
    | some e' => bindTs ps xs e'
    | none => none
  | _, _, _ => none
end
/-- the items of what stands still -/
def titems : T → Option (List T)
  | .tup xs => some xs
  | .lst xs => some xs
  | .fro xs => some xs
  | _ => none
/-! ### expressions -/
inductive E where
  | var (i : Nat)
  | cst (t : T)
  | bin (op : BOp) (al : Bool) (a b : E)
  | neg (a : E)
  | cmp (op : COp) (a b : E)
  | chain (o1 o2 : COp) (a b c : E)
  | and (a b : E)
  | or (a b : E)
  | not (a : E)
  | ite (c a b : E)
  | tup (es : List E)
  | lst (al : Bool) (es : List E)
  | idx (a b : E)
  | slc (al : Bool) (a : E) (hl hh : Bool) (lo hi : E)
  | bfn (f : BFn) (al : Bool) (es : List E)
  | met (f : BFn) (al : Bool) (o : E) (es : List E)
  | isi (ty : Ty) (a : E)
  | call (pure : Bool) (f : Nat) (es : List E)
  | comp (al : Bool) (own : List Nat) (elt : E) (tg : P) (k : ItK) (i1 i2 : E) (hc : Bool) (c : E)
  | told (a : E)
  | fld (a : E) (x : Str)
  | meth (i : Nat) (m : Str) (o : E) (es : List E)
  | make (i : Nat) (es : List E)
  | size (i : Nat) (a : E)
  | comp2 (own : List Nat) (p : P) (i1 : E) (j v : Nat)
  | eqo (i : Nat) (a b : E)
  | isF (a : E)
  deriving Inhabited
/-- the items at a slot, row by row -/
def flat2 (p : P) (j v : Nat) (e : Env) : List T → List T → Option (List T)
  | [], acc => some acc
  | x :: xs, acc => match bindT p x e with
    | none => none
    | some e' => match (e'[j]?).join with
      | none => none
      | some t => match titems t with
        | none => none
        | some ys => if decide (acc.length + ys.length ≤ lim) && decide (v < e'.length) then flat2 p j v e xs (acc ++ ys) else none

/-- the fields of an instance -/
def insOf : Option Ob → Option (List (Str × T))
  | some (.ins 0 fs) => some fs
  | _ => none
def fieldsT (S : Sto) : T → Option (List (Str × T))
  | .loc l => insOf S[l]?
  | _ => none
def fldT (S : Sto) (t : T) (x : Str) : Option T := (fieldsT S t).bind fun fs => fs.lookup x
/-- an instance, the name is no field of it -/
def metI (S : Sto) (t : T) (m : Str) : Bool := match fieldsT S t with
  | some fs => (fs.lookup m).isNone
  | none => false
/-- what an instance may be compared with -/
def eqArg (S : Sto) : T → Bool
  | .int _ => true
  | t => (fieldsT S t).isSome
/-- isinstance of the own class -/
def isFT (S : Sto) : T → Option Bool
  | .int _ => some false
  | t => if (fieldsT S t).isSome then some true else none
def putA (f : Str) (v : T) : List (Str × T) → List (Str × T)
  | [] => [(f, v)]
  | (g, x) :: r => if g = f then (g, v) :: r else (g, x) :: putA f v r
def stfT (S : Sto) (t : T) (x : Str) (v : T) : Option Sto := match t with
  | .loc l => match insOf S[l]? with
    | some fs => if decide (fs.length < 1000) then some (S.set l (.ins 0 (putA x v fs))) else none
    | none => none
  | _ => none
abbrev FEnv := Nat → List T → Sto → R T

def asIdx : T → Option Int
  | .int i => some i
  | _ => none
def slcT (S : Sto) (t : T) (lo hi : Option Int) : Option NT :=
  match t with
  | .str z => guard (decide (z.length ≤ lim)) (.val (.str (L2.cutS z lo hi)))
  | .tup xs => some (.val (.tup (cutT xs lo hi)))
  | t => (litems S t).map fun xs => .new (cutT xs lo hi)
def lenT (S : Sto) (t : T) : Option Int :=
  match t with
  | .str z => if decide (z.length ≤ lim) then some (z.length : Int) else none
  | t => (items S t).map fun xs => (xs.length : Int)
def maxL : List Int → Option Int
  | [] => none
  | x :: xs => some (xs.foldl (fun m y => if y > m then y else m) x)
def minL : List Int → Option Int
  | [] => none
  | x :: xs => some (xs.foldl (fun m y => if y < m then y else m) x)
def rngL (n : Nat) (lo : Int) : List T := (List.range n).map fun i => .int (lo + (i : Nat))
def small62 (i : Int) : Bool := decide (-(2 ^ 62) ≤ i) && decide (i < 2 ^ 62)
def one (t : Option T) : Option NT := t.map .val
def digitOf (z : Str) : Option Int := match z.cps.toList with
  | [c] => if decide (48 ≤ c) && decide (c ≤ 57) then some ((c : Int) - 48) else none
  | _ => none
def findT (x : T) : List T → Nat → Option Int
  | [], _ => none
  | y :: r, k => if PyData.eqv y.data x.data then some (k : Int) else findT x r (k + 1)
def strNum (S : Sto) : T → Option NT
  | .int i => guard (decide (i.natAbs.log2 < 1000)) (.val (.str (Str.ofString (toString i))))
  | .str z => some (.val (.str z))
  | _ => none
def intNum : T → Option Int
  | .int i => some i
  | .bl b => some (if b then 1 else 0)
  | .str z => digitOf z
  | _ => none
def tupOf (S : Sto) : T → Option (List T)
  | .tup xs => some xs
  | t => litems S t
def maxT (S : Sto) (k : List Int → Option Int) : List T → Option Int
  | [.int i, .int j] => k [i, j]
  | [a] => ((litems S a).bind intsOf).bind k
  | _ => none
def joinT (S : Sto) (z : Str) (a : T) : Option NT := match (items S a).bind strsOf with
  | some ys => guard (decide ((ys.map (·.length)).sum + ys.length * z.length ≤ lim)) (.val (.str (Txt.join z ys)))
  | none => none
def splitT (a b : Str) : Option NT := guard (!(b.length == 0) && decide (a.length + 2 ≤ lim)) (.new ((Txt.split a b).map .str))
def indexT (S : Sto) (a x : T) : Option Int := match litems S a with
  | some xs => if flat x && xs.all flat then findT x xs 0 else none
  | none => none
def vI (o : Option Int) : Option NT := o.map fun n => .val (.int n)
def one1 (k : T → Option NT) : List T → Option NT
  | [a] => k a
  | _ => none
def two2 (k : T → T → Option NT) : List T → Option NT
  | [a, b] => k a b
  | _ => none
def allN (S : Sto) (a : T) : Option NT := ((litems S a).bind blsOf).map fun bs => .val (.bl (bs.all id))
def anyN (S : Sto) (a : T) : Option NT := ((litems S a).bind blsOf).map fun bs => .val (.bl (bs.any id))
def sumN (S : Sto) (a : T) : Option NT := vI (((litems S a).bind intsOf).map fun ns => ns.sum)
def listN (S : Sto) (a : T) : Option NT := (items S a).map fun xs => .new xs
def tupN (S : Sto) (a : T) : Option NT := (tupOf S a).map fun xs => .val (.tup xs)
def absN : T → Option NT
  | .int i => some (.val (.int (if i < 0 then -i else i)))
  | _ => none
def rngN : T → Option NT
  | .int n => guard (small62 n && decide (n ≤ 1000000)) (.new (rngL n.toNat 0))
  | _ => none
def joinN (S : Sto) (z a : T) : Option NT := match z with
  | .str z => joinT S z a
  | _ => none
def splitN (a b : T) : Option NT := match a, b with
  | .str a, .str b => splitT a b
  | _, _ => none
def bfnT (f : BFn) (S : Sto) (as : List T) : Option NT :=
  match f with
  | .len => one1 (fun a => vI (lenT S a)) as
  | .all => one1 (allN S) as
  | .any => one1 (anyN S) as
  | .sum => one1 (sumN S) as
  | .max => vI (maxT S maxL as)
  | .min => vI (maxT S minL as)
  | .list => one1 (listN S) as
  | .tuple => one1 (tupN S) as
  | .int => one1 (fun a => vI (intNum a)) as
  | .str => one1 (strNum S) as
  | .abs => one1 absN as
  | .rng => one1 rngN as
  | .join => two2 (joinN S) as
  | .split => two2 splitN as
  | .index => two2 (fun a x => vI (indexT S a x)) as

/-- what has the method -/
def metOk (f : BFn) (S : Sto) (x : T) : Bool :=
  match f, x with
  | .join, .str _ => true
  | .split, .str _ => true
  | .index, x => (litems S x).isSome
  | _, _ => false
def isLoc (S : Sto) : T → Bool
  | .loc l => (lstAt S l).isSome
  | _ => false

def enumL : List T → Nat → List T
  | [], _ => []
  | x :: xs, i => .tup [.int (i : Nat), x] :: enumL xs (i + 1)
/-- what is walked -/
def itT (k : ItK) (S : Sto) (a b : T) : Option (List T) :=
  match k, a, b with
  | .of, a, _ => titems a
  | .range1, .int n, _ => if small62 n then some (rngL n.toNat 0) else none
  | .range2, .int i, .int j => if small62 i && small62 j then some (rngL (j - i).toNat i) else none
  | .enum, a, _ => (titems a).map fun xs => enumL xs 0
  | _, _, _ => none

def wipeE (e : Env) : List Nat → Env
  | [] => e
  | v :: vs => (wipeE e vs).set v none

/-- the names of the exceptions -/
def excName : Nat → Str
  | 0 => "InvalidChain" | 1 => "InvalidRow" | 2 => "InvalidNumber" | 3 => "InvalidText" | 4 => "TooMany" | _ => "NothingToUndo"

def ofO {α : Type} (o : Option α) (S : Sto) : R α := match o with
  | some a => .ok a S
  | none => .bad

/-- what a pure call gives back -/
def thaw (S : Sto) : T → Option T
  | .loc l => match lstAt S l with
    | some xs => if T.freeL xs then some (.lst xs) else none
    | none => none
  | .tup xs => (thawL S xs).map .tup
  | .lst xs => (thawL S xs).map .lst
  | .fro xs => if T.freeL xs then some (.fro xs) else none
  | t => some t
where thawL (S : Sto) : List T → Option (List T)
  | [] => some []
  | x :: xs => match thaw S x with
    | some y => (thawL S xs).map (y :: ·)
    | none => none

def callP (fe : FEnv) (f : Nat) (as : List T) (S : Sto) : R T :=
  if T.freeL as then match fe f as [] with
    | .ok t S' => ofO (thaw S' t) S
    | .exc c _ => .exc c S
    | .bad => .bad
  else .bad

/-- a comprehension's turns -/
def compL (cond : Env → Sto → R T) (elt : Env → Sto → R T) (tg : P) (e : Env) : List T → List T → Sto → R (List T)
  | [], acc, S => .ok acc S
  | x :: xs, acc, S => match bindT tg x e with
    | none => .bad
    | some e' => (cond e' S).bind fun b S1 => match b with
      | .bl true => (elt e' S1).bind fun y S2 => if decide (acc.length < lim) then compL cond elt tg e xs (acc ++ [y]) S2 else .bad
      | .bl false => compL cond elt tg e xs acc S1
      | _ => .bad

/-- what a lambda's body may call: one level lower twice -/
def big : Nat := 1000
def lowE (fe : FEnv) : FEnv := fun f as S => fe (f + big) as S
/-- what an own == may answer -/
def eqR (r : R T) : R T := match r with
  | .ok (.bl b) S => .ok (.bl b) S
  | _ => .bad
mutual
def evE : FEnv → E → Env → Sto → R T
  | fe, .var i, e, S => match e[i]? with
    | some (some t) => .ok t S
    | _ => .bad
  | fe, .cst t, _, S => .ok t S
  | fe, .bin op al a b, e, S => (evE fe a e S).bind fun x S1 => (evE fe b e S1).bind fun y S2 => putN al S2 (binT op S2 x y)
  | fe, .neg a, e, S => (evE fe a e S).bind fun x S1 => match x with
    | .int i => .ok (.int (-i)) S1
    | _ => .bad
  | fe, .cmp op a b, e, S => (evE fe a e S).bind fun x S1 => (evE fe b e S1).bind fun y S2 => ofO ((cmpT op S2 x y).map .bl) S2
  | fe, .chain o1 o2 a b c, e, S => (evE fe a e S).bind fun x S1 => (evE fe b e S1).bind fun y S2 => match cmpT o1 S2 x y with
    | some true => (evE fe c e S2).bind fun z S3 => ofO ((cmpT o2 S3 y z).map .bl) S3
    | some false => .ok (.bl false) S2
    | none => .bad
  | fe, .and a b, e, S => (evE fe a e S).bind fun x S1 => match x with
    | .bl true => evE fe b e S1
    | .bl false => .ok (.bl false) S1
    | _ => .bad
  | fe, .or a b, e, S => (evE fe a e S).bind fun x S1 => match x with
    | .bl true => .ok (.bl true) S1
    | .bl false => evE fe b e S1
    | _ => .bad
  | fe, .not a, e, S => (evE fe a e S).bind fun x S1 => match x with
    | .bl b => .ok (.bl (!b)) S1
    | _ => .bad
  | fe, .ite c a b, e, S => (evE fe c e S).bind fun x S1 => match x with
    | .bl true => evE fe a e S1
    | .bl false => evE fe b e S1
    | _ => .bad
  | fe, .tup es, e, S => (evEs fe es e S).bind fun xs S1 => if decide (xs.length ≤ lim) then .ok (.tup xs) S1 else .bad
  | fe, .lst al es, e, S => (evEs fe es e S).bind fun xs S1 => if decide (xs.length ≤ lim) then put al xs S1 else .bad
  | fe, .idx a b, e, S => (evE fe a e S).bind fun x S1 => (evE fe b e S1).bind fun y S2 => ofO (ixT S2 x y) S2
  | fe, .slc al a hl hh lo hi, e, S => (evE fe a e S).bind fun x S1 =>
      (if hl then (evE fe lo e S1).bind fun y S2 => ofO ((asIdx y).map some) S2 else .ok none S1).bind fun l S2 =>
      (if hh then (evE fe hi e S2).bind fun y S3 => ofO ((asIdx y).map some) S3 else .ok none S2).bind fun u S3 =>
      putN al S3 (slcT S3 x l u)
  | fe, .bfn f al es, e, S => (evEs fe es e S).bind fun xs S1 => putN al S1 (bfnT f S1 xs)
  | fe, .met f al o es, e, S => (evE fe o e S).bind fun x S1 => if metOk f S1 x then (evEs fe es e S1).bind fun xs S2 => putN al S2 (bfnT f S2 (x :: xs)) else .bad
  | fe, .isi ty a, e, S => (evE fe a e S).bind fun x S1 => ofO ((isTy ty x).map .bl) S1
  | fe, .call p f es, e, S => (evEs fe es e S).bind fun xs S1 => if p then callP fe f xs S1 else fe f xs S1
  | fe, .comp al own elt tg k i1 i2 hc c, e, S => (evE fe i1 e S).bind fun x S1 => (evE fe i2 e S1).bind fun y S2 => match itT k S2 x y with
    | none => .bad
    | some xs => (compL (fun e S => if hc then evE fe c e S else .ok (.bl true) S) (fun e S => evE fe elt e S) tg (wipeE e own) xs [] S2).bind fun ys S3 => put al ys S3
  | fe, .told a, e, S => match evE (lowE fe) a e S with
    | .ok t S1 => .ok t S1
    | .exc c S1 => if c < 6 then .ok (.tup [.str "error", .str (excName c)]) S1 else .bad
    | .bad => .bad
  | fe, .fld a x, e, S => (evE fe a e S).bind fun t S1 => ofO (fldT S1 t x) S1
  | fe, .meth i m o es, e, S => (evE fe o e S).bind fun t S1 => if metI S1 t m then (evEs fe es e S1).bind fun xs S2 => fe i (t :: xs) S2 else .bad
  | fe, .make i es, e, S => (evEs fe es e S).bind fun xs S1 => (lowE fe i (.loc S1.length :: xs) (S1 ++ [.ins 0 []])).bind fun v S2 => if isNone v then .ok (.loc S1.length) S2 else .bad
  | fe, .size i a, e, S => (evE fe a e S).bind fun t S1 => if (fieldsT S1 t).isSome then (lowE fe i [t] S1).bind fun v S2 => match v with
      | .int n => if decide (0 ≤ n) && decide (n < 2 ^ 62) then .ok (.int n) S2 else .bad
      | _ => .bad
    else .bad
  | fe, .comp2 own p i1 j v, e, S => (evE fe i1 e S).bind fun x S1 => match titems x with
    | none => .bad
    | some xs => match flat2 p j v (wipeE e own) xs [] with
      | none => .bad
      | some ys => .ok (.lst ys) S1
  | fe, .eqo i a b, e, S => (evE fe a e S).bind fun x S1 => (evE fe b e S1).bind fun y S2 => if (fieldsT S2 x).isSome && eqArg S2 y then eqR (fe i [x, y] S2) else .bad
  | fe, .isF a, e, S => (evE fe a e S).bind fun t S1 => ofO ((isFT S1 t).map .bl) S1
def evEs : FEnv → List E → Env → Sto → R (List T)
  | _, [], _, S => .ok [] S
  | fe, a :: r, e, S => (evE fe a e S).bind fun x S1 => (evEs fe r e S1).bind fun xs S2 => .ok (x :: xs) S2
end

/-! ### statements -/
inductive Tg where
  | name (i : Nat)
  | tup (ts : List Tg)
  | sub (o i : E)
  deriving Inhabited
inductive C where
  | expr (a : E)
  | ret (a : E)
  | asg (t : Tg) (a : E)
  | ite (c : E) (a b : List C)
  | loop (tg : P) (k : ItK) (i1 i2 : E) (b : List C)
  | while (c : E) (b : List C)
  | raise (c : Nat)
  | app (o a : E)
  | stf (o : E) (x : Str) (a : E)
  | pass
  | never
  deriving Inhabited

inductive O where
  | nx (e : Env) (S : Sto) | rt (t : T) (S : Sto) | exc (c : Nat) (S : Sto) | bad

def R.out {α : Type} (r : R α) (f : α → Sto → O) : O :=
  match r with
  | .ok a S => f a S
  | .exc c S => .exc c S
  | .bad => .bad
def O.then (o : O) (f : Env → Sto → O) : O :=
  match o with
  | .nx e S => f e S
  | o => o

/-- o[i] = v, o a list of the store -/
def setL (S : Sto) (l : Nat) (k : Int) (v : T) : Option (List T) → Option Sto
  | some xs => (L2.ixN xs.length k).map fun j => S.set l (.lst (xs.set j v))
  | none => none
def setIx (S : Sto) (o i v : T) : Option Sto :=
  match o, i with
  | .loc l, .int k => setL S l k v (lstAt S l)
  | _, _ => none
def appL (S : Sto) (l : Nat) (v : T) : Option (List T) → Option Sto
  | some xs => if decide (xs.length < lim) then some (S.set l (.lst (xs ++ [v]))) else none
  | none => none
def appT (S : Sto) (o v : T) : Option Sto :=
  match o with
  | .loc l => appL S l v (lstAt S l)
  | _ => none

mutual
def asgT (fe : FEnv) : Tg → T → Env → Sto → O
  | .name i, v, e, S => .nx (e.set i (some v)) S
  | .tup ts, v, e, S => match items S v with
    | some xs => if xs.length == ts.length then asgTs fe ts xs e S else .bad
    | none => .bad
  | .sub o i, v, e, S => (evE fe o e S).out fun x S1 => (evE fe i e S1).out fun y S2 => match setIx S2 x y v with
    | some S3 => .nx e S3
    | none => .bad
def asgTs (fe : FEnv) : List Tg → List T → Env → Sto → O
  | [], [], e, S => .nx e S
  | t :: ts, x :: xs, e, S => (asgT fe t x e S).then fun e S => asgTs fe ts xs e S
  | _, _, _, _ => .bad
end

def loopL (body : Env → Sto → O) (tg : P) : List T → Env → Sto → O
  | [], e, S => .nx e S
  | x :: xs, e, S => match bindT tg x e with
    | none => .bad
    | some e' => (body e' S).then fun e S => loopL body tg xs e S
def whileL (cond : Env → Sto → R T) (body : Env → Sto → O) : Nat → Env → Sto → O
  | 0, _, _ => .bad
  | n + 1, e, S => (cond e S).out fun b S1 => match b with
    | .bl true => (body e S1).then fun e S => whileL cond body n e S
    | .bl false => .nx e S1
    | _ => .bad

mutual
def evC (fe : FEnv) (fuel : Nat) : C → Env → Sto → O
  | .expr a, e, S => (evE fe a e S).out fun _ S1 => .nx e S1
  | .ret a, e, S => (evE fe a e S).out fun t S1 => .rt t S1
  | .asg t a, e, S => (evE fe a e S).out fun v S1 => asgT fe t v e S1
  | .ite c a b, e, S => (evE fe c e S).out fun x S1 => match x with
    | .bl true => evCs fe fuel a e S1
    | .bl false => evCs fe fuel b e S1
    | _ => .bad
  | .loop tg k i1 i2 b, e, S => (evE fe i1 e S).out fun x S1 => (evE fe i2 e S1).out fun y S2 => match itT k S2 x y with
    | none => .bad
    | some xs => loopL (fun e S => evCs fe fuel b e S) tg xs e S2
  | .while c b, e, S => whileL (fun e S => evE fe c e S) (fun e S => evCs fe fuel b e S) fuel e S
  | .raise c, _, S => .exc c S
  | .app o a, e, S => (evE fe o e S).out fun x S1 => if isLoc S1 x then (evE fe a e S1).out fun v S2 => match appT S2 x v with
    | some S3 => .nx e S3
    | none => .bad
    else .bad
  | .stf o x a, e, S => (evE fe a e S).out fun v S1 => (evE fe o e S1).out fun t S2 => match stfT S2 t x v with
    | some S3 => .nx e S3
    | none => .bad
  | .pass, e, S => .nx e S
  | .never, _, _ => .bad
def evCs (fe : FEnv) (fuel : Nat) : List C → Env → Sto → O
  | [], e, S => .nx e S
  | c :: r, e, S => (evC fe fuel c e S).then fun e S => evCs fe fuel r e S
end

structure Fd where
  np : Nat
  nl : Nat
  body : List C
  /-- it makes lambdas: not run at the lowest levels -/
  td : Bool := false
  deriving Inhabited
def start (np nl : Nat) (as : List T) : Env := as.map some ++ List.replicate (nl - as.length) none
def runFd (fe : FEnv) (fuel : Nat) (d : Fd) (as : List T) (S : Sto) : R T :=
  if as.length == d.np then match evCs fe fuel d.body (start d.np d.nl as) S with
    | .nx _ S' => .ok .non S'
    | .rt t S' => .ok t S'
    | .exc c S' => .exc c S'
    | .bad => .bad
  else .bad
def runAt (prog : List Fd) (fuel : Nat) (k : Nat) (fe : FEnv) : FEnv := fun f as S => match prog[f]? with
    | some d => if d.td && Nat.blt k 2 then .bad else runFd fe fuel d as S
    | none => .bad
def mean (prog : List Fd) (fuel : Nat) : Nat → FEnv
  | 0 => fun _ _ _ => .bad
  | 1 => fun f as S => if Nat.blt f big then runAt prog fuel 0 (mean prog fuel 0) f as S else .bad
  | k + 2 => fun f as S => if Nat.blt f big then runAt prog fuel (k + 1) (mean prog fuel (k + 1)) f as S else mean prog fuel k (f - big) as S
end FC
end

section
set_option Elab.async false
set_option linter.all false
set_option maxRecDepth 100000
set_option maxHeartbeats 2000000
/-! FcRel: how trees, stores, frames lie in the layer's abstract heap. -/
namespace FC
open PySem PySem.Spec PyProof.Rows L2 LamX

/-- what the text's top has left: the written part, the classes of exceptions, the classes of instances, the tables of code objects -/
structure Gm where
  K : PySem.W.Frag
  exc : Nat → Addr
  ins : Nat → Addr
  tab : List (Addr × Str)

/-- a list that is locked, or the module's own -/
def FrL (K : PySem.W.Frag) (H : Hp) (a : Addr) (xs : List V) : Prop :=
  (∃ o, H a = some (.frz o (.lst xs))) ∨ ∃ (o : Obj) (its : Array Value) (n : Nat), K.lookup a = some o ∧ o.cls = .type "list" ∧ o.dict = none ∧ o.data = .seq its n ∧ its.size ≤ sizeLine ∧ Vals xs its.toList
theorem FrL.sq {K : PySem.W.Frag} {H : Hp} {a : Addr} {xs : List V} (h : FrL K H a xs) : SqL K H a xs := h.elim (fun ⟨o, h⟩ => .inl (.inr ⟨o, h⟩)) .inr
mutual
inductive Rel (K : PySem.W.Frag) (f : Addr → Prop) (r : List Addr) (H : Hp) : T → V → Prop
  | non : Rel K f r H .non .non
  | bl (b : Bool) : Rel K f r H (.bl b) (.bl b)
  | int (i : Int) : Rel K f r H (.int i) (.int i)
  | str (x : Str) : Rel K f r H (.str x) (.str x)
  | tup {a : Addr} {xs : List T} {vs : List V} : SqT K H a vs → RelL K f r H xs vs → Rel K f r H (.tup xs) (.ref a)
  | lst {a : Addr} {xs : List T} {vs : List V} : H a = some (.lst vs) → a ∉ r → ¬ f a → RelL K f r H xs vs → Rel K f r H (.lst xs) (.ref a)
  | fro {a : Addr} {xs : List T} {vs : List V} : FrL K H a vs → RelL K f r H xs vs → Rel K f r H (.fro xs) (.ref a)
  | loc {a : Addr} {l : Nat} : r[l]? = some a → Rel K f r H (.loc l) (.ref a)
inductive RelL (K : PySem.W.Frag) (f : Addr → Prop) (r : List Addr) (H : Hp) : List T → List V → Prop
  | nil : RelL K f r H [] []
  | cons {t : T} {ts : List T} {v : V} {vs : List V} : Rel K f r H t v → RelL K f r H ts vs → RelL K f r H (t :: ts) (v :: vs)
end

def ObR (G : Gm) (f : Addr → Prop) (r : List Addr) (H : Hp) (a : Addr) : Ob → Prop
  | .lst xs => ∃ vs, H a = some (.lst vs) ∧ RelL G.K f r H xs vs
  | .ins c fs => ∃ dx fvs, H a = some (.ins (G.ins c) dx fvs) ∧ fs.map (·.1) = fvs.map (·.1) ∧ RelL G.K f r H (fs.map (·.2)) (fvs.map (·.2))

structure Rl (G : Gm) (f : Addr → Prop) (r : List Addr) (H : Hp) (S : Sto) : Prop where
  len : r.length = S.length
  nd : r.Nodup
  dis : ∀ a ∈ r, ¬ f a
  ob : ∀ (l : Nat) o a, S[l]? = some o → r[l]? = some a → ObR G f r H a o
  fo : ∀ a, f a → ∃ vs, H a = some (.lst vs) ∨ ∃ c dx fs, H a = some (.ins c dx fs)
  tb : Tabs G.tab H

structure Ext (r : List Addr) (H : Hp) (r' : List Addr) (H' : Hp) : Prop where
  pre : ∀ (l : Nat) a, r[l]? = some a → r'[l]? = some a
  keep : ∀ a o, H a = some o → a ∉ r → (∀ ps, o ≠ .tbl ps) → H' a = some o
  new : ∀ a, a ∈ r' → a ∉ r → H a = none ∨ ∃ ps, H a = some (.tbl ps)
  trk : ∀ a o, H a = some o → (∀ ps, o ≠ .tbl ps) → ∃ o', H' a = some o' ∧ ∀ ps, o' ≠ .tbl ps

theorem Ext.refl (r : List Addr) (H : Hp) : Ext r H r H := ⟨fun _ _ h => h, fun _ _ h _ _ => h, fun _ h n => absurd h n, fun _ o h t => ⟨o, h, t⟩⟩
theorem mem_of_at {r : List Addr} {l : Nat} {a : Addr} (h : r[l]? = some a) : a ∈ r := List.mem_of_getElem? h
theorem Ext.sub {r r' : List Addr} {H H' : Hp} (x : Ext r H r' H') {a : Addr} (h : a ∈ r) : a ∈ r' := by
  obtain ⟨l, hl⟩ := List.mem_iff_getElem?.mp h
  exact mem_of_at (x.pre l a hl)
theorem Ext.trans {r r1 r2 : List Addr} {H H1 H2 : Hp} (x : Ext r H r1 H1) (y : Ext r1 H1 r2 H2) : Ext r H r2 H2 where
  pre := fun l a h => y.pre l a (x.pre l a h)
  keep := fun a o h n t => by
    have h1 := x.keep a o h n t
    by_cases m : a ∈ r1
    · rcases x.new a m n with z | ⟨ps, z⟩ <;> rw [h] at z
      · cases z
      · exact absurd (Option.some.inj z) (t ps)
    · exact y.keep a o h1 m t
  new := fun a h n => by
    by_cases m : a ∈ r1
    · exact x.new a m n
    · cases q : H a with
      | none => exact .inl rfl
      | some o =>
        by_cases t : ∃ ps, o = .tbl ps
        · obtain ⟨ps, rfl⟩ := t; exact .inr ⟨ps, rfl⟩
        · obtain ⟨o', h1, h2⟩ := x.trk a o q (fun ps z => t ⟨ps, z⟩)
          rcases y.new a h m with z | ⟨ps, z⟩ <;> rw [h1] at z
          · cases z
          · exact absurd (Option.some.inj z) (h2 ps)
  trk := fun a o h t => let ⟨o', h1, h2⟩ := x.trk a o h t; y.trk a o' h1 h2

section
variable {G : Gm} {f : Addr → Prop} {r r' : List Addr} {H H' : Hp} {S : Sto}

theorem RelL.length : ∀ {ts : List T} {vs : List V}, RelL G.K f r H ts vs → ts.length = vs.length
  | [], _, h => by cases h; rfl
  | _ :: _, _, h => by cases h with | cons _ t => simp [RelL.length t]
/-- an owned place holds a list or an instance -/
theorem Rl.kind (R : Rl G f r H S) {a : Addr} (h : a ∈ r) : (∃ vs, H a = some (.lst vs)) ∨ ∃ c dx fs, H a = some (.ins c dx fs) := by
  obtain ⟨l, hl⟩ := List.mem_iff_getElem?.mp h
  have hs : l < S.length := by rw [← R.len]; exact (List.getElem?_eq_some_iff.mp hl).1
  have q := R.ob l _ a (List.getElem?_eq_getElem hs) hl
  cases e : S[l] with
  | lst xs => rw [e] at q; obtain ⟨vs, q, _⟩ := q; exact .inl ⟨vs, q⟩
  | ins c fs => rw [e] at q; obtain ⟨dx, fvs, q, _⟩ := q; exact .inr ⟨_, _, _, q⟩
def Kd (r : List Addr) (H : Hp) : Prop := ∀ a ∈ r, (∃ vs, H a = some (.lst vs)) ∨ ∃ c dx fs, H a = some (.ins c dx fs)
theorem Rl.kd (R : Rl G f r H S) : Kd r H := fun _ h => R.kind h
theorem Kd.notTup (R : Kd r H) {a : Addr} {xs : List V} (h : H a = some (.tup xs)) : a ∉ r := fun m => by
  rcases R _ m with ⟨_, q⟩ | ⟨_, _, _, q⟩ <;> rw [h] at q <;> cases q
theorem Kd.notFrz (R : Kd r H) {a : Addr} {o : Obj} {u : HO} (h : H a = some (.frz o u)) : a ∉ r := fun m => by
  rcases R _ m with ⟨_, q⟩ | ⟨_, _, _, q⟩ <;> rw [h] at q <;> cases q
theorem sqT_extK {K : PySem.W.Frag} (R : Kd r H) (x : Ext r H r' H') {a : Addr} {vs : List V} (h : SqT K H a vs) : SqT K H' a vs := by
  rcases h with (h | ⟨o, h⟩) | h
  · exact .inl (.inl (x.keep _ _ h (R.notTup h) fun _ z => nomatch z))
  · exact .inl (.inr ⟨o, x.keep _ _ h (R.notFrz h) fun _ z => nomatch z⟩)
  · exact .inr h
theorem frL_extK {K : PySem.W.Frag} (R : Kd r H) (x : Ext r H r' H') {a : Addr} {vs : List V} (h : FrL K H a vs) : FrL K H' a vs := by
  rcases h with ⟨o, h⟩ | h
  · exact .inl ⟨o, x.keep _ _ h (R.notFrz h) fun _ z => nomatch z⟩
  · exact .inr h
theorem sqT_ext (R : Rl G f r H S) (x : Ext r H r' H') {a : Addr} {vs : List V} (h : SqT G.K H a vs) : SqT G.K H' a vs := sqT_extK R.kd x h
theorem frL_ext (R : Rl G f r H S) (x : Ext r H r' H') {a : Addr} {vs : List V} (h : FrL G.K H a vs) : FrL G.K H' a vs := frL_extK R.kd x h
theorem notin_ext (x : Ext r H r' H') {a : Addr} {o : HO} (h : H a = some o) (n : a ∉ r) (t : ∀ ps, o ≠ .tbl ps := by intro _ z; cases z) : a ∉ r' := fun m => by
  rcases x.new a m n with z | ⟨ps, z⟩ <;> rw [h] at z
  · cases z
  · exact absurd (Option.some.inj z) (t ps)
mutual
theorem Rel.extK (R : Kd r H) (x : Ext r H r' H') : ∀ {t : T} {v : V}, Rel G.K f r H t v → Rel G.K f r' H' t v
  | .non, _, h => by cases h; exact .non
  | .bl _, _, h => by cases h; exact .bl _
  | .int _, _, h => by cases h; exact .int _
  | .str _, _, h => by cases h; exact .str _
  | .tup xs, _, h => by cases h with | tup q t => exact .tup (sqT_extK R x q) (RelL.extK R x t)
  | .lst xs, _, h => by cases h with | lst q n m t => exact .lst (x.keep _ _ q n fun _ z => nomatch z) (notin_ext x q n) m (RelL.extK R x t)
  | .fro xs, _, h => by cases h with | fro q t => exact .fro (frL_extK R x q) (RelL.extK R x t)
  | .loc _, _, h => by cases h with | loc q => exact .loc (x.pre _ _ q)
theorem RelL.extK (R : Kd r H) (x : Ext r H r' H') : ∀ {t : List T} {v : List V}, RelL G.K f r H t v → RelL G.K f r' H' t v
  | [], _, h => by cases h; exact .nil
  | _ :: _, _, h => by cases h with | cons a b => exact .cons (Rel.extK R x a) (RelL.extK R x b)
end
theorem Rel.ext (R : Rl G f r H S) (x : Ext r H r' H') {t : T} {v : V} (h : Rel G.K f r H t v) : Rel G.K f r' H' t v := Rel.extK R.kd x h
theorem RelL.ext (R : Rl G f r H S) (x : Ext r H r' H') {t : List T} {v : List V} (h : RelL G.K f r H t v) : RelL G.K f r' H' t v := RelL.extK R.kd x h
theorem RelL.append : ∀ {ts us : List T} {vs ws : List V}, RelL G.K f r H ts vs → RelL G.K f r H us ws → RelL G.K f r H (ts ++ us) (vs ++ ws)
  | [], _, _, _, h, k => by cases h; exact k
  | _ :: _, _, _, _, h, k => by cases h with | cons a b => exact .cons a (RelL.append b k)
theorem RelL.get : ∀ {ts : List T} {vs : List V} {i : Nat} {t : T}, RelL G.K f r H ts vs → ts[i]? = some t → ∃ v, vs[i]? = some v ∧ Rel G.K f r H t v
  | [], _, _, _, _, e => by simp at e
  | t :: ts, _, 0, _, h, e => by
    cases h with
    | cons a b => simp at e; subst e; exact ⟨_, rfl, a⟩
  | t :: ts, _, i + 1, _, h, e => by
    cases h with
    | cons a b =>
      obtain ⟨v, h1, h2⟩ := RelL.get (i := i) b (by simpa using e)
      exact ⟨v, by simpa using h1, h2⟩
theorem RelL.get' : ∀ {ts : List T} {vs : List V} {i : Nat} {v : V}, RelL G.K f r H ts vs → vs[i]? = some v → ∃ t, ts[i]? = some t ∧ Rel G.K f r H t v
  | [], _, _, _, h, e => by cases h; simp at e
  | t :: ts, _, 0, _, h, e => by
    cases h with
    | cons a b => simp at e; subst e; exact ⟨_, rfl, a⟩
  | t :: ts, _, i + 1, _, h, e => by
    cases h with
    | cons a b =>
      obtain ⟨v, h1, h2⟩ := RelL.get' (i := i) b (by simpa using e)
      exact ⟨v, by simpa using h1, h2⟩
theorem RelL.take : ∀ {ts : List T} {vs : List V} (n : Nat), RelL G.K f r H ts vs → RelL G.K f r H (ts.take n) (vs.take n)
  | _, _, 0, _ => .nil
  | [], _, _ + 1, h => by cases h; exact .nil
  | _ :: _, _, n + 1, h => by cases h with | cons a b => exact .cons a (RelL.take n b)
theorem RelL.drop : ∀ {ts : List T} {vs : List V} (n : Nat), RelL G.K f r H ts vs → RelL G.K f r H (ts.drop n) (vs.drop n)
  | _, _, 0, h => h
  | [], _, _ + 1, h => by cases h; exact .nil
  | _ :: _, _, n + 1, h => by cases h with | cons a b => exact RelL.drop n b
theorem RelL.set : ∀ {ts : List T} {vs : List V} (n : Nat) {t : T} {v : V}, Rel G.K f r H t v → RelL G.K f r H ts vs → RelL G.K f r H (ts.set n t) (vs.set n v)
  | [], _, _, _, _, _, h => by cases h; exact .nil
  | _ :: _, _, 0, _, _, k, h => by cases h with | cons a b => exact .cons k b
  | _ :: _, _, n + 1, _, _, k, h => by cases h with | cons a b => exact .cons a (RelL.set n k b)
theorem RelL.rep {ts : List T} {vs : List V} (h : RelL G.K f r H ts vs) : ∀ n : Nat, RelL G.K f r H (List.replicate n ts).flatten (List.replicate n vs).flatten
  | 0 => .nil
  | n + 1 => by
    rw [List.replicate_succ, List.replicate_succ, List.flatten_cons, List.flatten_cons]
    exact h.append (RelL.rep h n)

/-! ### a new list, a list of the store changed -/
theorem upd_ext {p : Addr} {o : HO} (hp : H p = none) (r : List Addr) : Ext r H r (upd H p o) where
  pre := fun _ _ h => h
  keep := fun a u h _ _ => by rw [upd_ne (ne_of_none h hp)]; exact h
  new := fun _ h n => absurd h n
  trk := fun a u h t => ⟨u, by rw [upd_ne (ne_of_none h hp)]; exact h, t⟩
theorem upd_extN {p : Addr} {o : HO} (hp : H p = none) (r : List Addr) : Ext r H (r ++ [p]) (upd H p o) where
  pre := fun l a h => by rw [List.getElem?_append_left (List.getElem?_eq_some_iff.mp h).1]; exact h
  keep := (upd_ext hp r).keep
  new := fun a h n => by
    rcases List.mem_append.mp h with z | z
    · exact absurd z n
    · rw [List.mem_singleton.mp z]; exact .inl hp
  trk := (upd_ext (o := o) hp r).trk
theorem Rl.there (R : Rl G f r H S) {a : Addr} (h : a ∈ r) : H a ≠ none := by
  rcases R.kind h with ⟨_, q⟩ | ⟨_, _, _, q⟩ <;> rw [q] <;> simp
theorem Rl.fthere (R : Rl G f r H S) {a : Addr} (h : f a) : H a ≠ none := by
  obtain ⟨_, q | ⟨_, _, _, q⟩⟩ := R.fo a h <;> rw [q] <;> simp
theorem ObR.extK (R : Kd r H) (x : Ext r H r' H') {a : Addr} {o : Ob} (e : H' a = H a) (h : ObR G f r H a o) : ObR G f r' H' a o := by
  cases o with
  | lst xs => obtain ⟨vs, h1, h2⟩ := h; exact ⟨vs, e.trans h1, RelL.extK R x h2⟩
  | ins c fs => obtain ⟨dx, fvs, h1, h2, h3⟩ := h; exact ⟨dx, fvs, e.trans h1, h2, RelL.extK R x h3⟩
theorem ObR.ext (R : Rl G f r H S) (x : Ext r H r' H') {a : Addr} {o : Ob} (e : H' a = H a) (h : ObR G f r H a o) : ObR G f r' H' a o := ObR.extK R.kd x e h
/-- nothing of the store is touched -/
theorem Rl.stay (R : Rl G f r H S) (x : Ext r H r H') (e : ∀ a ∈ r, H' a = H a) (hf : ∀ a, f a → H' a = H a) (tb : Tabs G.tab H') : Rl G f r H' S where
  len := R.len
  nd := R.nd
  dis := R.dis
  ob := fun l o a h1 h2 => (R.ob l o a h1 h2).ext R x (e a (mem_of_at h2))
  fo := fun a h => by rw [hf a h]; exact R.fo a h
  tb := tb
theorem Rl.fresh (R : Rl G f r H S) {p : Addr} {o : HO} (hp : H p = none) : Rl G f r (upd H p o) S :=
  R.stay (upd_ext hp r) (fun a h => upd_ne fun z => R.there h (z ▸ hp)) (fun a h => upd_ne fun z => R.fthere h (z ▸ hp)) (R.tb.ext fun b u h => by rw [upd_ne (ne_of_none h hp)]; exact h)
/-- a list is laid: a tree -/
theorem Rel.newL (R : Rl G f r H S) {p : Addr} {xs : List T} {vs : List V} (hp : H p = none) (h : RelL G.K f r H xs vs) : Rel G.K f r (upd H p (.lst vs)) (.lst xs) (.ref p) :=
  .lst upd_same (fun m => R.there m hp) (fun m => R.fthere m hp) (h.ext R (upd_ext hp r))
theorem Rel.newT (R : Rl G f r H S) {p : Addr} {xs : List T} {vs : List V} (hp : H p = none) (h : RelL G.K f r H xs vs) : Rel G.K f r (upd H p (.tup vs)) (.tup xs) (.ref p) :=
  .tup (SqT.of upd_same) (h.ext R (upd_ext hp r))
/-- .. a place of the store -/
theorem Rl.more (R : Rl G f r H S) {p : Addr} {xs : List T} {vs : List V} (hp : H p = none) (h : RelL G.K f r H xs vs) : Rl G f (r ++ [p]) (upd H p (.lst vs)) (S ++ [.lst xs]) where
  len := by simp [R.len]
  nd := List.nodup_append.mpr ⟨R.nd, by simp, fun a ha b hb z => by rw [List.mem_singleton.mp hb] at z; exact R.there ha (z ▸ hp)⟩
  dis := fun a h m => by
    rcases List.mem_append.mp h with z | z
    · exact R.dis a z m
    · rw [List.mem_singleton.mp z] at m; exact R.fthere m hp
  ob := fun l o a h1 h2 => by
    have x := upd_extN (o := .lst vs) hp r
    by_cases hl : l < S.length
    · rw [List.getElem?_append_left hl] at h1
      rw [List.getElem?_append_left (by rw [R.len]; exact hl)] at h2
      exact (R.ob l o a h1 h2).ext R x (upd_ne fun z => R.there (mem_of_at h2) (z ▸ hp))
    · rw [List.getElem?_append_right (by omega)] at h1
      rw [List.getElem?_append_right (by rw [R.len]; omega)] at h2
      rw [R.len] at h2
      have e : l - S.length = 0 := by
        cases q : l - S.length with
        | zero => rfl
        | succ n => rw [q] at h1; simp at h1
      rw [e] at h1 h2
      simp at h1 h2
      subst h1 h2
      exact ⟨vs, upd_same, h.ext R x⟩
  fo := fun a h => by rw [upd_ne (show a ≠ p from fun z => R.fthere h (by rw [z]; exact hp))]; exact R.fo a h
  tb := R.tb.ext fun b u h => by rw [upd_ne (ne_of_none h hp)]; exact h
theorem loc_inj (R : Rl G f r H S) {l m : Nat} {a : Addr} (h : r[l]? = some a) (k : r[m]? = some a) : l = m := by
  obtain ⟨h1, e1⟩ := List.getElem?_eq_some_iff.mp h
  obtain ⟨h2, e2⟩ := List.getElem?_eq_some_iff.mp k
  exact (List.getElem_inj R.nd).mp (e1.trans e2.symm)
theorem updo_ext (R : Rl G f r H S) {a : Addr} {o : HO} (h : a ∈ r) (ho : ∀ ps, o ≠ .tbl ps := by intro _ z; cases z) : Ext r H r (upd H a o) where
  pre := fun _ _ h => h
  keep := fun b u e n _ => by rw [upd_ne (show b ≠ a from fun z => n (by rw [z]; exact h))]; exact e
  new := fun _ h n => absurd h n
  trk := fun b u e t => by
    by_cases z : b = a
    · exact ⟨o, by rw [z, upd_same], ho⟩
    · exact ⟨u, by rw [upd_ne z]; exact e, t⟩
/-- a list of the store is changed -/
theorem Rl.write (R : Rl G f r H S) {l : Nat} {a : Addr} {xs : List T} {vs : List V} (hl : r[l]? = some a) (h : RelL G.K f r H xs vs) : Rl G f r (upd H a (.lst vs)) (S.set l (.lst xs)) where
  len := by simp [R.len]
  nd := R.nd
  dis := R.dis
  ob := fun m o b h1 h2 => by
    have x := updo_ext (o := .lst vs) R (mem_of_at hl)
    by_cases e : m = l
    · subst e
      rw [hl] at h2; cases h2
      have hs : m < S.length := by rw [← R.len]; exact (List.getElem?_eq_some_iff.mp hl).1
      rw [List.getElem?_set_self hs] at h1
      cases h1
      exact ⟨vs, upd_same, h.ext R x⟩
    · rw [List.getElem?_set_ne (Ne.symm e)] at h1
      exact (R.ob m o b h1 h2).ext R x (upd_ne fun z => e (loc_inj R (z ▸ h2) hl))
  fo := fun b h => by
    rw [upd_ne (show b ≠ a from fun z => R.dis a (mem_of_at hl) (by rw [← z]; exact h))]
    exact R.fo b h
  tb := by
    have hk := R.kind (mem_of_at hl)
    refine fun p hp => ?_
    obtain ⟨ps, e1, e2, e3⟩ := R.tb p hp
    have n1 : p.1 ≠ a := fun z => by rcases hk with ⟨_, q⟩ | ⟨_, _, _, q⟩ <;> rw [← z, e1] at q <;> cases q
    refine ⟨ps, by rw [upd_ne n1]; exact e1, e2, fun pos cv hc => ?_⟩
    obtain ⟨c, e, k⟩ := e3 pos cv hc
    refine ⟨c, e, ?_⟩
    have n2 : c ≠ a := fun z => by rcases hk with ⟨_, q⟩ | ⟨_, _, _, q⟩ <;> rw [← z, k] at q <;> (unfold CodeO at q; cases q)
    rw [upd_ne n2]
    exact k

/-! ### frames -/
structure EnvR (G : Gm) (f : Addr → Prop) (r : List Addr) (H : Hp) (e : Env) (s : L2.St) : Prop where
  len : e.length = s.length
  at_ : ∀ (i : Nat) t, e[i]? = some (some t) → ∃ v, s[i]? = some (some v) ∧ Rel G.K f r H t v
theorem EnvR.ext {e : Env} {s : L2.St} (h : EnvR G f r H e s) (R : Rl G f r H S) (x : Ext r H r' H') : EnvR G f r' H' e s :=
  ⟨h.len, fun i t q => let ⟨v, h1, h2⟩ := h.at_ i t q; ⟨v, h1, h2.ext R x⟩⟩
theorem EnvR.set {e : Env} {s : L2.St} (h : EnvR G f r H e s) (i : Nat) {t : T} {v : V} (k : Rel G.K f r H t v) : EnvR G f r H (e.set i (some t)) (s.set i (some v)) := by
  refine ⟨by simp [h.len], fun j u q => ?_⟩
  by_cases hj : i = j
  · subst hj
    by_cases hi : i < e.length
    · rw [List.getElem?_set_self hi] at q
      cases q
      rw [List.getElem?_set_self (by rw [← h.len]; exact hi)]
      exact ⟨v, rfl, k⟩
    · rw [List.getElem?_eq_none (by simpa using hi)] at q; cases q
  · rw [List.getElem?_set_ne hj] at q ⊢
    exact h.at_ j u q
theorem EnvR.wipe {e : Env} {s : L2.St} (h : EnvR G f r H e s) : ∀ vs : List Nat, EnvR G f r H (wipeE e vs) (L2.wipe s vs)
  | [] => h
  | v :: vs => by
    have k := EnvR.wipe h vs
    refine ⟨by simp [wipeE, L2.wipe, k.len], fun j u q => ?_⟩
    unfold wipeE at q
    unfold L2.wipe
    by_cases hj : v = j
    · subst hj
      by_cases hi : v < (wipeE e vs).length
      · rw [List.getElem?_set_self hi] at q; cases q
      · rw [List.getElem?_eq_none (by simpa using hi)] at q; cases q
    · rw [List.getElem?_set_ne hj] at q ⊢
      exact k.at_ j u q
end
end FC
end

section
set_option Elab.async false
set_option linter.all false
set_option maxRecDepth 100000
set_option maxHeartbeats 2000000
/-! FcGo: what a run of the interpreter owes to the machine's run; operators. -/
namespace FC
open PySem PySem.Spec PyProof.Rows L2 LamX

def Go {α β : Type} (G : Gm) (W : WX) (f : Addr → Prop) (rel : List Addr → Hp → α → β → Prop) (r : List Addr) (H : Hp) (s : L2.St) (x : R α) (Q : β → Hp → Prop) : Prop :=
  match x with
  | .ok t S' => ∀ r' v H', Ext r H r' H' → Rl G f r' H' S' → rel r' H' t v → Q v H'
  | .exc c S' => ∀ r' H', Ext r H r' H' → Rl G f r' H' S' → W (.ref (G.exc c)) none s H'
  | .bad => False
section
variable {α β γ δ : Type} {G : Gm} {W : WX} {f : Addr → Prop} {rel : List Addr → Hp → α → β → Prop} {rel' : List Addr → Hp → γ → δ → Prop} {r r' : List Addr} {H H' : Hp} {S : Sto} {s : L2.St}
theorem Go.bind {x : R α} {k : α → Sto → R γ} {Q : δ → Hp → Prop} (h : Go G W f rel' r H s (x.bind k) Q) :
    Go G W f rel r H s x fun v H1 => ∃ r1 t S1, x = .ok t S1 ∧ Ext r H r1 H1 ∧ Rl G f r1 H1 S1 ∧ rel r1 H1 t v ∧ Go G W f rel' r1 H1 s (k t S1) Q := by
  cases x with
  | ok t S1 =>
    intro r1 v H1 x1 R1 q1
    refine ⟨r1, t, S1, rfl, x1, R1, q1, ?_⟩
    have h : Go G W f rel' r H s (k t S1) Q := h
    cases e : k t S1 with
    | ok u S2 => rw [e] at h; exact fun r2 v2 H2 x2 R2 q2 => h r2 v2 H2 (x1.trans x2) R2 q2
    | exc c S2 => rw [e] at h; exact fun r2 H2 x2 R2 => h r2 H2 (x1.trans x2) R2
    | bad => rw [e] at h; exact h
  | exc c S1 => exact h
  | bad => exact h
/-- further on -/
theorem Go.from {x : R α} {Q : β → Hp → Prop} (h : Go G W f rel r H s x Q) (x1 : Ext r H r' H') : Go G W f rel r' H' s x Q := by
  cases x with
  | ok u S2 => exact fun r2 v2 H2 x2 R2 q2 => h r2 v2 H2 (x1.trans x2) R2 q2
  | exc c S2 => exact fun r2 H2 x2 R2 => h r2 H2 (x1.trans x2) R2
  | bad => exact h
theorem Go.mono {x : R α} {Q Q' : β → Hp → Prop} (h : Go G W f rel r H s x Q) (q : ∀ v H', Q v H' → Q' v H') : Go G W f rel r H s x Q' := by
  cases x with
  | ok u S2 => exact fun r2 v2 H2 x2 R2 q2 => q _ _ (h r2 v2 H2 x2 R2 q2)
  | exc c S2 => exact h
  | bad => exact h
theorem Go.ok {t : α} {v : β} {Q : β → Hp → Prop} (h : Go G W f rel r H s (.ok t S) Q) (R : Rl G f r H S) (q : rel r H t v) : Q v H := h r v H (Ext.refl _ _) R q
theorem Go.ofO {o : Option α} {Q : β → Hp → Prop} (h : Go G W f rel r H s (ofO o S) Q) : ∃ t, o = some t ∧ Go G W f rel r H s (.ok t S) Q := by
  cases o with
  | none => exact h.elim
  | some t => exact ⟨t, rfl, h⟩
end
/-- trees and values -/
abbrev rT (G : Gm) (f : Addr → Prop) : List Addr → Hp → T → V → Prop := fun r H => Rel G.K f r H
abbrev rL (G : Gm) (f : Addr → Prop) : List Addr → Hp → List T → List V → Prop := fun r H => RelL G.K f r H
abbrev rEq {α : Type} : List Addr → Hp → α → α → Prop := fun _ _ a b => a = b

def TEof (G : Gm) (W : WX) (m : Env → Sto → R T) : TE := fun s H Q => ∃ f r e S, Rl G f r H S ∧ EnvR G f r H e s ∧ Go G W f (rT G f) r H s (m e S) Q
def TAof (G : Gm) (W : WX) (m : Env → Sto → R (List T)) : TA := fun s H Q => ∃ f r e S, Rl G f r H S ∧ EnvR G f r H e s ∧ Go G W f (rL G f) r H s (m e S) Q
theorem peI {X : Cx} {e : Expr} {t t' : TE} (h : PE X e t) (i : ∀ s H Q, t' s H Q → t s H Q) : PE X e t' := ⟨fun pins s σ H Q I q => h.run pins s σ H Q I (i _ _ _ q)⟩
theorem ptI {X : Cx} {e : Expr} {t t' : TT} (h : PT X e t) (i : ∀ s H Q, t' s H Q → t s H Q) : PT X e t' := ⟨fun pins s σ H Q I q => h.run pins s σ H Q I (i _ _ _ q)⟩
theorem paI {X : Cx} {e : List Expr} {t t' : TA} (h : PA X e t) (i : ∀ s H Q, t' s H Q → t s H Q) : PA X e t' := ⟨fun pos pins s σ H Q I q => h.run pos pins s σ H Q I (i _ _ _ q)⟩
theorem psI {X : Cx} {e : Stmt} {t t' : TS} (h : PS X e t) (i : ∀ D s H, t' D s H → t D s H) : PS X e t' := ⟨fun pins s σ H D I q => h.run pins s σ H D I (i _ _ _ q)⟩
theorem pssI {X : Cx} {e : List Stmt} {t t' : TS} (h : PSs X e t) (i : ∀ D s H, t' D s H → t D s H) : PSs X e t' := ⟨fun pins s σ H D I q => h.run pins s σ H D I (i _ _ _ q)⟩

section
variable {G : Gm} {W : WX} {f : Addr → Prop} {r : List Addr} {H : Hp} {S : Sto} {s : L2.St} {Q : VK}
/-- a new list -/
theorem Go.put {al : Bool} {xs : List T} {vs : List V} {p : Addr} (h : Go G W f (rT G f) r H s (put al xs S) Q) (R : Rl G f r H S) (q : RelL G.K f r H xs vs) (hp : H p = none) : Q (.ref p) (upd H p (.lst vs)) := by
  cases al with
  | true =>
    have h : Go G W f (rT G f) r H s (.ok (.loc S.length) (S ++ [.lst xs])) Q := h
    refine h (r ++ [p]) _ _ (upd_extN hp r) (R.more hp q) (.loc ?_)
    rw [List.getElem?_append_right (by rw [R.len]; exact Nat.le_refl _), R.len]
    simp
  | false => exact h r _ _ (upd_ext hp r) (R.fresh hp) (Rel.newL R hp q)
theorem Go.newT {xs : List T} {vs : List V} {p : Addr} (h : Go G W f (rT G f) r H s (.ok (.tup xs) S) Q) (R : Rl G f r H S) (q : RelL G.K f r H xs vs) (hp : H p = none) : Q (.ref p) (upd H p (.tup vs)) :=
  h r _ _ (upd_ext hp r) (R.fresh hp) (Rel.newT R hp q)
theorem Go.putN {al : Bool} {o : Option NT} (h : Go G W f (rT G f) r H s (putN al S o) Q) : (∃ t, o = some (.val t) ∧ Go G W f (rT G f) r H s (.ok t S) Q) ∨ ∃ xs, o = some (.new xs) ∧ Go G W f (rT G f) r H s (FC.put al xs S) Q := by
  cases o with
  | none => exact h.elim
  | some n =>
    cases n with
    | val t => exact .inl ⟨t, rfl, h⟩
    | new xs => exact .inr ⟨xs, rfl, h⟩
theorem lstAt_some {l : Nat} {xs : List T} (e : lstAt S l = some xs) : S[l]? = some (.lst xs) := by
  unfold lstAt at e
  cases hs : S[l]? with
  | none => rw [hs] at e; cases e
  | some o =>
    rw [hs] at e
    cases o with
    | ins c fs => cases e
    | lst ys => cases e; rfl
theorem lstAt_ok (R : Rl G f r H S) {l : Nat} {a : Addr} {xs : List T} (h : r[l]? = some a) (e : lstAt S l = some xs) : ∃ vs, H a = some (.lst vs) ∧ RelL G.K f r H xs vs := R.ob l _ a (lstAt_some e) h
theorem litems_ok (R : Rl G f r H S) {t : T} {v : V} {xs : List T} (k : Rel G.K f r H t v) (e : litems S t = some xs) : ∃ a vs, v = .ref a ∧ H a = some (.lst vs) ∧ RelL G.K f r H xs vs := by
  cases k with
  | lst h n m q => cases e; exact ⟨_, _, rfl, h, q⟩
  | @loc a l h =>
    obtain ⟨vs, h1, h2⟩ := lstAt_ok R h e
    exact ⟨a, vs, rfl, h1, h2⟩
  | non => cases e
  | bl _ => cases e
  | int _ => cases e
  | str _ => cases e
  | tup _ _ => cases e
  | fro _ _ => cases e
theorem items_ok (R : Rl G f r H S) {t : T} {v : V} {xs : List T} (k : Rel G.K f r H t v) (e : items S t = some xs) : ∃ a vs, v = .ref a ∧ (SqL G.K H a vs ∨ SqT G.K H a vs) ∧ RelL G.K f r H xs vs := by
  cases k with
  | lst h n m q => cases e; exact ⟨_, _, rfl, .inl (.of h), q⟩
  | fro h q => cases e; exact ⟨_, _, rfl, .inl h.sq, q⟩
  | tup h q => cases e; exact ⟨_, _, rfl, .inr h, q⟩
  | @loc a l h =>
    obtain ⟨a', vs, h1, h2, h3⟩ := litems_ok R (.loc h) (show litems S (.loc l) = some xs from e)
    exact ⟨a', vs, h1, .inl (.of h2), h3⟩
  | non => cases e
  | bl _ => cases e
  | int _ => cases e
  | str _ => cases e
theorem intsOf_ok : ∀ {ts : List T} {vs : List V} {ns : List Int}, RelL G.K f r H ts vs → intsOf ts = some ns → vs = ns.map V.int
  | [], _, _, h, e => by cases h; cases e; rfl
  | t :: ts, _, ns, h, e => by
    cases h with
    | cons a b =>
      cases a with
      | int i =>
        have e : (intsOf ts).map (i :: ·) = some ns := e
        obtain ⟨ms, h1, h2⟩ := Option.map_eq_some_iff.mp e
        subst h2
        rw [List.map_cons, intsOf_ok b h1]
      | _ => cases e
theorem blsOf_ok : ∀ {ts : List T} {vs : List V} {ns : List Bool}, RelL G.K f r H ts vs → blsOf ts = some ns → vs = ns.map V.bl
  | [], _, _, h, e => by cases h; cases e; rfl
  | t :: ts, _, ns, h, e => by
    cases h with
    | cons a b =>
      cases a with
      | bl i =>
        have e : (blsOf ts).map (i :: ·) = some ns := e
        obtain ⟨ms, h1, h2⟩ := Option.map_eq_some_iff.mp e
        subst h2
        rw [List.map_cons, blsOf_ok b h1]
      | _ => cases e
theorem strsOf_ok : ∀ {ts : List T} {vs : List V} {ns : List Str}, RelL G.K f r H ts vs → strsOf ts = some ns → vs = ns.map V.str
  | [], _, _, h, e => by cases h; cases e; rfl
  | t :: ts, _, ns, h, e => by
    cases h with
    | cons a b =>
      cases a with
      | str i =>
        have e : (strsOf ts).map (i :: ·) = some ns := e
        obtain ⟨ms, h1, h2⟩ := Option.map_eq_some_iff.mp e
        subst h2
        rw [List.map_cons, strsOf_ok b h1]
      | _ => cases e
end

/-! ### operators -/
section
variable {X : Cx} {G : Gm}
/-- a two-place operator of the machine does what b says -/
def BinS (X : Cx) (G : Gm) (op : Operator) (b : BOp) : Prop :=
  ∃ r2, OpR X (binaryOp op) r2 ∧ ∀ (al : Bool) W f r H S s x y u v Q, Rl G f r H S → Rel G.K f r H x u → Rel G.K f r H y v → Go G W f (rT G f) r H s (putN al S (binT b S x y)) Q → r2 u v H Q
theorem limS {n : Nat} (h : n ≤ lim) : n ≤ sizeLine := by rw [sizeLine_eq]; exact h
theorem guard_some {b : Bool} {n m : NT} (h : guard b n = some m) : b = true ∧ n = m := by
  unfold guard at h
  cases b with
  | true => exact ⟨rfl, Option.some.inj h⟩
  | false => cases h
theorem addL_some {o p : Option (List T)} {m : NT} (h : addL o p = some m) : ∃ xs ys, o = some xs ∧ p = some ys ∧ xs.length + ys.length ≤ lim ∧ m = .new (xs ++ ys) := by
  cases o with
  | none => cases h
  | some xs =>
    cases p with
    | none => cases h
    | some ys =>
      obtain ⟨h1, h2⟩ := guard_some (show guard _ _ = _ from h)
      exact ⟨xs, ys, rfl, rfl, of_decide_eq_true h1, h2.symm⟩
theorem addT_some {S : Sto} {a b : T} {m : NT} (h : addT S a b = some m) : (∃ i j, a = .int i ∧ b = .int j ∧ m = .val (.int (i + j))) ∨ (∃ i j, a = .str i ∧ b = .str j ∧ i.length + j.length ≤ lim ∧ m = .val (.str (i ++ j))) ∨
    (∃ i j, a = .tup i ∧ b = .tup j ∧ i.length + j.length ≤ lim ∧ m = .val (.tup (i ++ j))) ∨ ∃ xs ys, litems S a = some xs ∧ litems S b = some ys ∧ xs.length + ys.length ≤ lim ∧ m = .new (xs ++ ys) := by
  unfold addT at h
  split at h
  · exact .inl ⟨_, _, rfl, rfl, (Option.some.inj h).symm⟩
  · obtain ⟨h1, h2⟩ := guard_some h
    exact .inr (.inl ⟨_, _, rfl, rfl, of_decide_eq_true h1, h2.symm⟩)
  · obtain ⟨h1, h2⟩ := guard_some h
    exact .inr (.inr (.inl ⟨_, _, rfl, rfl, of_decide_eq_true h1, h2.symm⟩))
  · exact .inr (.inr (.inr (addL_some h)))
theorem Go.putS {G : Gm} {W : WX} {f : Addr → Prop} {r : List Addr} {H : Hp} {s : L2.St} {S : Sto} {al : Bool} {o : Option NT} {Q : VK} (h : Go G W f (rT G f) r H s (FC.putN al S o) Q) : ∃ m, o = some m ∧ Go G W f (rT G f) r H s (FC.putN al S (some m)) Q := by
  cases o with
  | none => exact h.elim
  | some n => exact ⟨n, rfl, h⟩
theorem Go.val {G : Gm} {W : WX} {f : Addr → Prop} {r : List Addr} {H : Hp} {s : L2.St} {S : Sto} {al : Bool} {t : T} {v : V} {Q : VK} (h : Go G W f (rT G f) r H s (FC.putN al S (some (.val t))) Q) (R : Rl G f r H S) (q : Rel G.K f r H t v) : Q v H :=
  h r v H (Ext.refl _ _) R q
theorem bin_add (hK : X.K = G.K) : BinS X G .Add .add := by
  refine ⟨_, (op_add (X := X)).or (op_add_str.or (op_catA.or op_cat)), fun al W f r H S s x y u v Q R hx hy go => ?_⟩
  obtain ⟨m, e, go⟩ := go.putS
  rcases addT_some e with ⟨i, j, rfl, rfl, rfl⟩ | ⟨i, j, rfl, rfl, hz, rfl⟩ | ⟨i, j, rfl, rfl, hz, rfl⟩ | ⟨xs, ys, e1, e2, hz, rfl⟩
  · cases hx
    cases hy
    exact .inl ⟨i, j, rfl, rfl, Go.val go R (.int _)⟩
  · cases hx
    cases hy
    exact .inr (.inl ⟨i, j, rfl, rfl, limS hz, Go.val go R (.str _)⟩)
  · cases hx with
    | @tup a xs vs h q =>
      cases hy with
      | @tup b ys ws k p =>
        refine .inr (.inr (.inl ⟨a, b, vs, ws, rfl, rfl, by rw [hK]; exact h, by rw [hK]; exact k, by rw [← q.length, ← p.length]; exact limS hz, fun e => ?_, fun _ e => ?_, fun _ _ a ha => ?_⟩))
        · subst e
          cases q
          exact Go.val go R (.tup k p)
        · subst e
          cases p
          refine Go.val go R ?_
          rw [List.append_nil]
          exact .tup h q
        · exact Go.newT (xs := i ++ j) go R (q.append p) ha
  · obtain ⟨a, vs, rfl, h1, q1⟩ := litems_ok R hx e1
    obtain ⟨b, ws, rfl, h2, q2⟩ := litems_ok R hy e2
    refine .inr (.inr (.inr ⟨a, b, vs, ws, rfl, rfl, h1, h2, by rw [← q1.length, ← q2.length]; exact limS hz, fun p hp => ?_⟩))
    exact Go.put (xs := xs ++ ys) go R (q1.append q2) hp
theorem rep_fold (a : Array Nat) : ∀ (n : Nat) (acc : Array Nat), (List.replicate n a).foldl (· ++ ·) acc = (acc.toList ++ (List.replicate n a.toList).flatten).toArray
  | 0, acc => by simp
  | n + 1, acc => by
    rw [List.replicate_succ, List.foldl_cons, rep_fold a n]
    simp [List.replicate_succ]
theorem len_repS {z : Str} {k : Int} : (repS z k).length = k.toNat * z.length := by
  show (((List.replicate k.toNat z.cps.toList).flatten).toArray).size = k.toNat * z.cps.size
  simp
/-- a text, repeated -/
theorem op_repS : OpR X (binaryOp .Mult) (fun x y H Q => ∃ z k, x = .str z ∧ y = .int k ∧ 2 ≤ k ∧ k ≤ 10000 ∧ 0 < z.length ∧ z.length ≤ 1000 ∧ Q (.str (repS z k)) H) := by
  intro pins s σ H x y v u Q I rx ry h
  obtain ⟨z, k, rfl, rfl, h1, h2, h3, h4, q⟩ := h
  obtain ⟨t, rfl⟩ := rx
  obtain ⟨t', rfl⟩ := ry
  have n1 : ¬ k < 1 := by omega
  have n2 : (k == 1 || z.length == 0) = false := by
    rw [beq_eq_false_iff_ne.mpr (by omega), beq_eq_false_iff_ne.mpr (by omega)]
    rfl
  have ml : z.length * k.toNat ≤ 1000 * 10000 := Nat.mul_le_mul h4 (by omega)
  have hr : (decide (k < -(2 ^ 63 : Int)) || decide (k ≥ 2 ^ 63)) = false := by
    rw [decide_eq_false (by omega), decide_eq_false (by omega)]
    rfl
  have hb : ¬ ((z.length : Int) > (2 ^ 63 - 1) / k) := by
    have e : (z.length : Int) ≤ (2 ^ 63 - 1) / k := by
      rw [Int.le_ediv_iff_mul_le (by omega)]
      have c : ((z.length * k.toNat : Nat) : Int) ≤ 10000000 := by omega
      have c2 : ((z.length * k.toNat : Nat) : Int) = (z.length : Int) * k := by
        rw [Int.natCast_mul, Int.toNat_of_nonneg (by omega)]
      omega
    omega
  have hl : Builtin.Str.tooLong (z.length * k.toNat) = false := by
    unfold Builtin.Str.tooLong
    rw [sizeLine_eq]
    exact decide_eq_false (by omega)
  refine P.mul_str hr (fun _ _ => hb) (fun _ _ => hl) ?_
  rw [if_neg n1, n2]
  have e : (⟨(List.replicate k.toNat z.cps).foldl (· ++ ·) #[]⟩ : Str) = repS z k := by
    rw [rep_fold]
    rfl
  rw [e]
  refine ⟨by rw [len_repS, sizeLine_eq, Nat.mul_comm]; omega, .str (repS z k), H, I.tok _, ⟨_, rfl⟩, q⟩
theorem mulT_some {S : Sto} {a b : T} {m : NT} (h : mulT S a b = some m) : (∃ i j, a = .int i ∧ b = .int j ∧ mulOk i j = true ∧ m = .val (.int (i * j))) ∨
    (∃ i k, a = .tup i ∧ b = .int k ∧ 2 ≤ k ∧ k ≤ 1000 ∧ i.length ≤ 1000 ∧ i ≠ [] ∧ m = .val (.tup (rep i k))) ∨ (∃ z k, a = .str z ∧ b = .int k ∧ 2 ≤ k ∧ k ≤ 10000 ∧ 0 < z.length ∧ z.length ≤ 1000 ∧ m = .val (.str (repS z k))) ∨ ∃ xs k, litems S a = some xs ∧ b = .int k ∧ -1000000 ≤ k ∧ k ≤ 1000000 ∧ xs.length * k.toNat ≤ lim ∧ m = .new (rep xs k) := by
  unfold mulT at h
  split at h
  · obtain ⟨h1, h2⟩ := guard_some h
    exact .inl ⟨_, _, rfl, rfl, h1, h2.symm⟩
  · obtain ⟨h1, h2⟩ := guard_some h
    simp only [Bool.and_eq_true, decide_eq_true_eq, Bool.not_eq_true', List.isEmpty_eq_false_iff] at h1
    exact .inr (.inl ⟨_, _, rfl, rfl, h1.1.1.1, h1.1.1.2, h1.1.2, h1.2, h2.symm⟩)
  · obtain ⟨h1, h2⟩ := guard_some h
    simp only [Bool.and_eq_true, decide_eq_true_eq] at h1
    exact .inr (.inr (.inl ⟨_, _, rfl, rfl, h1.1.1.1, h1.1.1.2, h1.1.2, h1.2, h2.symm⟩))
  · rename_i k _ _ _
    cases e : litems S a with
    | none => rw [e] at h; cases h
    | some xs =>
      rw [e] at h
      obtain ⟨h1, h2⟩ := guard_some (show guard _ _ = _ from h)
      simp only [Bool.and_eq_true, decide_eq_true_eq] at h1
      exact .inr (.inr (.inr ⟨xs, _, rfl, rfl, h1.1.1, h1.1.2, h1.2, h2.symm⟩))
  · cases h
theorem mulOk_ok {i j : Int} (h : mulOk i j = true) : CMul i j ∨ CMulW i j := by
  unfold mulOk at h
  simp only [Bool.or_eq_true, decide_eq_true_eq] at h
  rcases h with (h | h) | h
  · exact .inl (.inl ⟨by omega, by omega⟩)
  · exact .inl (.inr ⟨by omega, by omega⟩)
  · exact .inr h
theorem bin_mul (hK : X.K = G.K) : BinS X G .Mult .mul := by
  refine ⟨_, (op_mul (X := X)).or (op_mulW.or (op_repT.or (op_repS.or op_rep))), fun al W f r H S s x y u v Q R hx hy go => ?_⟩
  obtain ⟨m, e, go⟩ := go.putS
  rcases mulT_some e with ⟨i, j, rfl, rfl, hz, rfl⟩ | ⟨i, k, rfl, rfl, h1, h2, h3, h4, rfl⟩ | ⟨z, k, rfl, rfl, h1, h2, h3, h4, rfl⟩ | ⟨xs, k, e1, rfl, h1, h2, h3, rfl⟩
  · cases hx
    cases hy
    have q := Go.val go R (.int _)
    rcases mulOk_ok hz with z | z
    · exact .inl ⟨i, j, rfl, rfl, z, q⟩
    · exact .inr (.inl ⟨i, j, rfl, rfl, z, q⟩)
  · cases hx with
    | @tup a xs vs h q =>
      cases hy
      refine .inr (.inr (.inl ⟨a, k, vs, rfl, rfl, by rw [hK]; exact h, fun e => h4 ?_, h1, h2, by rw [← q.length]; exact h3, fun p hp => ?_⟩))
      · subst e
        cases q
        rfl
      · exact Go.newT (xs := rep i k) go R (q.rep _) hp
  · cases hx
    cases hy
    exact .inr (.inr (.inr (.inl ⟨z, k, rfl, rfl, h1, h2, h3, h4, Go.val go R (.str _)⟩)))
  · obtain ⟨a, vs, rfl, h4, q1⟩ := litems_ok R hx e1
    cases hy
    refine .inr (.inr (.inr (.inr ⟨a, k, vs, rfl, rfl, h4, by omega, by omega, by rw [← q1.length]; exact limS h3, fun p hp => ?_⟩)))
    exact Go.put (xs := rep xs k) go R (q1.rep _) hp
theorem bin_int {op : Operator} {b : BOp} {C : Int → Int → Prop} {g : Int → Int → Int} (ho : OpR X (binaryOp op) (rI C fun i j => .int (g i j)))
    (h : ∀ S x y m, binT b S x y = some m → ∃ i j, x = .int i ∧ y = .int j ∧ C i j ∧ m = .val (.int (g i j))) : BinS X G op b := by
  refine ⟨_, ho, fun al W f r H S s x y u v Q R hx hy go => ?_⟩
  obtain ⟨m, e, go⟩ := go.putS
  obtain ⟨i, j, rfl, rfl, c, rfl⟩ := h S x y m e
  cases hx
  cases hy
  exact ⟨i, j, rfl, rfl, c, Go.val go R (.int _)⟩
theorem opC {f : Value → Value → Sem Value} {g : Int → Int → V} (h : OpR X f (rI0 g)) : OpR X f (rI (fun _ _ => True) g) := fun pins s σ H x y v u Q I rx ry ⟨i, j, e1, e2, _, q⟩ => h pins s σ H x y v u Q I rx ry ⟨i, j, e1, e2, q⟩
theorem bin_sub : BinS X G .Sub .sub := bin_int (C := fun _ _ => True) (g := fun i j => i - j) (opC op_sub) fun S x y m e => by
  cases x <;> try (cases e; done)
  cases y <;> try (cases e; done)
  exact ⟨_, _, rfl, rfl, trivial, (Option.some.inj e).symm⟩
theorem bin_fdiv : BinS X G .FloorDiv .fdiv := bin_int (C := CDivW) (g := fun i j => i / j) op_fdivW fun S x y m e => by
  cases x <;> try (cases e; done)
  cases y <;> try (cases e; done)
  obtain ⟨h1, h2⟩ := guard_some (show guard _ _ = _ from e)
  unfold divOk at h1
  simp only [Bool.and_eq_true, decide_eq_true_eq] at h1
  exact ⟨_, _, rfl, rfl, h1, h2.symm⟩
theorem bin_mod : BinS X G .Mod .mod := bin_int (C := fun _ j => 0 < j) (g := fun i j => i % j) op_mod fun S x y m e => by
  cases x <;> try (cases e; done)
  cases y <;> try (cases e; done)
  obtain ⟨h1, h2⟩ := guard_some (show guard _ _ = _ from e)
  exact ⟨_, _, rfl, rfl, of_decide_eq_true h1, h2.symm⟩
theorem bin_pow : BinS X G .Pow .pow := bin_int (C := CPow) (g := fun i j => i ^ j.toNat) op_pow fun S x y m e => by
  cases x <;> try (cases e; done)
  cases y <;> try (cases e; done)
  obtain ⟨h1, h2⟩ := guard_some (show guard _ _ = _ from e)
  simp only [Bool.and_eq_true, decide_eq_true_eq] at h1
  exact ⟨_, _, rfl, rfl, ⟨h1.1.1, by omega, by omega⟩, h2.symm⟩
end
end FC
end

section
set_option Elab.async false
set_option linter.all false
set_option maxRecDepth 100000
set_option maxHeartbeats 2000000
/-! FcOps: comparisons, built-ins, subscripts of the interpreter against the layer's rules. -/
namespace FC
open PySem PySem.Spec PyProof.Rows L2 LamX
section
variable {X : Cx} {G : Gm} {W : WX} {f : Addr → Prop} {r : List Addr} {H : Hp} {S : Sto} {s : L2.St} {Q : VK}

/-! ### data -/
mutual
theorem Rel.dp : ∀ {t : T} {v : V}, Rel G.K f r H t v → t.data.canLay0 = true → Dp G.K H v t.data
  | .non, _, h, _ => by cases h; exact .non
  | .bl _, _, h, _ => by cases h; exact .bl _
  | .int _, _, h, _ => by cases h; exact .int _
  | .str _, _, h, _ => by cases h; exact .str _
  | .tup xs, _, h, c => by cases h with | tup q t => exact .tup q (RelL.dp t c)
  | .lst xs, _, h, c => by cases h with | lst q n m t => exact .lst (SqL.of q) (RelL.dp t c)
  | .fro xs, _, h, c => by cases h with | fro q t => exact .lst q.sq (RelL.dp t c)
  | .loc _, _, h, c => absurd (show false = true from c) Bool.false_ne_true
theorem RelL.dp : ∀ {t : List T} {v : List V}, RelL G.K f r H t v → PyData.canLayAll0 (T.dataL t) = true → DpAll G.K H v (T.dataL t)
  | [], _, h, _ => by cases h; exact .nil
  | _ :: _, _, h, c => by
    have c' := Bool.and_eq_true_iff.mp (show (_ && _) = true from c)
    cases h with | cons a b => exact .cons (Rel.dp a c'.1) (RelL.dp b c'.2)
end
theorem dataOf_dp (R : Rl G f r H S) {t : T} {v : V} (h : Rel G.K f r H t v) (c : (dataOf S t).canLay0 = true) : Dp G.K H v (dataOf S t) := by
  cases h with
  | @loc a l q =>
    unfold dataOf at c ⊢
    dsimp only at c ⊢
    cases e : lstAt S l with
    | none => rw [e] at c; exact absurd (show false = true from c) Bool.false_ne_true
    | some xs =>
      rw [e] at c
      obtain ⟨vs, h1, h2⟩ := lstAt_ok R q e
      exact .lst (SqL.of h1) (h2.dp c)
  | non => exact .non
  | bl _ => exact .bl _
  | int _ => exact .int _
  | str _ => exact .str _
  | tup a b => exact Rel.dp (.tup a b) c
  | lst a b d e => exact Rel.dp (.lst a b d e) c
  | fro a b => exact Rel.dp (.fro a b) c
theorem eqD_some {a b : PyData} {k : Bool} (h : eqD a b = some k) : SeqAt.shaped a = true ∧ SeqAt.shaped b = true ∧ PyData.eqv a b = k := by
  unfold eqD at h
  split at h
  · rename_i c
    have c := Bool.and_eq_true_iff.mp c
    exact ⟨c.1, c.2, Option.some.inj h⟩
  · cases h

/-- a comparison of the machine does what c says -/
def CmpS (X : Cx) (G : Gm) (op : CmpOp) (c : COp) : Prop :=
  ∃ r2, OpR X (compareOp op) r2 ∧ ∀ f r H S x y u v Q k, Rl G f r H S → Rel G.K f r H x u → Rel G.K f r H y v → cmpT c S x y = some k → Q (.bl k) H → r2 u v H Q
theorem cmp_eq (hK : X.K = G.K) (hu : X.A.units + 64 < cLine) : CmpS X G .Eq .eq := by
  refine ⟨_, op_eqD hu, fun f r H S x y u v Q k R hx hy e q => ?_⟩
  obtain ⟨h1, h2, h3⟩ := eqD_some (show eqD _ _ = _ from e)
  subst h3
  refine ⟨_, _, by rw [hK]; exact dataOf_dp R hx (SeqAt.canLay_of_shaped h1), by rw [hK]; exact dataOf_dp R hy (SeqAt.canLay_of_shaped h2), h1, h2, q⟩
theorem cmp_ne (hK : X.K = G.K) (hu : X.A.units + 64 < cLine) : CmpS X G .NotEq .ne := by
  refine ⟨_, op_neD hu, fun f r H S x y u v Q k R hx hy e q => ?_⟩
  obtain ⟨k', e', rfl⟩ := Option.map_eq_some_iff.mp (show (eqT S x y).map (!·) = some k from e)
  obtain ⟨h1, h2, h3⟩ := eqD_some (show eqD _ _ = _ from e')
  subst h3
  refine ⟨_, _, by rw [hK]; exact dataOf_dp R hx (SeqAt.canLay_of_shaped h1), by rw [hK]; exact dataOf_dp R hy (SeqAt.canLay_of_shaped h2), h1, h2, q⟩
theorem cmpI_some {p : Int → Int → Bool} {a b : T} {k : Bool} (h : cmpI p a b = some k) : ∃ i j, a = .int i ∧ b = .int j ∧ k = p i j := by
  unfold cmpI at h
  split at h
  · exact ⟨_, _, rfl, rfl, (Option.some.inj h).symm⟩
  · cases h
theorem cmp_int {op : CmpOp} {c : COp} {p : Int → Int → Bool} (ho : OpR X (compareOp op) (rI0 fun i j => .bl (p i j))) (h : ∀ S x y, cmpT c S x y = cmpI p x y) : CmpS X G op c := by
  refine ⟨_, ho, fun f r H S x y u v Q k R hx hy e q => ?_⟩
  rw [h] at e
  obtain ⟨i, j, rfl, rfl, rfl⟩ := cmpI_some e
  cases hx
  cases hy
  exact ⟨i, j, rfl, rfl, q⟩
theorem flatV_of {t : T} {v : V} (h : Rel G.K f r H t v) (k : flat t = true) : flatV v = true := by
  cases h <;> first | rfl | exact absurd (show false = true from k) Bool.false_ne_true
theorem eqV_of {x y : T} {u v : V} (hx : Rel G.K f r H x u) (hy : Rel G.K f r H y v) (kx : flat x = true) (ky : flat y = true) : eqV u v = PyData.eqv x.data y.data := by
  cases hx <;> cases hy <;> first | rfl | exact absurd (show false = true from kx) Bool.false_ne_true | exact absurd (show false = true from ky) Bool.false_ne_true
theorem flats_of : ∀ {ts : List T} {vs : List V}, RelL G.K f r H ts vs → ts.all flat = true → vs.all flatV = true
  | [], _, h, _ => by cases h; rfl
  | _ :: _, _, h, k => by
    cases h with
    | cons a b =>
      rw [List.all_cons, Bool.and_eq_true] at k ⊢
      exact ⟨flatV_of a k.1, flats_of b k.2⟩
theorem inV_of {x : T} {u : V} (hx : Rel G.K f r H x u) (kx : flat x = true) : ∀ {ts : List T} {vs : List V}, RelL G.K f r H ts vs → ts.all flat = true → inV u vs = inT x ts
  | [], _, h, _ => by cases h; rfl
  | t :: ts, _, h, k => by
    cases h with
    | cons a b =>
      rw [List.all_cons, Bool.and_eq_true] at k
      have e := inV_of hx kx b k.2
      unfold inV inT at e ⊢
      rw [List.any_cons, List.any_cons, eqV_of a hx k.1 kx, e]
theorem memT_some {a b : T} {k : Bool} (h : memT S a b = some k) : (∃ x y, a = .str x ∧ b = .str y ∧ k = !(Builtin.Str.occurrences y x 0 y.length 1).isEmpty) ∨ ∃ xs, items S b = some xs ∧ flat a = true ∧ xs.all flat = true ∧ k = inT a xs := by
  unfold memT at h
  split at h
  · exact .inl ⟨_, _, rfl, rfl, (Option.some.inj h).symm⟩
  · unfold inL at h
    cases e : items S b with
    | none => rw [e] at h; cases h
    | some xs =>
      rw [e] at h
      dsimp only [Option.bind_some] at h
      split at h
      · rename_i c
        have c := Bool.and_eq_true_iff.mp c
        exact .inr ⟨xs, rfl, c.1, c.2, (Option.some.inj h).symm⟩
      · cases h
theorem cmp_in (hK : X.K = G.K) : CmpS X G .In .isin := by
  refine ⟨_, op_in_str.or op_in_seq, fun f r H S x y u v Q k R hx hy e q => ?_⟩
  rcases memT_some (show memT S x y = _ from e) with ⟨a, b, rfl, rfl, rfl⟩ | ⟨xs, e1, k1, k2, rfl⟩
  · cases hx
    cases hy
    exact .inl ⟨a, b, rfl, rfl, q⟩
  · obtain ⟨p, vs, rfl, h1, h2⟩ := items_ok R hy e1
    exact .inr ⟨p, vs, rfl, by rw [hK]; exact h1, flatV_of hx k1, flats_of h2 k2, by rw [inV_of hx k1 h2 k2]; exact q⟩
theorem cmp_notin (hK : X.K = G.K) : CmpS X G .NotIn .notin := by
  refine ⟨_, op_notIn_str.or op_notIn_seq, fun f r H S x y u v Q k R hx hy e q => ?_⟩
  obtain ⟨k', e', rfl⟩ := Option.map_eq_some_iff.mp (show (memT S x y).map (!·) = some k from e)
  rcases memT_some e' with ⟨a, b, rfl, rfl, rfl⟩ | ⟨xs, e1, k1, k2, rfl⟩
  · cases hx
    cases hy
    exact .inl ⟨a, b, rfl, rfl, q⟩
  · obtain ⟨p, vs, rfl, h1, h2⟩ := items_ok R hy e1
    exact .inr ⟨p, vs, rfl, by rw [hK]; exact h1, flatV_of hx k1, flats_of h2 k2, by rw [inV_of hx k1 h2 k2]; exact q⟩
theorem isNone_of {t : T} {v : V} (h : Rel G.K f r H t v) : decide (v = V.non) = isNone t := by
  cases h <;> first | rfl | exact decide_eq_false (fun z => nomatch z)
theorem cmp_isN : CmpS X G .Is .isN := by
  refine ⟨_, op_isN, fun f r H S x y u v Q k R hx hy e q => ?_⟩
  have e : (if isNone y then some (isNone x) else none) = some k := e
  have e' := isNone_of hy
  cases hn : isNone y with
  | false => rw [hn] at e; cases e
  | true =>
    rw [hn] at e e'
    cases e
    exact ⟨of_decide_eq_true e', by rw [isNone_of hx]; exact q⟩
theorem cmp_notN : CmpS X G .IsNot .notN := by
  refine ⟨_, op_notN, fun f r H S x y u v Q k R hx hy e q => ?_⟩
  have e : (if isNone y then some (!isNone x) else none) = some k := e
  have e' := isNone_of hy
  cases hn : isNone y with
  | false => rw [hn] at e; cases e
  | true =>
    rw [hn] at e e'
    cases e
    exact ⟨of_decide_eq_true e', by rw [isNone_of hx]; exact q⟩
/-- the comparisons' names -/
def cmpOp : COp → CmpOp
  | .eq => .Eq | .ne => .NotEq | .lt => .Lt | .le => .LtE | .gt => .Gt | .ge => .GtE | .isin => .In | .notin => .NotIn | .isN => .Is | .notN => .IsNot
theorem cmp_all (hK : X.K = G.K) (hu : X.A.units + 64 < cLine) : ∀ c, CmpS X G (cmpOp c) c
  | .eq => cmp_eq hK hu
  | .ne => cmp_ne hK hu
  | .lt => cmp_int op_lt fun _ _ _ => rfl
  | .le => cmp_int op_le fun _ _ _ => rfl
  | .gt => cmp_int op_gt fun _ _ _ => rfl
  | .ge => cmp_int op_ge fun _ _ _ => rfl
  | .isin => cmp_in hK
  | .notin => cmp_notin hK
  | .isN => cmp_isN
  | .notN => cmp_notN
def binOp : BOp → Operator
  | .add => .Add | .sub => .Sub | .mul => .Mult | .fdiv => .FloorDiv | .mod => .Mod | .pow => .Pow
theorem bin_all (hK : X.K = G.K) : ∀ c, BinS X G (binOp c) c
  | .add => bin_add hK
  | .sub => bin_sub
  | .mul => bin_mul hK
  | .fdiv => bin_fdiv
  | .mod => bin_mod
  | .pow => bin_pow

/-! ### built-in functions by values -/
def CallS (X : Cx) (G : Gm) (fv : Value) (b : BFn) : Prop :=
  ∃ r2, CallR X fv r2 ∧ ∀ (al : Bool) W f r H S s xs us Q, Rl G f r H S → RelL G.K f r H xs us → Go G W f (rT G f) r H s (FC.putN al S (bfnT b S xs)) Q → r2 us H Q
theorem one_of {ts : List T} {vs : List V} (h : RelL G.K f r H ts vs) {m : NT} {k : T → Option NT} (e : one1 k ts = some m) : ∃ t v, ts = [t] ∧ vs = [v] ∧ Rel G.K f r H t v ∧ k t = some m := by
  match ts, vs, h, e with
  | [t], _, .cons a .nil, e => exact ⟨t, _, rfl, rfl, a, e⟩
  | [], _, _, e => cases e
  | _ :: _ :: _, _, _, e => cases e
theorem two_of {ts : List T} {vs : List V} (h : RelL G.K f r H ts vs) {m : NT} {k : T → T → Option NT} (e : two2 k ts = some m) : ∃ t u v w, ts = [t, u] ∧ vs = [v, w] ∧ Rel G.K f r H t v ∧ Rel G.K f r H u w ∧ k t u = some m := by
  match ts, vs, h, e with
  | [t, u], _, .cons a (.cons b .nil), e => exact ⟨t, u, _, _, rfl, rfl, a, b, e⟩
  | [], _, _, e => cases e
  | [_], _, _, e => cases e
  | _ :: _ :: _ :: _, _, _, e => cases e
theorem vI_some {o : Option Int} {m : NT} (h : vI o = some m) : ∃ n, o = some n ∧ m = .val (.int n) := by
  obtain ⟨n, h1, h2⟩ := Option.map_eq_some_iff.mp h
  exact ⟨n, h1, h2.symm⟩
theorem lenV_of (R : Rl G f r H S) (hK : X.K = G.K) {t : T} {v : V} {n : Int} (h : Rel G.K f r H t v) (e : lenT S t = some n) : ∃ k : Nat, n = k ∧ LenV X.K v H k := by
  rw [hK]
  have sq : ∀ xs, items S t = some xs → n = (xs.length : Int) → ∃ k : Nat, n = k ∧ LenV G.K v H k := by
    intro xs e1 e2
    obtain ⟨a, vs, rfl, h1, h2⟩ := items_ok R h e1
    refine ⟨xs.length, e2, ?_⟩
    rcases h1 with h1 | h1
    · exact .inl ⟨vs, h1, h2.length⟩
    · exact .inr ⟨vs, h1, h2.length⟩
  cases h with
  | str z =>
    have e : (if decide (z.length ≤ lim) then some (z.length : Int) else none) = some n := e
    split at e
    · rename_i c
      exact ⟨z.length, (Option.some.inj e).symm, limS (of_decide_eq_true c), rfl⟩
    · cases e
  | tup a b => obtain ⟨xs, e1, e2⟩ := Option.map_eq_some_iff.mp (show (items S (.tup _)).map (fun xs => (xs.length : Int)) = some n from e); exact sq xs e1 e2.symm
  | lst a b c d => obtain ⟨xs, e1, e2⟩ := Option.map_eq_some_iff.mp (show (items S (.lst _)).map (fun xs => (xs.length : Int)) = some n from e); exact sq xs e1 e2.symm
  | fro a b => obtain ⟨xs, e1, e2⟩ := Option.map_eq_some_iff.mp (show (items S (.fro _)).map (fun xs => (xs.length : Int)) = some n from e); exact sq xs e1 e2.symm
  | loc a => obtain ⟨xs, e1, e2⟩ := Option.map_eq_some_iff.mp (show (items S (.loc _)).map (fun xs => (xs.length : Int)) = some n from e); exact sq xs e1 e2.symm
  | non => cases e
  | bl _ => cases e
  | int _ => cases e
theorem call_lenS (hK : X.K = G.K) : CallS X G (.builtin "len") .len := by
  refine ⟨_, call_len, fun al W f r H S s xs us Q R h go => ?_⟩
  obtain ⟨m, e0, go⟩ := go.putS
  obtain ⟨t, v, rfl, rfl, hr, e1⟩ := one_of h (k := fun a => vI (lenT S a)) e0
  obtain ⟨n, e2, rfl⟩ := vI_some e1
  obtain ⟨k, rfl, hl⟩ := lenV_of R hK hr e2
  exact ⟨v, k, rfl, hl, Go.val go R (.int _)⟩
theorem call_allS (hK : X.K = G.K) (hc : X.calm = true) : CallS X G (.builtin "all") .all := by
  refine ⟨_, cr_all hc, fun al W f r H S s xs us Q R h go => ?_⟩
  obtain ⟨m, e0, go⟩ := go.putS
  obtain ⟨t, v, rfl, rfl, hr, e1⟩ := one_of h (k := allN S) e0
  obtain ⟨bs, e2, rfl⟩ := Option.map_eq_some_iff.mp e1
  obtain ⟨xs, b1, b2⟩ := Option.bind_eq_some_iff.mp e2
  obtain ⟨a, vs, rfl, h1, h2⟩ := litems_ok R hr b1
  rw [blsOf_ok h2 b2] at h1
  exact ⟨a, bs, rfl, by rw [hK]; exact SqL.of h1, Go.val go R (.bl _)⟩
theorem call_anyS (hK : X.K = G.K) (hc : X.calm = true) : CallS X G (.builtin "any") .any := by
  refine ⟨_, cr_any hc, fun al W f r H S s xs us Q R h go => ?_⟩
  obtain ⟨m, e0, go⟩ := go.putS
  obtain ⟨t, v, rfl, rfl, hr, e1⟩ := one_of h (k := anyN S) e0
  obtain ⟨bs, e2, rfl⟩ := Option.map_eq_some_iff.mp e1
  obtain ⟨xs, b1, b2⟩ := Option.bind_eq_some_iff.mp e2
  obtain ⟨a, vs, rfl, h1, h2⟩ := litems_ok R hr b1
  rw [blsOf_ok h2 b2] at h1
  exact ⟨a, bs, rfl, by rw [hK]; exact SqL.of h1, Go.val go R (.bl _)⟩
theorem call_sumS (hK : X.K = G.K) (hc : X.calm = true) : CallS X G (.builtin "sum") .sum := by
  refine ⟨_, cr_sum hc, fun al W f r H S s xs us Q R h go => ?_⟩
  obtain ⟨m, e0, go⟩ := go.putS
  obtain ⟨t, v, rfl, rfl, hr, e1⟩ := one_of h (k := sumN S) e0
  obtain ⟨n, e2, rfl⟩ := vI_some e1
  obtain ⟨bs, e3, rfl⟩ := Option.map_eq_some_iff.mp e2
  obtain ⟨xs, b1, b2⟩ := Option.bind_eq_some_iff.mp e3
  obtain ⟨a, vs, rfl, h1, h2⟩ := litems_ok R hr b1
  rw [intsOf_ok h2 b2] at h1
  exact ⟨a, bs, rfl, by rw [hK]; exact SqL.of h1, Go.val go R (.int _)⟩
theorem maxL_spec : ∀ (xs : List Int) (x : Int), (xs.foldl (fun m y => if y > m then y else m) x) ∈ x :: xs ∧ ∀ y ∈ x :: xs, y ≤ xs.foldl (fun m y => if y > m then y else m) x
  | [], x => ⟨by simp, fun y h => by simp at h; subst h; exact Int.le_refl _⟩
  | z :: zs, x => by
    obtain ⟨h1, h2⟩ := maxL_spec zs (if z > x then z else x)
    refine ⟨?_, fun y hy => ?_⟩
    · rw [List.foldl_cons]
      rcases List.mem_cons.mp h1 with h1 | h1
      · rw [h1]
        split <;> simp
      · simp [h1]
    · rw [List.foldl_cons]
      have h3 := h2 (if z > x then z else x) (by simp)
      have h4 : x ≤ (if z > x then z else x) ∧ z ≤ (if z > x then z else x) := by split <;> omega
      rcases List.mem_cons.mp hy with rfl | hy
      · omega
      · rcases List.mem_cons.mp hy with rfl | hy
        · omega
        · exact h2 y (by simp [hy])
theorem minL_spec : ∀ (xs : List Int) (x : Int), (xs.foldl (fun m y => if y < m then y else m) x) ∈ x :: xs ∧ ∀ y ∈ x :: xs, xs.foldl (fun m y => if y < m then y else m) x ≤ y
  | [], x => ⟨by simp, fun y h => by simp at h; subst h; exact Int.le_refl _⟩
  | z :: zs, x => by
    obtain ⟨h1, h2⟩ := minL_spec zs (if z < x then z else x)
    refine ⟨?_, fun y hy => ?_⟩
    · rw [List.foldl_cons]
      rcases List.mem_cons.mp h1 with h1 | h1
      · rw [h1]
        split <;> simp
      · simp [h1]
    · rw [List.foldl_cons]
      have h3 := h2 (if z < x then z else x) (by simp)
      have h4 : (if z < x then z else x) ≤ x ∧ (if z < x then z else x) ≤ z := by split <;> omega
      rcases List.mem_cons.mp hy with rfl | hy
      · omega
      · rcases List.mem_cons.mp hy with rfl | hy
        · omega
        · exact h2 y (by simp [hy])
theorem maxT_some {k : List Int → Option Int} {xs : List T} {n : Int} (h : maxT S k xs = some n) : (∃ i j, xs = [.int i, .int j] ∧ k [i, j] = some n) ∨ ∃ a ys ns, xs = [a] ∧ litems S a = some ys ∧ intsOf ys = some ns ∧ k ns = some n := by
  unfold maxT at h
  split at h
  · exact .inl ⟨_, _, rfl, h⟩
  · obtain ⟨ns, h1, h2⟩ := Option.bind_eq_some_iff.mp h
    obtain ⟨ys, h3, h4⟩ := Option.bind_eq_some_iff.mp h1
    exact .inr ⟨_, ys, ns, rfl, h3, h4, h2⟩
  · cases h
theorem two_ints {i j : Int} {us : List V} (h : RelL G.K f r H [.int i, .int j] us) : us = [.int i, .int j] := by
  cases h with
  | cons a b =>
    cases b with
    | cons c d =>
      cases d
      cases a
      cases c
      rfl
theorem call_maxS (hK : X.K = G.K) (hc : X.calm = true) : CallS X G (.builtin "max") .max := by
  refine ⟨_, (call_max2 hc).or (cr_max hc), fun al W f r H S s xs us Q R h go => ?_⟩
  obtain ⟨m, e0, go⟩ := go.putS
  obtain ⟨n, e1, rfl⟩ := vI_some (show vI (maxT S maxL xs) = _ from e0)
  rcases maxT_some e1 with ⟨i, j, rfl, e1⟩ | ⟨a, ys, ns, rfl, e1, e2, e3⟩
  · cases e1
    exact .inl ⟨i, j, two_ints h, Go.val go R (.int _)⟩
  · cases h with
    | cons a b =>
      cases b
      obtain ⟨p, vs, rfl, h1, h2⟩ := litems_ok R a e1
      rw [intsOf_ok h2 e2] at h1
      cases ns with
      | nil => cases e3
      | cons y zs =>
        have e3 : some (zs.foldl (fun m y => if y > m then y else m) y) = some n := e3
        cases e3
        refine .inr ⟨p, y :: zs, rfl, by rw [hK]; exact SqL.of h1, by simp, fun k hk hle => ?_⟩
        obtain ⟨s1, s2⟩ := maxL_spec zs y
        have e4 : zs.foldl (fun m y => if y > m then y else m) y = k := Int.le_antisymm (hle _ s1) (s2 _ hk)
        rw [← e4]
        exact Go.val go R (.int _)
theorem call_minS (hK : X.K = G.K) (hc : X.calm = true) : CallS X G (.builtin "min") .min := by
  refine ⟨_, (call_min2 hc).or (cr_min hc), fun al W f r H S s xs us Q R h go => ?_⟩
  obtain ⟨m, e0, go⟩ := go.putS
  obtain ⟨n, e1, rfl⟩ := vI_some (show vI (maxT S minL xs) = _ from e0)
  rcases maxT_some e1 with ⟨i, j, rfl, e1⟩ | ⟨a, ys, ns, rfl, e1, e2, e3⟩
  · cases e1
    exact .inl ⟨i, j, two_ints h, Go.val go R (.int _)⟩
  · cases h with
    | cons a b =>
      cases b
      obtain ⟨p, vs, rfl, h1, h2⟩ := litems_ok R a e1
      rw [intsOf_ok h2 e2] at h1
      cases ns with
      | nil => cases e3
      | cons y zs =>
        have e3 : some (zs.foldl (fun m y => if y < m then y else m) y) = some n := e3
        cases e3
        refine .inr ⟨p, y :: zs, rfl, by rw [hK]; exact SqL.of h1, by simp, fun k hk hle => ?_⟩
        obtain ⟨s1, s2⟩ := minL_spec zs y
        have e4 : zs.foldl (fun m y => if y < m then y else m) y = k := Int.le_antisymm (s2 _ hk) (hle _ s1)
        rw [← e4]
        exact Go.val go R (.int _)
theorem call_listS (hK : X.K = G.K) : CallS X G (.type "list") .list := by
  refine ⟨_, call_list_of, fun al W f r H S s xs us Q R h go => ?_⟩
  obtain ⟨m, e0, go⟩ := go.putS
  obtain ⟨t, v, rfl, rfl, hr, e1⟩ := one_of h (k := listN S) e0
  obtain ⟨bs, e2, rfl⟩ := Option.map_eq_some_iff.mp e1
  obtain ⟨a, vs, rfl, h1, h2⟩ := items_ok R hr e2
  exact ⟨a, vs, rfl, by rw [hK]; exact h1, fun l hl => Go.put (xs := bs) go R h2 hl⟩
theorem call_tupleS (hK : X.K = G.K) : CallS X G (.type "tuple") .tuple := by
  refine ⟨_, call_tuple_of, fun al W f r H S s xs us Q R h go => ?_⟩
  obtain ⟨m, e0, go⟩ := go.putS
  obtain ⟨t, v, rfl, rfl, hr, e1⟩ := one_of h (k := tupN S) e0
  obtain ⟨bs, e2, rfl⟩ := Option.map_eq_some_iff.mp e1
  have ls : litems S t = some bs → (∃ p ys, [v] = [V.ref p] ∧ ((SqL X.K H p ys ∧ ∀ l, H l = none → Q (.ref l) (upd H l (.tup ys))) ∨ (SqT X.K H p ys ∧ Q (.ref p) H))) := fun e2 => by
    obtain ⟨a, vs, rfl, h1, h2⟩ := litems_ok R hr e2
    exact ⟨a, vs, rfl, .inl ⟨SqL.of h1, fun l hl => Go.newT (xs := bs) go R h2 hl⟩⟩
  cases hr with
  | tup q t =>
    cases e2
    exact ⟨_, _, rfl, .inr ⟨by rw [hK]; exact q, Go.val go R (.tup q t)⟩⟩
  | lst a b c d => exact ls e2
  | loc a => exact ls e2
  | non => cases e2
  | bl _ => cases e2
  | int _ => cases e2
  | str _ => cases e2
  | fro _ _ => cases e2
theorem digit_text : ∀ c : Nat, 48 ≤ c → c ≤ 57 → PySem.intText? ⟨#[c]⟩ = some ((c : Int) - 48) := by
  intro c h1 h2
  have h : c = 48 ∨ c = 49 ∨ c = 50 ∨ c = 51 ∨ c = 52 ∨ c = 53 ∨ c = 54 ∨ c = 55 ∨ c = 56 ∨ c = 57 := by omega
  rcases h with rfl | rfl | rfl | rfl | rfl | rfl | rfl | rfl | rfl | rfl <;> decide +kernel
theorem digitOf_some {z : Str} {n : Int} (h : digitOf z = some n) : ∃ c : Nat, z = ⟨#[c]⟩ ∧ 48 ≤ c ∧ c ≤ 57 ∧ n = (c : Int) - 48 := by
  obtain ⟨⟨l⟩⟩ := z
  unfold digitOf at h
  dsimp only at h
  match l, h with
  | [c], h =>
    dsimp only at h
    split at h
    · rename_i k
      have k := Bool.and_eq_true_iff.mp k
      exact ⟨c, rfl, of_decide_eq_true k.1, of_decide_eq_true k.2, (Option.some.inj h).symm⟩
    · cases h
  | [], h => cases h
  | _ :: _ :: _, h => cases h
theorem call_intS : CallS X G (.type "int") .int := by
  refine ⟨_, call_int1.or call_int_str, fun al W f r H S s xs us Q R h go => ?_⟩
  obtain ⟨m, e0, go⟩ := go.putS
  obtain ⟨t, v, rfl, rfl, hr, e1⟩ := one_of h (k := fun a => vI (intNum a)) e0
  obtain ⟨n, e2, rfl⟩ := vI_some e1
  have q := Go.val go R (.int _)
  cases hr with
  | int i => cases e2; exact .inl (.inl ⟨_, rfl, q⟩)
  | bl b => cases e2; exact .inl (.inr ⟨_, rfl, q⟩)
  | str z =>
    obtain ⟨c, rfl, h1, h2, rfl⟩ := digitOf_some e2
    exact .inr ⟨_, _, rfl, digit_text c h1 h2, by show 1 ≤ 640; omega, q⟩
  | non => cases e2
  | tup _ _ => cases e2
  | lst _ _ _ _ => cases e2
  | fro _ _ => cases e2
  | loc _ => cases e2
theorem call_strS : CallS X G (.type "str") .str := by
  refine ⟨_, call_str_int.or SkE.call_str_str, fun al W f r H S s xs us Q R h go => ?_⟩
  obtain ⟨m, e0, go⟩ := go.putS
  obtain ⟨t, v, rfl, rfl, hr, e1⟩ := one_of h (k := strNum S) e0
  cases hr with
  | int i =>
    obtain ⟨h1, rfl⟩ := guard_some (show FC.guard _ _ = _ from e1)
    exact .inl ⟨i, rfl, by have := of_decide_eq_true h1; omega, Go.val go R (.str _)⟩
  | str z => cases e1; exact .inr ⟨z, rfl, Go.val go R (.str _)⟩
  | bl b => cases e1
  | non => cases e1
  | tup _ _ => cases e1
  | lst _ _ _ _ => cases e1
  | fro _ _ => cases e1
  | loc _ => cases e1
theorem call_absS : CallS X G (.builtin "abs") .abs := by
  refine ⟨_, call_abs, fun al W f r H S s xs us Q R h go => ?_⟩
  obtain ⟨m, e0, go⟩ := go.putS
  obtain ⟨t, v, rfl, rfl, hr, e1⟩ := one_of h (k := absN) e0
  cases hr with
  | int i => cases e1; exact ⟨_, rfl, Go.val go R (.int _)⟩
  | _ => cases e1

/-! ### methods, subscripts, slices, isinstance -/
def MetS (X : Cx) (G : Gm) (id : String) (b : T → List T → Sto → Option NT) : Prop :=
  ∃ r2, MtR X id r2 ∧ ∀ (al : Bool) W f r H S s x u xs us Q, Rl G f r H S → Rel G.K f r H x u → RelL G.K f r H xs us → Go G W f (rT G f) r H s (FC.putN al S (b x xs S)) Q → r2 u us H Q
theorem met_join (hK : X.K = G.K) : MetS X G "str.join" (fun x xs S => bfnT .join S (x :: xs)) := by
  refine ⟨_, mt_join, fun al W f r H S s x u xs us Q R hx h go => ?_⟩
  obtain ⟨m, e0, go⟩ := go.putS
  obtain ⟨t, t2, v, v2, e1, e2, h1, h2, e3⟩ := two_of (.cons hx h) (k := joinN S) e0
  cases e1
  cases e2
  cases h1 with
  | str z =>
    have e3 : joinT S z t2 = some m := e3
    unfold joinT at e3
    cases e4 : (items S t2).bind strsOf with
    | none => rw [e4] at e3; cases e3
    | some ys =>
      rw [e4] at e3
      obtain ⟨hz, rfl⟩ := guard_some (show FC.guard _ _ = _ from e3)
      obtain ⟨ts, b1, b2⟩ := Option.bind_eq_some_iff.mp e4
      obtain ⟨a, vs, rfl, k1, k2⟩ := items_ok R h2 b1
      rw [strsOf_ok k2 b2] at k1
      exact ⟨z, a, ys, rfl, rfl, by rw [hK]; exact k1, of_decide_eq_true hz, Go.val go R (.str _)⟩
  | _ => cases e3
theorem strs_rel : ∀ ys : List Str, RelL G.K f r H (ys.map T.str) (ys.map V.str)
  | [] => .nil
  | y :: ys => .cons (.str y) (strs_rel ys)
theorem met_split : MetS X G "str.split" (fun x xs S => bfnT .split S (x :: xs)) := by
  refine ⟨_, mt_split, fun al W f r H S s x u xs us Q R hx h go => ?_⟩
  obtain ⟨m, e0, go⟩ := go.putS
  obtain ⟨t, t2, v, v2, e1, e2, h1, h2, e3⟩ := two_of (.cons hx h) (k := splitN) e0
  cases e1
  cases e2
  cases h1 with
  | str z =>
    cases h2 with
    | str y =>
      obtain ⟨hz, rfl⟩ := guard_some (show FC.guard (!(y.length == 0) && decide (z.length + 2 ≤ lim)) _ = some m from e3)
      have hz := Bool.and_eq_true_iff.mp hz
      refine ⟨z, y, rfl, rfl, by simpa using hz.1, limS (of_decide_eq_true hz.2), fun p hp => ?_⟩
      exact Go.put (xs := (Txt.split z y).map .str) go R (strs_rel _) hp
    | _ => cases e3
  | _ => cases e3
theorem findT_some {x : T} : ∀ {xs : List T} {k : Nat} {n : Int}, findT x xs k = some n → ∃ j : Nat, n = ((k + j : Nat) : Int) ∧ (∃ z, xs[j]? = some z ∧ PyData.eqv z.data x.data = true) ∧ ∀ m z, m < j → xs[m]? = some z → PyData.eqv z.data x.data = false
  | [], _, _, h => by cases h
  | y :: ys, k, n, h => by
    unfold findT at h
    split at h
    · rename_i c
      exact ⟨0, (Option.some.inj h).symm, ⟨y, rfl, c⟩, fun m z hm => absurd hm (Nat.not_lt_zero _)⟩
    · rename_i c
      obtain ⟨j, h1, ⟨z, h2, h3⟩, h4⟩ := findT_some h
      refine ⟨j + 1, by rw [h1]; congr 1; omega, ⟨z, by simpa using h2, h3⟩, fun m w hm hw => ?_⟩
      cases m with
      | zero => simp at hw; subst hw; simpa using c
      | succ m => exact h4 m w (by omega) (by simpa using hw)
theorem met_index (hK : X.K = G.K) : MetS X G "list.index" (fun x xs S => bfnT .index S (x :: xs)) := by
  refine ⟨_, mt_index, fun al W f r H S s x u xs us Q R hx h go => ?_⟩
  obtain ⟨m, e0, go⟩ := go.putS
  obtain ⟨t, t2, v, v2, e1, e2, h1, h2, e3⟩ := two_of (.cons hx h) (k := fun a x => vI (indexT S a x)) e0
  cases e1
  cases e2
  obtain ⟨n, e4, rfl⟩ := vI_some e3
  unfold indexT at e4
  cases e5 : litems S x with
  | none => rw [e5] at e4; cases e4
  | some ts =>
    rw [e5] at e4
    dsimp only at e4
    split at e4
    · rename_i c
      have c := Bool.and_eq_true_iff.mp c
      obtain ⟨a, vs, rfl, k1, k2⟩ := litems_ok R h1 e5
      obtain ⟨j, rfl, ⟨z, z1, z2⟩, z3⟩ := findT_some e4
      obtain ⟨w, w1, w2⟩ := k2.get z1
      have fl : ∀ {m : Nat} {z : T}, ts[m]? = some z → flat z = true := fun e => List.all_eq_true.mp c.2 _ (List.mem_of_getElem? e)
      refine ⟨a, vs, v2, j, w, rfl, rfl, by rw [hK]; exact SqL.of k1, flatV_of h2 c.1, flats_of k2 c.2, w1, ?_, fun m z' hm hz' => ?_, ?_⟩
      · rw [eqV_of w2 h2 (fl z1) c.1]; exact z2
      · obtain ⟨t', q1, q2⟩ := k2.get' hz'
        rw [eqV_of q2 h2 (fl q1) c.1]
        exact z3 m t' hm q1
      · have q := Go.val go R (.int _)
        rw [Nat.zero_add] at q
        exact q
    · cases e4
/-- x[i] -/
theorem ix_all (hK : X.K = G.K) : ∃ r2, IxR X r2 ∧ ∀ W f r H S s x u y v Q, Rl G f r H S → Rel G.K f r H x u → Rel G.K f r H y v → Go G W f (rT G f) r H s (ofO (ixT S x y) S) Q → r2 u v H Q := by
  refine ⟨_, ix_seq, fun W f r H S s x u y v Q R hx hy go => ?_⟩
  obtain ⟨t, e, go1⟩ := go.ofO
  cases hy with
  | int i =>
    have sq : ixL (items S x) i = some t → rIx X.K u (.int i) H Q := fun e => by
      obtain ⟨xs, b1, b2⟩ := Option.bind_eq_some_iff.mp e
      obtain ⟨a, vs, rfl, k1, k2⟩ := items_ok R hx b1
      obtain ⟨j, j1, j2⟩ := Option.bind_eq_some_iff.mp b2
      obtain ⟨w, w1, w2⟩ := k2.get j2
      have at' : atI vs i = some w := by
        unfold atI
        rw [← k2.length, j1]
        exact w1
      have q := Go.ok go1 R w2
      rcases k1 with k1 | k1
      · exact .inl ⟨a, vs, i, w, rfl, rfl, by rw [hK]; exact k1, at', q⟩
      · exact .inr (.inl ⟨a, vs, i, w, rfl, rfl, by rw [hK]; exact k1, at', q⟩)
    cases hx with
    | str z =>
      have e : ixS z i = some t := e
      unfold ixS at e
      split at e
      · rename_i c
        obtain ⟨k, k1, rfl⟩ := Option.map_eq_some_iff.mp e
        exact .inr (.inr ⟨z, i, k, rfl, rfl, limS (of_decide_eq_true c), k1, Go.ok go1 R (.str _)⟩)
      · cases e
    | tup a b => exact sq e
    | lst a b c d => exact sq e
    | fro a b => exact sq e
    | loc a => exact sq e
    | non => cases e
    | bl _ => cases e
    | int _ => cases e
  | _ => cases e
theorem cut_rel {ts : List T} {vs : List V} (h : RelL G.K f r H ts vs) (lo hi : Option Int) : RelL G.K f r H (cutT ts lo hi) (cutV vs lo hi) := by
  unfold cutT cutV
  rw [h.length]
  exact (h.drop _).take _
theorem sl_all (hK : X.K = G.K) : ∃ r2, SlR X r2 ∧ ∀ (al : Bool) W f r H S s x u lo hi Q, Rl G f r H S → Rel G.K f r H x u → Go G W f (rT G f) r H s (FC.putN al S (slcT S x lo hi)) Q → r2 u lo hi H Q := by
  refine ⟨_, sl_str.or (sl_tupA.or sl_list), fun al W f r H S s x u lo hi Q R hx go => ?_⟩
  obtain ⟨m, e, go⟩ := go.putS
  have sq : (litems S x).map (fun xs => NT.new (cutT xs lo hi)) = some m → rSlL X.K u lo hi H Q := fun e => by
    obtain ⟨xs, b1, rfl⟩ := Option.map_eq_some_iff.mp e
    obtain ⟨a, vs, rfl, k1, k2⟩ := litems_ok R hx b1
    exact ⟨a, vs, rfl, by rw [hK]; exact SqL.of k1, fun p hp => Go.put (xs := cutT xs lo hi) go R (cut_rel k2 lo hi) hp⟩
  cases hx with
  | str z =>
    obtain ⟨hz, rfl⟩ := guard_some (show FC.guard _ _ = _ from e)
    exact .inl ⟨z, rfl, limS (of_decide_eq_true hz), Go.val go R (.str _)⟩
  | @tup a xs vs q t =>
    cases e
    have c := cut_rel t lo hi
    refine .inr (.inl ⟨a, vs, rfl, by rw [hK]; exact q, fun hw => ?_, fun _ p hp => Go.newT (xs := cutT xs lo hi) go R c hp⟩)
    refine Go.val go R (.tup q ?_)
    unfold cutT
    rw [t.length, hw.1, hw.2, List.drop_zero, ← t.length, Nat.sub_zero, List.take_length]
    exact t
  | lst a b c d => exact .inr (.inr (sq e))
  | loc a => exact .inr (.inr (sq e))
  | fro a b => exact absurd e (fun z => nomatch z)
  | non => exact absurd e (fun z => nomatch z)
  | bl _ => exact absurd e (fun z => nomatch z)
  | int _ => exact absurd e (fun z => nomatch z)
def tyName : Ty → String
  | .tup => "tuple" | .str => "str" | .int => "int" | .bool => "bool"
def yB : Ty → Bool | .int => true | .bool => true | _ => false
def yI : Ty → Bool | .int => true | _ => false
def yS : Ty → Bool | .str => true | _ => false
def yT : Ty → Bool | .tup => true | _ => false
theorem kitN (ty : Ty) : kitB "NoneType" (tyName ty) = some false := by cases ty <;> decide +kernel
theorem kitBo (ty : Ty) : kitB "bool" (tyName ty) = some (yB ty) := by cases ty <;> decide +kernel
theorem kitI (ty : Ty) : kitB "int" (tyName ty) = some (yI ty) := by cases ty <;> decide +kernel
theorem kitS (ty : Ty) : kitB "str" (tyName ty) = some (yS ty) := by cases ty <;> decide +kernel
theorem kitT (ty : Ty) : kitB "tuple" (tyName ty) = some (yT ty) := by cases ty <;> decide +kernel
theorem kitL (ty : Ty) : kitB "list" (tyName ty) = some false := by cases ty <;> decide +kernel
theorem isi_all (hK : X.K = G.K) (ty : Ty) : ∃ r2, CallR X (.builtin "isinstance") r2 ∧ ∀ f r H S x u k Q, Rl G f r H S → Rel G.K f r H x u → isTy ty x = some k → Q (.bl k) H → r2 [u, .ty (tyName ty)] H Q := by
  refine ⟨_, call_isi, fun f r H S x u k Q R hx e q => ?_⟩
  have fin : ∀ {n : String} {b : Bool}, TyX X.K H u (.type n) → kitB n (tyName ty) = some b → isTy ty x = some b → rIsi X.K [u, .ty (tyName ty)] H Q := fun {n b} h1 h2 h3 => by
    rw [h3] at e
    cases e
    exact ⟨u, .ty _, .type n, .type (tyName ty), _, rfl, .ty _, h1, kit_ty h2, q⟩
  cases hx with
  | non => exact fin (.base .non) (kitN ty) (by cases ty <;> rfl)
  | bl b => exact fin (.base (.bl b)) (kitBo ty) (by cases ty <;> rfl)
  | int i => exact fin (.base (.int i)) (kitI ty) (by cases ty <;> rfl)
  | str i => exact fin (.base (.str i)) (kitS ty) (by cases ty <;> rfl)
  | tup h t =>
    refine fin ?_ (kitT ty) (by cases ty <;> rfl)
    rw [hK]
    rcases h with (h | ⟨o, h⟩) | ⟨o, its, n, h1, h2, _⟩
    · exact .base (.tup h)
    · exact .fTuple h
    · exact .kTuple h1 h2
  | lst h n m t => exact fin (.base (.lst h)) (kitL ty) (by cases ty <;> rfl)
  | fro h t =>
    refine fin ?_ (kitL ty) (by cases ty <;> rfl)
    rw [hK]
    rcases h with ⟨o, h⟩ | ⟨o, its, n, h1, h2, _⟩
    · exact .base (.frz h)
    · exact .kList h1 h2
  | loc h => cases ty <;> cases e
theorem rng_rel (n : Nat) (lo : Int) : RelL G.K f r H (rngL n lo) ((List.range n).map fun i => V.int (lo + (i : Nat))) := by
  have go : ∀ l : List Nat, RelL G.K f r H (l.map fun i => T.int (lo + (i : Nat))) (l.map fun i => V.int (lo + (i : Nat))) := fun l => by
    induction l with
    | nil => exact .nil
    | cons a l ih => exact .cons (.int _) ih
  exact go _
end
end FC
end

section
set_option Elab.async false
set_option linter.all false
set_option maxRecDepth 100000
set_option maxHeartbeats 2000000
/-! FcPE: the interpreter's expressions against the layer's judgements, one constructor each. -/
namespace FC
open PySem PySem.Spec PyProof.Rows L2 LamX
section
variable {X : Cx} {G : Gm} {W : WX} {fe : FEnv} {e a b c : Expr} {pos : Pos} {ma mb mc : Env → Sto → R T}

theorem te_intro {t : TE} {m : Env → Sto → R T} (h : PE X e t) (i : ∀ f r H S s e Q, Rl G f r H S → EnvR G f r H e s → Go G W f (rT G f) r H s (m e S) Q → t s H Q) : PE X e (TEof G W m) :=
  peI h fun s H Q ⟨f, r, e, S, R, E, go⟩ => i f r H S s e Q R E go
/-- the first part of a run -/
theorem te_part {f : Addr → Prop} {r : List Addr} {H : Hp} {S : Sto} {s : L2.St} {e : Env} {γ δ : Type} {rel' : List Addr → Hp → γ → δ → Prop} {m : Env → Sto → R T} {k : T → Sto → R γ} {Q : δ → Hp → Prop} {Q' : VK}
    (R : Rl G f r H S) (E : EnvR G f r H e s) (go : Go G W f rel' r H s ((m e S).bind k) Q)
    (i : ∀ r1 t S1 v H1, Ext r H r1 H1 → Rl G f r1 H1 S1 → EnvR G f r1 H1 e s → Rel G.K f r1 H1 t v → Go G W f rel' r1 H1 s (k t S1) Q → Q' v H1) : TEof G W m s H Q' :=
  ⟨f, r, e, S, R, E, (go.bind (rel := rT G f)).mono fun v H1 ⟨r1, t, S1, _, x1, R1, q1, go1⟩ => i r1 t S1 v H1 x1 R1 (E.ext R x1) q1 go1⟩
theorem pe_varF {i : Nat} {x : Str} (hN : X.N[i]? = some x) (hv : Vis X.env.scope x) (hd : (x == ("__debug__" : Str)) = false) (hcd : (x == ("__classdict__" : Str)) = false) : PE X (.Name x pos) (TEof G W (evE fe (.var i))) :=
  te_intro (pe_var hN hv hd hcd) fun f r H S s e Q R E go => by
    have go : Go G W f (rT G f) r H s (match e[i]? with | some (some t) => FC.R.ok t S | _ => .bad) Q := go
    split at go
    · rename_i t ht
      obtain ⟨v, h1, h2⟩ := E.at_ i t ht
      exact ⟨v, h1, go.ok R h2⟩
    · exact go.elim
/-- a tree of no parts -/
theorem pe_cstF {t : T} {v : V} (h : PE X e (tC v)) (hr : ∀ f r H, Rel G.K f r H t v) : PE X e (TEof G W (evE fe (.cst t))) :=
  te_intro h fun f r H S s e Q R E go => Go.ok go R (hr f r H)
theorem pe_binF (hK : X.K = G.K) (op : BOp) (al : Bool) {ea eb : E} (ha : PE X a (TEof G W (evE fe ea))) (hb : PE X b (TEof G W (evE fe eb))) : PE X (.BinOp a (binOp op) b pos) (TEof G W (evE fe (.bin op al ea eb))) := by
  obtain ⟨r2, h1, h2⟩ := bin_all hK op
  refine te_intro (pe_op h1 ha hb) fun f r H S s e Q R E go => ?_
  refine te_part R E go fun r1 t S1 v H1 x1 R1 E1 q1 go1 => ?_
  refine te_part R1 E1 go1 fun r2' u S2 w H2 x2 R2 E2 q2 go2 => ?_
  exact h2 al W f r2' H2 S2 s t u v w Q R2 (q1.ext R1 x2) q2 go2
theorem pe_negF {ea : E} (ha : PE X a (TEof G W (evE fe ea))) : PE X (.UnaryOp .USub a pos) (TEof G W (evE fe (.neg ea))) := by
  refine te_intro (pe_un un_neg ha) fun f r H S s e Q R E go => ?_
  refine te_part R E go fun r1 t S1 v H1 x1 R1 E1 q1 go1 => ?_
  cases q1 with
  | int i => exact ⟨i, rfl, Go.ok go1 R1 (.int _)⟩
  | _ => exact go1.elim
theorem pe_cmpF (hK : X.K = G.K) (hu : X.A.units + 64 < cLine) (op : COp) {ea eb : E} (hm : behindInMarks (cmpOp op) b = false) (ha : PE X a (TEof G W (evE fe ea))) (hb : PE X b (TEof G W (evE fe eb))) :
    PE X (.Compare a [cmpOp op] [b] pos) (TEof G W (evE fe (.cmp op ea eb))) := by
  obtain ⟨r2, h1, h2⟩ := cmp_all (X := X) (G := G) hK hu op
  refine te_intro (pe_cmpR h1 ha hb hm) fun f r H S s e Q R E go => ?_
  refine te_part R E go fun r1 t S1 v H1 x1 R1 E1 q1 go1 => ?_
  refine te_part R1 E1 go1 fun r2' u S2 w H2 x2 R2 E2 q2 go2 => ?_
  obtain ⟨z, hz, go3⟩ := go2.ofO
  obtain ⟨k, hk, rfl⟩ := Option.map_eq_some_iff.mp hz
  exact h2 f r2' H2 S2 t u v w Q k R2 (q1.ext R1 x2) q2 hk (Go.ok go3 R2 (.bl _))
theorem pe_chainF (hK : X.K = G.K) (hu : X.A.units + 64 < cLine) (o1 o2 : COp) {ea eb ec : E} (hm : behindInMarks (cmpOp o2) c = false) (ha : PE X a (TEof G W (evE fe ea))) (hb : PE X b (TEof G W (evE fe eb))) (hc : PE X c (TEof G W (evE fe ec)))
    (ch : ∀ (r r' : R2), OpR X (compareOp (cmpOp o1)) r → OpR X (compareOp (cmpOp o2)) r' → PE X (.Compare a [cmpOp o1, cmpOp o2] [b, c] pos) (tChain r r' (TEof G W (evE fe ea)) (TEof G W (evE fe eb)) (TEof G W (evE fe ec)))) :
    PE X (.Compare a [cmpOp o1, cmpOp o2] [b, c] pos) (TEof G W (evE fe (.chain o1 o2 ea eb ec))) := by
  obtain ⟨r1, h1, k1⟩ := cmp_all (X := X) (G := G) hK hu o1
  obtain ⟨r2, h2, k2⟩ := cmp_all (X := X) (G := G) hK hu o2
  refine te_intro (ch r1 r2 h1 h2) fun f r H S s e Q R E go => ?_
  refine te_part R E go fun ra t S1 v H1 x1 R1 E1 q1 go1 => ?_
  refine te_part R1 E1 go1 fun rb u S2 w H2 x2 R2 E2 q2 go2 => ?_
  have go2 : Go G W f (rT G f) rb H2 s (match cmpT o1 S2 t u with | some true => (evE fe ec e S2).bind fun z S3 => FC.ofO ((cmpT o2 S3 u z).map .bl) S3 | some false => .ok (.bl false) S2 | none => .bad) Q := go2
  cases hk : cmpT o1 S2 t u with
  | none => rw [hk] at go2; exact go2.elim
  | some k =>
    rw [hk] at go2
    refine k1 f rb H2 S2 t u v w _ k R2 (q1.ext R1 x2) q2 hk ⟨k, rfl, ?_⟩
    cases k with
    | false => exact iteF (Go.ok go2 R2 (.bl _))
    | true =>
      refine iteT ?_
      refine te_part R2 E2 go2 fun rc z S3 y H3 x3 R3 E3 q3 go3 => ?_
      obtain ⟨zz, hz, go4⟩ := go3.ofO
      obtain ⟨k', hk', rfl⟩ := Option.map_eq_some_iff.mp hz
      exact k2 f rc H3 S3 u z w y Q k' R3 (q2.ext R2 x3) q3 hk' (Go.ok go4 R3 (.bl _))

/-! ### and, or, not; tests -/
theorem boolE {f : Addr → Prop} {r : List Addr} {H : Hp} {s : L2.St} {Q : VK} {t : T} {v : V} {k : T → R T} (q : Rel G.K f r H t v) (go : Go G W f (rT G f) r H s (k t) Q) (h : ∀ t, (∀ b, t ≠ .bl b) → k t = .bad) : ∃ b, t = .bl b ∧ v = .bl b := by
  cases q with
  | bl b => exact ⟨b, rfl, rfl⟩
  | _ => exact (show False by rw [h _ (by intro b z; cases z)] at go; exact go).elim
def andK (fe : FEnv) (b : E) (e : Env) (S1 : Sto) (x : T) : R T := match x with
  | .bl true => evE fe b e S1
  | .bl false => .ok (.bl false) S1
  | _ => .bad
def orK (fe : FEnv) (b : E) (e : Env) (S1 : Sto) (x : T) : R T := match x with
  | .bl true => .ok (.bl true) S1
  | .bl false => evE fe b e S1
  | _ => .bad
theorem andK_bad {b : E} {e : Env} {S1 : Sto} (t : T) (h : ∀ b, t ≠ .bl b) : andK fe b e S1 t = .bad := by
  cases t <;> first | rfl | exact absurd rfl (h _)
theorem orK_bad {b : E} {e : Env} {S1 : Sto} (t : T) (h : ∀ b, t ≠ .bl b) : orK fe b e S1 t = .bad := by
  cases t <;> first | rfl | exact absurd rfl (h _)
variable {rest : List Expr} {ea eb ec : E}
theorem pe_andF (ha : PE X a (TEof G W (evE fe ea))) (hb : PE X (.BoolOp .And (b :: rest) pos) (TEof G W (evE fe eb))) : PE X (.BoolOp .And (a :: b :: rest) pos) (TEof G W (evE fe (.and ea eb))) := by
  refine te_intro (pe_and ha hb) fun f r H S s e Q R E go => ?_
  refine te_part R E go fun r1 t S1 v H1 x1 R1 E1 q1 go1 => ?_
  have go1 : Go G W f (rT G f) r1 H1 s (andK fe eb e S1 t) Q := go1
  obtain ⟨k, rfl, rfl⟩ := boolE (k := andK fe eb e S1) q1 go1 andK_bad
  refine ⟨k, rfl, ?_⟩
  cases k with
  | true => exact iteT ⟨f, r1, e, S1, R1, E1, go1⟩
  | false => exact iteF (Go.ok go1 R1 (.bl _))
theorem pe_orF (ha : PE X a (TEof G W (evE fe ea))) (hb : PE X (.BoolOp .Or (b :: rest) pos) (TEof G W (evE fe eb))) : PE X (.BoolOp .Or (a :: b :: rest) pos) (TEof G W (evE fe (.or ea eb))) := by
  refine te_intro (pe_or ha hb) fun f r H S s e Q R E go => ?_
  refine te_part R E go fun r1 t S1 v H1 x1 R1 E1 q1 go1 => ?_
  have go1 : Go G W f (rT G f) r1 H1 s (orK fe eb e S1 t) Q := go1
  obtain ⟨k, rfl, rfl⟩ := boolE (k := orK fe eb e S1) q1 go1 orK_bad
  refine ⟨k, rfl, ?_⟩
  cases k with
  | true => exact iteT (Go.ok go1 R1 (.bl _))
  | false => exact iteF ⟨f, r1, e, S1, R1, E1, go1⟩
def notK (S1 : Sto) (x : T) : R T := match x with
  | .bl b => .ok (.bl (!b)) S1
  | _ => .bad
theorem notK_bad {S1 : Sto} (t : T) (h : ∀ b, t ≠ .bl b) : notK S1 t = .bad := by
  cases t <;> first | rfl | exact absurd rfl (h _)
theorem pe_notF (ha : PE X a (TEof G W (evE fe ea))) : PE X (.UnaryOp .Not a pos) (TEof G W (evE fe (.not ea))) := by
  refine te_intro (pe_not ha) fun f r H S s e Q R E go => ?_
  refine te_part R E go fun r1 t S1 v H1 x1 R1 E1 q1 go1 => ?_
  have go1 : Go G W f (rT G f) r1 H1 s (notK S1 t) Q := go1
  obtain ⟨k, rfl, rfl⟩ := boolE (k := notK S1) q1 go1 notK_bad
  exact ⟨k, rfl, Go.ok go1 R1 (.bl _)⟩
/-- a test by the interpreter -/
abbrev TTof (G : Gm) (W : WX) (m : Env → Sto → R T) : TT := tB (TEof G W m)
theorem tt_intro {t : TT} {m : Env → Sto → R T} (h : PT X e t) (i : ∀ f r H S s e Q, Rl G f r H S → EnvR G f r H e s → Go G W f (rT G f) r H s (m e S) (fun x H1 => ∃ c, x = .bl c ∧ Q c H1) → t s H Q) : PT X e (TTof G W m) :=
  ptI h fun s H Q ⟨f, r, e, S, R, E, go⟩ => i f r H S s e Q R E go
theorem tw_intro {t : TT} {m : Env → Sto → R T} (h : PW X e t) (i : ∀ f r H S s e Q, Rl G f r H S → EnvR G f r H e s → Go G W f (rT G f) r H s (m e S) (fun x H1 => ∃ c, x = .bl c ∧ Q c H1) → t s H Q) : PW X e (TTof G W m) :=
  ⟨fun wh pins s σ H Q I q => h.run wh pins s σ H Q I (let ⟨f, r, e, S, R, E, go⟩ := q; i f r H S σ e Q R E go)⟩
theorem pw_andF (ha : PT X a (TTof G W (evE fe ea))) (hb : PW X (.BoolOp .And (b :: rest) pos) (TTof G W (evE fe eb))) : PW X (.BoolOp .And (a :: b :: rest) pos) (TTof G W (evE fe (.and ea eb))) := by
  refine tw_intro (pw_and ha hb) fun f r H S s e Q R E go => ?_
  refine te_part R E go fun r1 t S1 v H1 x1 R1 E1 q1 go1 => ?_
  have go1 : Go G W f (rT G f) r1 H1 s (andK fe eb e S1 t) (fun x H1 => ∃ c, x = .bl c ∧ Q c H1) := go1
  obtain ⟨k, rfl, rfl⟩ := boolE (k := andK fe eb e S1) q1 go1 andK_bad
  refine ⟨k, rfl, ?_⟩
  cases k with
  | true => exact iteT ⟨f, r1, e, S1, R1, E1, go1⟩
  | false =>
    obtain ⟨c, e, q⟩ := Go.ok go1 R1 (.bl _)
    cases e
    exact iteF q
theorem pw_orF (ha : PT X a (TTof G W (evE fe ea))) (hb : PW X (.BoolOp .Or (b :: rest) pos) (TTof G W (evE fe eb))) : PW X (.BoolOp .Or (a :: b :: rest) pos) (TTof G W (evE fe (.or ea eb))) := by
  refine tw_intro (pw_or ha hb) fun f r H S s e Q R E go => ?_
  refine te_part R E go fun r1 t S1 v H1 x1 R1 E1 q1 go1 => ?_
  have go1 : Go G W f (rT G f) r1 H1 s (orK fe eb e S1 t) (fun x H1 => ∃ c, x = .bl c ∧ Q c H1) := go1
  obtain ⟨k, rfl, rfl⟩ := boolE (k := orK fe eb e S1) q1 go1 orK_bad
  refine ⟨k, rfl, ?_⟩
  cases k with
  | true =>
    obtain ⟨c, e, q⟩ := Go.ok go1 R1 (.bl _)
    cases e
    exact iteT q
  | false => exact iteF ⟨f, r1, e, S1, R1, E1, go1⟩
theorem pt_notF (ha : PT X a (TTof G W (evE fe ea))) : PT X (.UnaryOp .Not a pos) (TTof G W (evE fe (.not ea))) := by
  refine tt_intro (pt_not ha) fun f r H S s e Q R E go => ?_
  refine te_part R E go fun r1 t S1 v H1 x1 R1 E1 q1 go1 => ?_
  have go1 : Go G W f (rT G f) r1 H1 s (notK S1 t) (fun x H1 => ∃ c, x = .bl c ∧ Q c H1) := go1
  obtain ⟨k, rfl, rfl⟩ := boolE (k := notK S1) q1 go1 notK_bad
  obtain ⟨c, e, q⟩ := Go.ok go1 R1 (.bl _)
  cases e
  exact ⟨k, rfl, q⟩
theorem pt_cmpF (hK : X.K = G.K) (hu : X.A.units + 64 < cLine) (op : COp) (hm : behindInMarks (cmpOp op) b = false) (ha : PE X a (TEof G W (evE fe ea))) (hb : PE X b (TEof G W (evE fe eb))) :
    PT X (.Compare a [cmpOp op] [b] pos) (TTof G W (evE fe (.cmp op ea eb))) := by
  obtain ⟨r2, h1, h2⟩ := cmp_all (X := X) (G := G) hK hu op
  refine tt_intro (pt_cmpR h1 ha hb hm) fun f r H S s e Q R E go => ?_
  refine te_part R E go fun r1 t S1 v H1 x1 R1 E1 q1 go1 => ?_
  refine te_part R1 E1 go1 fun r2' u S2 w H2 x2 R2 E2 q2 go2 => ?_
  obtain ⟨z, hz, go3⟩ := go2.ofO
  obtain ⟨k, hk, rfl⟩ := Option.map_eq_some_iff.mp hz
  exact h2 f r2' H2 S2 t u v w _ k R2 (q1.ext R1 x2) q2 hk (Go.ok go3 R2 (.bl _))
def iteK (fe : FEnv) (a b : E) (e : Env) (S1 : Sto) (x : T) : R T := match x with
  | .bl true => evE fe a e S1
  | .bl false => evE fe b e S1
  | _ => .bad
theorem iteK_bad {a b : E} {e : Env} {S1 : Sto} (t : T) (h : ∀ b, t ≠ .bl b) : iteK fe a b e S1 t = .bad := by
  cases t <;> first | rfl | exact absurd rfl (h _)
theorem pe_iteF (hc : PT X c (TTof G W (evE fe ec))) (ha : PE X a (TEof G W (evE fe ea))) (hb : PE X b (TEof G W (evE fe eb))) : PE X (.IfExp c a b pos) (TEof G W (evE fe (.ite ec ea eb))) := by
  refine te_intro (pe_ifExp hc ha hb) fun f r H S s e Q R E go => ?_
  refine te_part R E go fun r1 t S1 v H1 x1 R1 E1 q1 go1 => ?_
  have go1 : Go G W f (rT G f) r1 H1 s (iteK fe ea eb e S1 t) Q := go1
  obtain ⟨k, rfl, rfl⟩ := boolE (k := iteK fe ea eb e S1) q1 go1 iteK_bad
  refine ⟨k, rfl, ?_⟩
  cases k with
  | true => exact iteT ⟨f, r1, e, S1, R1, E1, go1⟩
  | false => exact iteF ⟨f, r1, e, S1, R1, E1, go1⟩

/-! ### argument lists -/
def noStar : List Expr → Bool
  | [] => true
  | .Starred .. :: _ => false
  | _ :: r => noStar r
theorem starEach_cons {e : Expr} {es : List Expr} {env : PySem.Env} (h : noStar (e :: es) = true) : starEach (e :: es) env = (false, eval e env) :: starEach es env := by
  cases e <;> first | rfl | exact absurd (show false = true from h) Bool.false_ne_true
theorem noStar_tail {e : Expr} {es : List Expr} (h : noStar (e :: es) = true) : noStar es = true := by
  cases e <;> first | exact h | exact absurd (show false = true from h) Bool.false_ne_true
theorem starEach_plain {env : PySem.Env} {pos : Pos} : ∀ {es : List Expr}, noStar es = true → (backTo pos (starEach es env)).any (·.1) = false
  | [], _ => rfl
  | e :: es, h => by
    rw [starEach_cons h]
    show (false || (backTo pos (starEach es env)).any (·.1)) = false
    rw [starEach_plain (noStar_tail h)]
    rfl
theorem starEach_all {env : PySem.Env} {pos : Pos} : ∀ {es : List Expr}, noStar es = true → (backTo pos (starEach es env)).all (fun x => !x.1) = true
  | [], _ => rfl
  | e :: es, h => by
    rw [starEach_cons h]
    show (true && (backTo pos (starEach es env)).all (fun x => !x.1)) = true
    rw [starEach_all (noStar_tail h)]
    rfl
theorem pa_nilF : PA X [] (TAof G W (evEs fe [])) := paI pa_nil fun s H Q ⟨f, r, e, S, R, E, go⟩ => Go.ok go R .nil
theorem pa_consF {es : List Expr} {ees : List E} (hn : noStar (a :: es) = true) (ha : PE X a (TEof G W (evE fe ea))) (hr : PA X es (TAof G W (evEs fe ees))) : PA X (a :: es) (TAof G W (evEs fe (ea :: ees))) := by
  refine paI (pa_cons ha hr (starEach_cons hn)) fun s H Q ⟨f, r, e, S, R, E, go⟩ => ?_
  refine te_part R E go fun r1 t S1 v H1 x1 R1 E1 q1 go1 => ?_
  refine ⟨f, r1, e, S1, R1, E1, (go1.bind (rel := rL G f)).mono fun vs H2 ⟨r2, ts, S2, _, x2, R2, q2, go2⟩ => ?_⟩
  exact Go.ok go2 R2 (.cons (q1.ext R1 x2) q2)
theorem ta_part {f : Addr → Prop} {r : List Addr} {H : Hp} {S : Sto} {s : L2.St} {e : Env} {γ δ : Type} {rel' : List Addr → Hp → γ → δ → Prop} {m : Env → Sto → R (List T)} {k : List T → Sto → R γ} {Q : δ → Hp → Prop} {Q' : List V → Hp → Prop}
    (R : Rl G f r H S) (E : EnvR G f r H e s) (go : Go G W f rel' r H s ((m e S).bind k) Q)
    (i : ∀ r1 t S1 v H1, Ext r H r1 H1 → Rl G f r1 H1 S1 → EnvR G f r1 H1 e s → RelL G.K f r1 H1 t v → Go G W f rel' r1 H1 s (k t S1) Q → Q' v H1) : TAof G W m s H Q' :=
  ⟨f, r, e, S, R, E, (go.bind (rel := rL G f)).mono fun v H1 ⟨r1, t, S1, _, x1, R1, q1, go1⟩ => i r1 t S1 v H1 x1 R1 (E.ext R x1) q1 go1⟩
theorem pe_tupF {es : List Expr} {ees : List E} {k : Nat} (h : PA X es (TAof G W (evEs fe ees))) : PE X (.Tuple es k pos) (TEof G W (evE fe (.tup ees))) := by
  refine te_intro (pe_tup h) fun f r H S s e Q R E go => ?_
  refine ta_part R E go fun r1 t S1 v H1 x1 R1 E1 q1 go1 => ?_
  by_cases hz : t.length ≤ lim
  · rw [if_pos (decide_eq_true hz)] at go1
    exact ⟨by rw [← q1.length]; exact limS hz, fun p hp => Go.newT go1 R1 q1 hp⟩
  · rw [if_neg (by simpa using hz)] at go1
    exact go1.elim
theorem pe_lstF {es : List Expr} {ees : List E} {al : Bool} (h : PA X es (TAof G W (evEs fe ees))) : PE X (.List es pos) (TEof G W (evE fe (.lst al ees))) := by
  refine te_intro (pe_lst h) fun f r H S s e Q R E go => ?_
  refine ta_part R E go fun r1 t S1 v H1 x1 R1 E1 q1 go1 => ?_
  by_cases hz : t.length ≤ lim
  · rw [if_pos (decide_eq_true hz)] at go1
    exact ⟨by rw [← q1.length]; exact limS hz, fun p hp => Go.put go1 R1 q1 hp⟩
  · rw [if_neg (by simpa using hz)] at go1
    exact go1.elim

/-! ### subscripts, slices -/
theorem plainIx {b : Expr} (h : (match b with | .Slice .. => false | _ => true) = true) : PlainIx b := fun o i => by
  cases b <;> first | rfl | exact absurd (show false = true from h) Bool.false_ne_true
theorem pe_idxF (hK : X.K = G.K) (hb' : (match b with | .Slice .. => false | _ => true) = true) (ha : PE X a (TEof G W (evE fe ea))) (hb : PE X b (TEof G W (evE fe eb))) : PE X (.Subscript a b pos) (TEof G W (evE fe (.idx ea eb))) := by
  obtain ⟨r2, h1, h2⟩ := ix_all (X := X) (G := G) hK
  refine te_intro (pe_ix h1 ha hb (plainIx hb')) fun f r H S s e Q R E go => ?_
  refine te_part R E go fun r1 t S1 v H1 x1 R1 E1 q1 go1 => ?_
  refine te_part R1 E1 go1 fun r2' u S2 w H2 x2 R2 E2 q2 go2 => ?_
  exact h2 W f r2' H2 S2 s t v u w Q R2 (q1.ext R1 x2) q2 go2
/-- a part of a slice -/
def partR (fe : FEnv) (h : Bool) (lo : E) (e : Env) (S1 : Sto) : R (Option Int) := if h then (evE fe lo e S1).bind fun y S2 => FC.ofO ((asIdx y).map some) S2 else .ok none S1
def TOof (G : Gm) (W : WX) (m : Env → Sto → R (Option Int)) : TO := fun s H Q => ∃ f r e S, Rl G f r H S ∧ EnvR G f r H e s ∧ Go G W f (rEq (α := Option Int)) r H s (m e S) Q
theorem poI {o : Option Expr} {t t' : TO} (h : PO X o t) (i : ∀ s H Q, t' s H Q → t s H Q) : PO X o t' := ⟨fun pins s σ H Q I q => h.run pins s σ H Q I (i _ _ _ q)⟩
theorem po_noneF : PO X none (TOof G W (partR fe false ea)) := poI po_none fun s H Q ⟨f, r, e, S, R, E, go⟩ => Go.ok go R rfl
theorem po_someF (ha : PE X a (TEof G W (evE fe ea))) : PO X (some a) (TOof G W (partR fe true ea)) := by
  refine poI (po_some ha) fun s H Q ⟨f, r, e, S, R, E, go⟩ => ?_
  have go : Go G W f (rEq (α := Option Int)) r H s ((evE fe ea e S).bind fun y S2 => FC.ofO ((asIdx y).map some) S2) Q := go
  refine te_part R E go fun r1 t S1 v H1 x1 R1 E1 q1 go1 => ?_
  obtain ⟨z, hz, go2⟩ := go1.ofO
  obtain ⟨i, hi, rfl⟩ := Option.map_eq_some_iff.mp hz
  cases q1 with
  | int j => cases hi; exact ⟨_, rfl, Go.ok go2 R1 rfl⟩
  | _ => cases hi
theorem to_part {f : Addr → Prop} {r : List Addr} {H : Hp} {S : Sto} {s : L2.St} {e : Env} {γ δ : Type} {rel' : List Addr → Hp → γ → δ → Prop} {m : Env → Sto → R (Option Int)} {k : Option Int → Sto → R γ} {Q : δ → Hp → Prop} {Q' : Option Int → Hp → Prop}
    (R : Rl G f r H S) (E : EnvR G f r H e s) (go : Go G W f rel' r H s ((m e S).bind k) Q)
    (i : ∀ r1 t S1 H1, Ext r H r1 H1 → Rl G f r1 H1 S1 → EnvR G f r1 H1 e s → Go G W f rel' r1 H1 s (k t S1) Q → Q' t H1) : TOof G W m s H Q' :=
  ⟨f, r, e, S, R, E, (go.bind (rel := rEq)).mono fun v H1 ⟨r1, t, S1, _, x1, R1, q1, go1⟩ => by
    have q1 : t = v := q1
    subst q1
    exact i r1 t S1 H1 x1 R1 (E.ext R x1) go1⟩
theorem pe_slcF (hK : X.K = G.K) {al hl hh : Bool} {lo hi : Option Expr} {el eh : E} {p2 : Pos} (ha : PE X a (TEof G W (evE fe ea))) (h1 : PO X lo (TOof G W (partR fe hl el))) (h2 : PO X hi (TOof G W (partR fe hh eh))) :
    PE X (.Subscript a (.Slice lo hi none p2) pos) (TEof G W (evE fe (.slc al ea hl hh el eh))) := by
  obtain ⟨r2, k1, k2⟩ := sl_all (X := X) (G := G) hK
  refine te_intro (pe_slice k1 ha h1 h2) fun f r H S s e Q R E go => ?_
  refine te_part R E go fun r1 t S1 v H1 x1 R1 E1 q1 go1 => ?_
  refine to_part (m := partR fe hl el) R1 E1 go1 fun r2' u S2 H2 x2 R2 E2 go2 => ?_
  refine to_part (m := partR fe hh eh) R2 E2 go2 fun r3 u2 S3 H3 x3 R3 E3 go3 => ?_
  exact k2 al W f r3 H3 S3 s t v u u2 Q R3 ((q1.ext R1 x2).ext R2 x3) go3
end
end FC
end

section
set_option Elab.async false
set_option linter.all false
set_option maxRecDepth 100000
set_option maxHeartbeats 2000000
/-! FcAir: an exception that leaves a comprehension's block. -/
namespace FC
open PySem PySem.Spec PyProof.Rows L2 LamX
section
variable {X : Cx} {pins : List (Addr × Obj)} {σ : L2.St} {H : Hp} {s s' : Shared} {W : WX} {L : Addr}
/-- an exception in the air, over the frames that run; L: the frame's own place -/
def Air (X : Cx) (L : Addr) (W : WX) (u : Value) (s' : Shared) : Prop :=
  ∃ (a : Addr) (B : Heap) (sI : Shared) (pins : List (Addr × Obj)) (σ : L2.St) (H : Hp) (cls : Value) (d : Option Addr),
    u = .ref a ∧ Inv X pins σ H sI ∧ (∀ b o, sI.heap.get? b = some o → b ∉ frs X.stack → B.get? b = some o) ∧ sI.heap.UpToSlots s'.heap ∧
      Sky B X.stack a (L2N.Zn cls d) L s'.heap ∧ H a = none ∧ s'.os = sI.os ∧ AllBare s'.gens ∧ W cls d σ H
/-- the frame that runs -/
structure Frm (X : Cx) (L : Addr) : Prop where
  st : ∃ env0 outer0, X.stack = env0 :: outer0 ∧ env0.frame = some L
  fr : X.env.frame = some L
theorem air_of_XE (hL : X.env.locals = L) {u : Value} (x : L2N.XE X W u s') : Air X L W u s' := by
  obtain ⟨a, B, sI, pins, σ, H, cls, d, h1, h2, h3, h4, h5, h6⟩ := x
  exact ⟨a, B, sI, pins, σ, H, cls, d, h1, h2, h3, h4, hL ▸ h5, h6⟩
theorem XE_of_air (hL : X.env.locals = L) {u : Value} (x : Air X L W u s') : L2N.XE X W u s' := by
  obtain ⟨a, B, sI, pins, σ, H, cls, d, h1, h2, h3, h4, h5, h6⟩ := x
  exact ⟨a, B, sI, pins, σ, H, cls, d, h1, h2, h3, h4, hL ▸ h5, h6⟩
/-- out of a call -/
theorem air_of_call {E : XK} (I : Inv X pins σ H s) (hW : ∀ cls d H', E cls d H' → W cls d σ H') {u : Value} (c : L2N.CX X.prog X.w X.stack H s E u s') : Air X L W u s' := by
  obtain ⟨a, B, H', cls, d, rfl, fl, hok, ub, na, os, ag, hE⟩ := c
  -- the state without the exception's objects: the ground, and the frames as they stand
  obtain ⟨G, g1, g2⟩ := restrict s'.heap fun b => (B.get? b).isSome || decide (b ∈ frs X.stack)
  have st := fl.1
  have inB : ∀ b o, B.get? b = some o → G.get? b = some o := fun b o e => (g1 b (by simp [e])).trans (st b o e)
  have inF : ∀ b, b ∈ frs X.stack → G.get? b = s'.heap.get? b := fun b hb => g1 b (by simp [hb])
  have back : ∀ b o, G.get? b = some o → s'.heap.get? b = some o ∧ (b ∉ frs X.stack → B.get? b = some o) := fun b o e => by
    by_cases hb : ((B.get? b).isSome || decide (b ∈ frs X.stack)) = true
    · have e' := (g1 b hb).symm.trans e
      refine ⟨e', fun hn => ?_⟩
      have q : (B.get? b).isSome = true := by simpa [hn] using hb
      obtain ⟨o', q⟩ := Option.isSome_iff_exists.mp q
      have := (st b o' q).symm.trans e'
      cases this
      exact q
    · rw [g2 b (by simpa using hb)] at e; cases e
  refine ⟨a, B, { s with heap := G, gens := s'.gens, drawn := s'.drawn, toks := s'.toks }, pins, σ, H', cls, d, rfl, ?_, fun b o e hb => (back b o e).2 hb, Heap.UpToSlots.of_keeps fun b o e => (back b o e).1, .inr (.inl fl), na, os, ag, hW _ _ _ hE⟩
  refine I.call (ch := []) ⟨fun b o e n hb _ => inB b o (ub.keep b o e n hb), fun b o e n hb _ => ?_, fun b o e n _ => ub.free b o e n, fun b o e _ => ?_, ub.tups, ub.frzs, ub.tbls⟩ (hok.kept inB) ag (fun _ z => by cases z)
  · obtain ⟨sl, q⟩ := ub.slot b o e hb
    exact ⟨sl, (inF b hb).trans q⟩
  · by_cases hb : b ∈ frs X.stack
    · obtain ⟨sl, q⟩ := ub.slot b o e hb
      exact ⟨_, (inF b hb).trans q⟩
    · obtain ⟨o', q⟩ := ub.there b o e hb
      exact ⟨o', inB b o' q⟩

/-- without the place C -/
theorem without (h : Heap) (C : Addr) : ∃ G : Heap, (∀ b, b ≠ C → G.get? b = h.get? b) ∧ G.get? C = none := by
  obtain ⟨G, g1, g2⟩ := restrict h fun b => decide (b ≠ C)
  exact ⟨G, fun b hb => g1 b (decide_eq_true hb), g2 C (by simp)⟩
theorem frames_less {B B' h : Heap} (k : ∀ b, B.get? b = none → B'.get? b = none) : ∀ {l : List PySem.Env}, h.FunFrames B l → h.FunFrames B' l
  | [], _ => trivial
  | env :: r, ⟨hk, ⟨L, o, hf, hn, ho, hd⟩, hr⟩ => ⟨hk, ⟨L, o, hf, k L hn, ho, hd⟩, frames_less k hr⟩
theorem traced_but {B B' h h' : Heap} {e C : Addr} {Z : Obj → Prop} {fl : Value} {m : Str → Option Value} (k : ∀ b, B.get? b = none → B'.get? b = none) (hs : Heap.SameBut C h h') (hn : h.Ns C m) (t : HandSPX.TracedZ h B e Z fl) : HandSPX.TracedZ h' B' e Z fl := by
  obtain ⟨oe, vs, T, oT, ts, he, hz, hd, h1, hnT, hTe, hT, hdT, h3⟩ := t
  have notC : ∀ {b o vs}, h.get? b = some o → o.data = .fields vs → b ≠ C := fun {b o vs} hb hd z => by
    obtain ⟨o', es, ep, ho', hd', _⟩ := hn
    rw [z, ho'] at hb; cases hb
    rw [hd'] at hd; cases hd
  exact ⟨oe, vs, T, oT, ts, (hs.2 e (notC he hd)).trans he, hz, hd, h1, k T hnT, hTe, (hs.2 T (notC hT hdT)).trans hT, hdT, h3⟩

/-- the heap that the fields see but not the place C -/
theorem hok_without {X : Cx} {H : Hp} {h G : Heap} {C : Addr} (ok : HOk X.prog X.w H h) (hC : H C = none) (k : ∀ b, b ≠ C → G.get? b = h.get? b) : HOk X.prog X.w H G := fun a o e => by
  have ne : ∀ b u, H b = some u → b ≠ C := fun b u q z => by rw [z, hC] at q; cases q
  refine (ok a o e).stay (fun b u hb q => (k b ?_).trans q) (fun _ q => q) fun _ _ q => q
  rcases hb with rfl | hb
  · exact ne _ _ e
  · exact ne _ _ hb
/-- an exception of the block goes on in the frame around it -/
theorem air_out {scope : Scope} {ce : PySem.Env} {fp : List Addr} {xe : Value → Shared → Prop} {H3 : Hp} {s3 : Shared} (F : Frm X L) (I3 : Inv X pins σ H3 s3) (take : ∀ u s', Air X L W u s' → X.xe u s')
    (hcL : ce.locals = s3.heap.objs.size) (hcf : ce.frame = X.env.frame) (hfp : ∀ b ∈ fp, FpOk X pins H3 b ∧ b < s3.heap.objs.size) :
    ∀ u s', Air ((X.blk s3 H3 scope ce fp).wish xe) L (fun cls d _ H' => W cls d σ H') u s' → notedBy (model X.prog X.w) X.A ce (CompFails (model X.prog X.w) X.A X.xe ce) u s' := by
  rintro u s' ⟨a, B, sI, pins', σ', H', cls, d, rfl, I', nb, up, sky, na, os, ag, w⟩
  obtain ⟨env0, outer0, hst, hf0⟩ := F.st
  have hfr : X.A.frames = some (env0 :: outer0) := by rw [I3.ok.frames, hst]
  have sky : Sky B (env0 :: outer0) a (L2N.Zn cls d) L s'.heap := by
    have z : Sky B X.stack a (L2N.Zn cls d) L s'.heap := sky
    rw [hst] at z
    exact z
  have nb : ∀ b o, sI.heap.get? b = some o → b ∉ frs X.stack → B.get? b = some o := nb
  show wpAny _ _ (noteFrame (.ref a) ce) _ _ _
  rw [noteFrame_env (.ref a) (show ce.frame = env0.frame by rw [hcf, F.fr, hf0])]
  -- noted: held by the frame's own hand
  have held : ∀ h1, HandSPX.HeldZ B (env0 :: outer0) a (L2N.Zn cls d) L h1 → s'.heap.UpToSlots h1 → CompFails (model X.prog X.w) X.A X.xe ce (.ref a) { s' with heap := h1 } := by
    rintro h1 ⟨b1, b2, b3, b4⟩ up1
    obtain ⟨m, hnI, _⟩ := I'.loc
    have hnI : sI.heap.Ns ce.locals m := hnI
    have hn1 : h1.Ns ce.locals m := (up.trans up1).ns hnI
    refine ⟨m, hn1, fun h2 m2 hn2 sb => ?_⟩
    obtain ⟨B', c1, c2⟩ := without B ce.locals
    have less : ∀ b, B.get? b = none → B'.get? b = none := fun b e => by
      by_cases z : b = ce.locals
      · rw [z]; exact c2
      · rw [c1 b z]; exact e
    have h2ok : HandSPX.HeldZ B' (env0 :: outer0) a (L2N.Zn cls d) L h2 := by
      refine ⟨fun b o e => ?_, less a b2, frames_less less (Heap.FunFrames.sameBut sb hn2 b3), traced_but less sb hn1 b4⟩
      have z : b ≠ ce.locals := fun z => by rw [z, c2] at e; cases e
      rw [c1 b z] at e
      exact (sb.2 b z).trans (b1 b o e)
    obtain ⟨k1, k2, k3, k4⟩ := h2ok
    obtain ⟨oe, vs, T, oT, ts, he, hz, hd, h1', hnT, hTe, hT, hdT, h3'⟩ := id k4
    unfold PySem.passOn
    refine wpAny_bind (wpAny_field he hd h1' ?_)
    rw [if_neg (show ¬ ((Value.ref T == Value.none) = true) from by simp)]
    rw [show ce.frame = some L by rw [hcf, F.fr]]
    refine wpAny_bind (HandSPX.setFlight_onZ (s := { s' with heap := h2 }) ⟨k1, k2, k3, k4⟩ fun h3 hh3 up3 => wpAny_throw (take _ _ ?_))
    -- the state of the frame around: the block's names are gone
    obtain ⟨G, g1, g2⟩ := without sI.heap ce.locals
    have hCn : H' ce.locals = none := I'.free
    have base := I'.base
    have base : Un (frs X.stack) fp H3 H' s3.heap sI.heap := base
    have old : ∀ {b o}, s3.heap.get? b = some o → b ≠ ce.locals := fun {b o} e z => by
      have := Heap.lt_size e
      rw [z, hcL] at this
      exact absurd this (Nat.lt_irrefl _)
    have un : Un (frs X.stack) fp H3 H' s3.heap G := ⟨fun b o e n hb hx => (g1 b (old e)).trans (base.keep b o e n hb hx), fun b o e n hb hx => by
        obtain ⟨sl, q⟩ := base.slot b o e n hb hx
        exact ⟨sl, (g1 b (old e)).trans q⟩, base.free, fun b o e hx => by
        obtain ⟨o', q⟩ := base.there b o e hx
        exact ⟨o', (g1 b (old e)).trans q⟩, base.tups, base.frzs, base.tbls⟩
    have J : Inv X pins σ H' { sI with heap := G } := I3.call' (s' := { sI with heap := G }) (ch := fp) I'.os un (hok_without (X := X) I'.hok hCn g1) I'.bare fun b hb =>
      ⟨(hfp b hb).1.2.2.2.1, (hfp b hb).1.2.1, (hfp b hb).1.2.2.2.2.1, (hfp b hb).1.2.2.2.2.2⟩
    refine ⟨a, B', { sI with heap := G }, pins, σ, H', cls, d, rfl, J, fun b o e hb => ?_, fun b o e hnf => ?_, ?_, na, os, ag, w⟩
    · have z : b ≠ ce.locals := fun z => by
        have e : G.get? b = some o := e
        rw [z, g2] at e; cases e
      rw [c1 b z]
      exact nb b o ((g1 b z).symm.trans e) hb
    · have z : b ≠ ce.locals := fun z => by
        have e : G.get? b = some o := e
        rw [z, g2] at e; cases e
      obtain ⟨sl, q⟩ := (up.trans up1) b o ((g1 b z).symm.trans e) hnf
      obtain ⟨sl2, q2⟩ := up3 b _ ((sb.2 b z).trans q) hnf
      exact ⟨sl2, q2⟩
    · rw [hst]
      exact .inr (.inr hh3)
  rcases sky with ⟨hB, hn, hl, oe, vs, he, hz, hd, h1⟩ | fl | hh
  · exact PXN.look_newZ L2N.Zn.steady hfr hl hf0 he hB hn hd h1 hz held
  · exact PXN.looks_onZ L2N.Zn.steady hfr hf0 fl held
  · exact HandSPX.againZ hf0 hh.2.2.2 (held s'.heap hh (Heap.UpToSlots.refl _))
end
end FC
end

section
set_option Elab.async false
set_option linter.all false
set_option maxRecDepth 100000
set_option maxHeartbeats 2000000
/-! FcIter: what is walked: lists, tuples, ranges, enumerate of both. -/
namespace FC
open PySem PySem.Spec PyProof.Rows L2 LamX
open AutoSeq1 (wpAny_loadPart')

/-- enumerate(t), t a tuple -/
theorem meets_enumT (l : Addr) (items : Array Value) (n : Nat) (dct : Option Addr) (sl : Array (Option Value)) :
    Meets (Builtin.«enumerate.__new__» ⟨[.type "enumerate", .ref l], []⟩) (fun _ R s => s.heap.get? l = some { cls := .type "tuple", dict := dct, data := .seq items n, slots := sl } ∧
      R (.ok (.ret (.ref (s.heap.push { cls := .type "tuple_iterator", data := .fields #[.ref l, .int 0 0] }).objs.size)))
        { s with heap := (s.heap.push { cls := .type "tuple_iterator", data := .fields #[.ref l, .int 0 0] }).push { cls := .type "enumerate", data := .fields #[.none, .bool false, .ref s.heap.objs.size, rawInt 0, .none, .none] } }) :=
  .of_wp fun prog w A R s h => by
    obtain ⟨hp, g, d, tk, os⟩ := s
    obtain ⟨hl, h⟩ := h
    have hsub := sub_enumerate
    have hL : Heap.IsTuple (Shared.heap ⟨hp, g, d, tk, os⟩) l items := ⟨_, hl, rfl, n, rfl⟩
    wp_walk using wpAny_loadPart' hl
    refine wpAny_stack_any fun st => wpAny_pure ?_
    split
    · rename_i c _ _ _ _ _
      cases (c == Value.type "enumerate") <;> (wp_walk using wpAny_loadPart' hl, wpAny_pyIter_tuple hL; exact ⟨_, rfl, h⟩)
    · wp_walk using wpAny_loadPart' hl, wpAny_pyIter_tuple hL
      exact ⟨_, rfl, h⟩

section
variable {prog : Program} {w : World} {A : Around} {E : Value → Shared → Prop} {s : Shared}
theorem call_enumT {l : Addr} {items : Array Value} {Q : Value → Shared → Prop} (hL : IsTup s.heap l items)
    (h : ∀ h', IsEnum h' (s.heap.objs.size + 1) s.heap.objs.size 0 .none → h'.IsTupleIter s.heap.objs.size l 0 → (∀ b o, s.heap.get? b = some o → h'.get? b = some o) → Q (.ref (s.heap.objs.size + 1)) { s with heap := h' }) :
    wpAny (model prog w) A (call (.type "enumerate") [.ref l]) Q E s := by
  obtain ⟨⟨c, dct, dt, sl⟩, hl, hc, n, hd⟩ := hL
  simp only at hc hd
  subst hc hd
  refine callType_new F.called_enumerate (by decide) (F.typeCall_enumerate_1 _) (F.newCall_enumerate_1 _) (fun obj => F.args_object_init_2 obj _) F.entry_enumerate_new (meets_enumT l items n dct sl) ⟨hl, ?_⟩
  have hz : (s.heap.push { cls := .type "tuple_iterator", data := .fields #[.ref l, .int 0 0] }).objs.size = s.heap.objs.size + 1 := Heap.size_push ..
  show _ ∧ _
  rw [hz]
  have he : IsEnum ((s.heap.push { cls := .type "tuple_iterator", data := .fields #[.ref l, .int 0 0] }).push
      { cls := .type "enumerate", data := .fields #[.none, .bool false, .ref s.heap.objs.size, rawInt 0, .none, .none] }) (s.heap.objs.size + 1) s.heap.objs.size 0 .none := by
    have q := Heap.get?_push_size (s.heap.push { cls := .type "tuple_iterator", data := .fields #[.ref l, .int 0 0] })
      (o := { cls := .type "enumerate", data := .fields #[.none, .bool false, .ref s.heap.objs.size, rawInt 0, .none, .none] }) rfl
    rw [hz] at q
    exact q
  exact ⟨⟨_, he, rfl⟩, h _ he ⟨_, Heap.get?_push_of_some _ (Heap.get?_push_size _ rfl), rfl, rfl⟩ fun b o x => Heap.get?_push_of_some _ (Heap.get?_push_of_some _ x)⟩
end
/-- the tuple at a, its items numbered, in new pairs -/
def IteT (K : PySem.W.Frag) (a : Addr) : It :=
  ⟨fun i H => ∃ (xs : List V) (x : V), SqT K H a xs ∧ xs[i]? = some x, fun i H v H' => ∃ T x, v = .ref T ∧ H T = none ∧ H' = upd H T (.tup [.int (i : Nat), x]) ∧ ∀ xs, SqT K H a xs → xs[i]? = some x, fun i H => ∃ xs : List V, SqT K H a xs ∧ xs.length ≤ i⟩
theorem turn_enumT {P : Program} {w : World} {K : PySem.W.Frag} {elts : List Expr} {kk : Nat} {tpos : Pos} (a e it : Addr) :
    Turn P w K (.Tuple elts kk tpos) (IteT K a) [e, it] e (fun i h => (∃ old, IsEnum h e it ((i : Nat) : Int) old) ∧ h.IsTupleIter it a i ∧ e ≠ it) where
  mem := by simp
  obj := fun i h st b hb => by
    obtain ⟨⟨old, he⟩, ⟨o, ho, hc, hd⟩, _⟩ := st
    have e' : b = e ∨ b = it := by simpa using hb
    rcases e' with z | z
    · rw [z]; exact ⟨_, he, fun v q => by cases q⟩
    · rw [z]; exact ⟨o, ho, fun v q => by rw [hd] at q; cases q⟩
  keep := fun i h h' st k => let ⟨⟨old, he⟩, hi, hne⟩ := st; ⟨⟨old, k e (by simp) _ he⟩, hi.at fun o q => k it (by simp) o q, hne⟩
  item := by
    intro X hP hw hK hc i pins s σ H E I hf st hg
    subst hP hw hK
    obtain ⟨⟨old, he⟩, hit, hne⟩ := st
    obtain ⟨xs, x, hq, hx⟩ := hg
    obtain ⟨its, rv, p, hz⟩ := I.tuple hq
    obtain ⟨u, hu, ru⟩ := rv.get hx
    have hT0 : s.heap.IsTuple a its.toArray := p
    have hel : e < s.heap.objs.size := Heap.lt_size he
    have hil : it < s.heap.objs.size := by obtain ⟨_, q, _⟩ := hit; exact Heap.lt_size q
    have hat : a ≠ it := fun z => by
      obtain ⟨o, q1, q2, q3⟩ := hit
      obtain ⟨o', p1, p2, n, p3⟩ := p
      rw [z, q1] at p1; cases p1
      rw [q3] at p3; cases p3
    have hea : a ≠ e := fun z => by
      obtain ⟨o', p1, p2, n, p3⟩ := p
      have he' : s.heap.get? e = some _ := he
      rw [z, he'] at p1; cases p1
      cases p3
    have D := Draws.tuple (prog := X.prog) (w := X.w) (A := X.A.in1) (show X.A.in1.handled = none from I.ok.hd hc) it a hat its.toArray
    refine wpAny_pyNext_enum_itemC D he ⟨hit, hT0⟩ (show i < its.toArray.size by simpa using (List.getElem?_eq_some_iff.mp hu).1) hne (by simp [hne, Ne.symm hea]) fun y h' tk hy ho hst' hT hsz hk => ?_
    have ey : y = u := by
      rw [List.getElem?_toArray] at hy
      exact Option.some.inj (hy.symm.trans hu)
    subst ey
    obtain ⟨hit', _⟩ := hst'
    refine ⟨_, rfl, wpAny_letOwnedTupleGo_enum (s := { s with heap := h', toks := tk + 1 }) ho fun h'' he' sb => ?_⟩
    have hT2 : h''.get? s.heap.objs.size = some { cls := .type "tuple", data := .seq #[.int i tk, y] } := (sb.2 _ (Nat.ne_of_gt hel)).trans hT
    have new : ObjOk X.prog X.w (upd H s.heap.objs.size (.tup [.int (i : Nat), x])) h'' s.heap.objs.size (.tup [.int (i : Nat), x]) :=
      ⟨by show 2 ≤ sizeLine; decide, [.int i tk, y], .cons ⟨_, rfl⟩ (.cons ru .nil), ⟨_, hT2, rfl, _, rfl⟩⟩
    have I1 : Inv X pins σ (upd H s.heap.objs.size (.tup [.int (i : Nat), x])) { s with heap := h'', toks := tk + 1 } :=
      I.turnedNew (ch := [e, it]) (fun b ob hb q => (sb.2 b (fun z => hb (by simp [z]))).trans (hk b ob (fun z => hb (by simp [z])) (fun z => hb (by simp [z])) q)) hf (Nat.le_refl _) new
    refine ⟨.ref s.heap.objs.size, _, I1, rfl, ⟨_, x, rfl, I.hok.fresh (Nat.le_refl _), rfl, fun ys hy => by rw [I.tuple_inj hy hq]; exact hx⟩, ⟨⟨y, ?_⟩, hit'.at fun o q => (sb.2 it (Ne.symm hne)).trans q, hne⟩, fun b hb => ?_⟩
    · have e1 : ((i + 1 : Nat) : Int) = (i : Int) + 1 := by omega
      rw [e1]; exact he'
    · have hb' : b < s.heap.objs.size := by
        have e' : b = e ∨ b = it := by simpa using hb
        rcases e' with z | z
        · rw [z]; exact hel
        · rw [z]; exact hil
      rw [upd_ne (Nat.ne_of_lt hb')]
      exact (hf b hb).1
  done := by
    intro X hP hw hK hc i pins s σ H E I hf st hg
    subst hP hw hK
    obtain ⟨⟨old, he⟩, hit, hne⟩ := st
    obtain ⟨xs, hq, hx⟩ := hg
    obtain ⟨its, rv, p, hz⟩ := I.tuple hq
    obtain ⟨f0, f1, f2, f3, f4, f5⟩ := hf it (by simp)
    have hl := rv.length
    have hT0 : s.heap.IsTuple a its.toArray := p
    have hat : a ≠ it := fun z => by
      obtain ⟨o, q1, q2, q3⟩ := hit
      obtain ⟨o', p1, p2, n, p3⟩ := p
      rw [z, q1] at p1; cases p1
      rw [q3] at p3; cases p3
    have hT : s.TypeIs (.ref e) "enumerate" := ⟨_, he, rfl⟩
    have hh : X.A.in1.handled = none := I.ok.hd hc
    unfold pyNext
    refine wpAny_bind (wpAny_attempt (wpAny_callSpecial?_slot (name := Str.ofString "__next__") hT F.slot_enumerate_next (wpAny_call_entry F.slot_enumerate_next hT F.entry_enumerate_next ?_ (F.args_enumerate_next_1 _))))
    show wpAny _ _ (field (.ref e) 2 >>= _) _ _ _
    refine wpAny_bind (wpAny_field he rfl (x := .ref it) rfl ?_)
    refine wpAny_bind (wpAny_nextOf_tuple_end hh hit hT0 (by simp; omega) fun h' x he' hx' => ?_)
    obtain ⟨o, ho, hc⟩ := hx'
    refine wpAny_bind (wpAny_isInstance (T := "StopIteration") (b := true) ⟨o, ho, hc⟩ isSubtype_stop ?_)
    exact wpAny_pure ⟨rfl, I.turned (t' := s.toks) (fun b o hb q => he' b o hb q) f0 f1 f3 f4 f5⟩
  self := fun A i s Q E st h => let ⟨⟨_, he⟩, _⟩ := st; wpAny_pyIter_enum he h

/-- enumerate(t) in a for or a comprehension, t a tuple -/
def iEnumT (K : PySem.W.Frag) (ta : TA) : TI := fun σ H R => ta σ H fun vs H1 => ∃ a xs, vs = [.ref a] ∧ SqT K H1 a xs ∧ R (IteT K a) H1
theorem pi_enumT {X : Cx} {e : Expr} {ta : TA} {p pos tpos : Pos} {elts : List Expr} {kk : Nat} (hg : Gl X "enumerate") (hm : X.mg "enumerate" = none) (ha : PA X [e] ta) (hs : starEach [e] X.env = [(false, eval e X.env)]) :
    PI X (.Tuple elts kk tpos) (.Call (.Name "enumerate" p) [e] [] pos) (iEnumT X.K ta) := by
  refine ⟨fun pins s σ H R I h => ?_⟩
  refine Call_ (ld_blt I hg hm boot_enumerate (PyProof.Rows.callWith_type1 (thn (ha.run pos pins s σ H _ I h) fun us s1 ⟨vs, H1, I1, r1, q1⟩ => ?_) hs rfl))
  obtain ⟨a, xs, ex, hq, q⟩ := q1
  subst ex
  cases r1 with
  | cons r rr =>
    cases rr
    cases r
    obtain ⟨its, rv, p', hz⟩ := I1.tuple hq
    refine call_enumT p' fun h' he hit hk => wpAny_pyIter_enum he ?_
    have I2 : Inv X pins σ H1 { s1 with heap := h' } := I1.kept (t' := s1.toks) hk
    refine ⟨s1.heap.objs.size + 1, [s1.heap.objs.size + 1, s1.heap.objs.size], _, _, H1, rfl, I2, turn_enumT a (s1.heap.objs.size + 1) s1.heap.objs.size, ⟨⟨.none, he⟩, hit, Nat.succ_ne_self _⟩, fun b hb => ?_, q⟩
    have e' : b = s1.heap.objs.size + 1 ∨ b = s1.heap.objs.size := by simpa using hb
    have hle : s1.heap.objs.size ≤ b := by
      rcases e' with z | z
      · rw [z]; exact Nat.le_add_right _ _
      · rw [z]; exact Nat.le_refl _
    exact I1.fpOk hle (I1.hok.fresh hle)

section
variable {X : Cx} {G : Gm} {W : WX} {fe : FEnv} {f : Addr → Prop} {r r' : List Addr} {H H' : Hp} {S : Sto}
/-- a list that stands still -/
def StL (K : PySem.W.Frag) (f : Addr → Prop) (r : List Addr) (H : Hp) (a : Addr) (vs : List V) : Prop := (H a = some (.lst vs) ∧ a ∉ r ∧ ¬ f a) ∨ FrL K H a vs
theorem StL.sq {K : PySem.W.Frag} {a : Addr} {vs : List V} (h : StL K f r H a vs) : SqL K H a vs := h.elim (fun h => SqL.of h.1) FrL.sq
theorem StL.ext (R : Rl G f r H S) (x : Ext r H r' H') {a : Addr} {vs : List V} (h : StL G.K f r H a vs) : StL G.K f r' H' a vs := by
  rcases h with ⟨q, n, m⟩ | h
  · exact .inl ⟨x.keep _ _ q n (fun _ z => by cases z), notin_ext x q n, m⟩
  · exact .inr (frL_ext R x h)
/-- more places are foreign: those that were not there -/
theorem Rel.wider {f1 : Addr → Prop} (hf : ∀ a, f1 a → ¬ f a → H a = none) {t : T} {v : V} (h : Rel G.K f r H t v) : Rel G.K f1 r H t v := by
  refine Rel.rec (motive_1 := fun t v _ => Rel G.K f1 r H t v) (motive_2 := fun t v _ => RelL G.K f1 r H t v) .non (fun _ => .bl _) (fun _ => .int _) (fun _ => .str _) (fun q _ k => .tup q k) (fun q n m _ k => .lst q n (fun z => ?_) k) (fun q _ k => .fro q k) (fun q => .loc q) .nil (fun _ _ a b => .cons a b) h
  have := hf _ z m
  rw [q] at this
  cases this
theorem RelL.wider {f1 : Addr → Prop} (hf : ∀ a, f1 a → ¬ f a → H a = none) : ∀ {t : List T} {v : List V}, RelL G.K f r H t v → RelL G.K f1 r H t v
  | [], _, h => by cases h; exact .nil
  | _ :: _, _, h => by cases h with | cons a b => exact .cons (a.wider hf) (RelL.wider hf b)
/-- fewer places are foreign -/
theorem Rel.fewer {f1 : Addr → Prop} (hf : ∀ a, f1 a → f a) {t : T} {v : V} (h : Rel G.K f r H t v) : Rel G.K f1 r H t v :=
  Rel.rec (motive_1 := fun t v _ => Rel G.K f1 r H t v) (motive_2 := fun t v _ => RelL G.K f1 r H t v) .non (fun _ => .bl _) (fun _ => .int _) (fun _ => .str _) (fun q _ k => .tup q k) (fun q n m _ k => .lst q n (fun z => m (hf _ z)) k) (fun q _ k => .fro q k) (fun q => .loc q) .nil (fun _ _ a b => .cons a b) h
theorem RelL.fewer {f1 : Addr → Prop} (hf : ∀ a, f1 a → f a) : ∀ {t : List T} {v : List V}, RelL G.K f r H t v → RelL G.K f1 r H t v
  | [], _, h => by cases h; exact .nil
  | _ :: _, _, h => by cases h with | cons a b => exact .cons (a.fewer hf) (RelL.fewer hf b)
theorem ObR.wider {f1 : Addr → Prop} (hf : ∀ a, f1 a → ¬ f a → H a = none) {a : Addr} {o : Ob} (h : ObR G f r H a o) : ObR G f1 r H a o := by
  cases o with
  | lst xs => obtain ⟨vs, h1, h2⟩ := h; exact ⟨vs, h1, h2.wider hf⟩
  | ins c fs => obtain ⟨dx, fvs, h1, h2, h3⟩ := h; exact ⟨dx, fvs, h1, h2, h3.wider hf⟩
theorem ObR.fewer {f1 : Addr → Prop} (hf : ∀ a, f1 a → f a) {a : Addr} {o : Ob} (h : ObR G f r H a o) : ObR G f1 r H a o := by
  cases o with
  | lst xs => obtain ⟨vs, h1, h2⟩ := h; exact ⟨vs, h1, h2.fewer hf⟩
  | ins c fs => obtain ⟨dx, fvs, h1, h2, h3⟩ := h; exact ⟨dx, fvs, h1, h2, h3.fewer hf⟩
/-- what a walk yields -/
inductive Src (G : Gm) (f : Addr → Prop) (r : List Addr) (H : Hp) : List T → It → Prop
  | list {a : Addr} {xs : List T} {vs : List V} : StL G.K f r H a vs → RelL G.K f r H xs vs → Src G f r H xs (Itl G.K a)
  | tup {a : Addr} {xs : List T} {vs : List V} : SqT G.K H a vs → RelL G.K f r H xs vs → Src G f r H xs (Itt G.K a)
  | rng (lo : Int) (n : Nat) : Src G f r H (rngL n lo) (Itr lo n)
  | enumL {a : Addr} {xs : List T} {vs : List V} : StL G.K f r H a vs → RelL G.K f r H xs vs → Src G f r H (enumL xs 0) (Ite G.K a)
  | enumT {a : Addr} {xs : List T} {vs : List V} : SqT G.K H a vs → RelL G.K f r H xs vs → Src G f r H (FC.enumL xs 0) (IteT G.K a)
theorem Src.ext (R : Rl G f r H S) (x : Ext r H r' H') {xs : List T} {J : It} (h : Src G f r H xs J) : Src G f r' H' xs J := by
  cases h with
  | list a b => exact .list (a.ext R x) (b.ext R x)
  | tup a b => exact .tup (sqT_ext R x a) (b.ext R x)
  | rng lo n => exact .rng lo n
  | enumL a b => exact .enumL (a.ext R x) (b.ext R x)
  | enumT a b => exact .enumT (sqT_ext R x a) (b.ext R x)
theorem StL.wider {f1 : Addr → Prop} (hf : ∀ a, f1 a → ¬ f a → H a = none) {a : Addr} {vs : List V} (h : StL G.K f r H a vs) : StL G.K f1 r H a vs := by
  rcases h with ⟨q, n, m⟩ | h
  · refine .inl ⟨q, n, fun z => ?_⟩
    have := hf _ z m
    rw [q] at this
    cases this
  · exact .inr h
theorem Src.wider {f1 : Addr → Prop} (hf : ∀ a, f1 a → ¬ f a → H a = none) {xs : List T} {J : It} (h : Src G f r H xs J) : Src G f1 r H xs J := by
  cases h with
  | list a b => exact .list (a.wider hf) (b.wider hf)
  | tup a b => exact .tup a (b.wider hf)
  | rng lo n => exact .rng lo n
  | enumL a b => exact .enumL (a.wider hf) (b.wider hf)
  | enumT a b => exact .enumT a (b.wider hf)
theorem enumL_get : ∀ {xs : List T} {k i : Nat} {x : T}, xs[i]? = some x → (enumL xs k)[i]? = some (.tup [.int ((k + i : Nat) : Int), x])
  | [], _, _, _, h => by simp at h
  | y :: ys, k, 0, x, h => by
    have e : y = x := by simpa using h
    subst e
    rfl
  | y :: ys, k, i + 1, x, h => by
    have := enumL_get (xs := ys) (k := k + 1) (i := i) (x := x) (by simpa using h)
    rw [show k + 1 + i = k + (i + 1) by omega] at this
    simpa [enumL] using this
theorem enumL_length : ∀ (xs : List T) (k : Nat), (enumL xs k).length = xs.length
  | [], _ => rfl
  | _ :: xs, k => by simp [enumL, enumL_length xs]
theorem rngL_length (n : Nat) (lo : Int) : (rngL n lo).length = n := by simp [rngL]
theorem Src.go {xs : List T} {J : It} (h : Src G f r H xs J) {i : Nat} (hi : i < xs.length) : J.go i H := by
  cases h with
  | list a b => exact ⟨_, _, a.sq, List.getElem?_eq_getElem (by rw [← b.length]; exact hi)⟩
  | tup a b => exact ⟨_, _, a, List.getElem?_eq_getElem (by rw [← b.length]; exact hi)⟩
  | rng lo n => rw [rngL_length] at hi; exact hi
  | enumL a b => rw [enumL_length] at hi; exact ⟨_, _, a.sq, List.getElem?_eq_getElem (by rw [← b.length]; exact hi)⟩
  | enumT a b => rw [enumL_length] at hi; exact ⟨_, _, a, List.getElem?_eq_getElem (by rw [← b.length]; exact hi)⟩
theorem Src.stop {xs : List T} {J : It} (h : Src G f r H xs J) {i : Nat} (hi : xs.length ≤ i) : J.stop i H := by
  cases h with
  | list a b => exact ⟨_, a.sq, by rw [← b.length]; exact hi⟩
  | tup a b => exact ⟨_, a, by rw [← b.length]; exact hi⟩
  | rng lo n => rw [rngL_length] at hi; exact hi
  | enumL a b => rw [enumL_length] at hi; exact ⟨_, a.sq, by rw [← b.length]; exact hi⟩
  | enumT a b => rw [enumL_length] at hi; exact ⟨_, a, by rw [← b.length]; exact hi⟩
theorem Src.yld (R : Rl G f r H S) {xs : List T} {J : It} (h : Src G f r H xs J) {i : Nat} {t : T} (hi : xs[i]? = some t) {v : V} {H2 : Hp} (y : J.yld i H v H2) :
    Ext r H r H2 ∧ Rl G f r H2 S ∧ Rel G.K f r H2 t v ∧ ∀ a o, H a = some o → H2 a = some o := by
  have pair : ∀ {ys : List T} {vs : List V}, RelL G.K f r H ys vs → xs = FC.enumL ys 0 → (∃ Tt x, v = .ref Tt ∧ H Tt = none ∧ H2 = upd H Tt (.tup [.int (i : Nat), x]) ∧ vs[i]? = some x) →
      Ext r H r H2 ∧ Rl G f r H2 S ∧ Rel G.K f r H2 t v ∧ ∀ a o, H a = some o → H2 a = some o := fun {ys vs} b e y => by
    obtain ⟨Tt, x, rfl, hn, rfl, hx⟩ := y
    obtain ⟨u, hu, ru⟩ := b.get' hx
    have e2 := enumL_get (k := 0) hu
    rw [← e, hi, Nat.zero_add] at e2
    cases e2
    exact ⟨upd_ext hn r, R.fresh hn, Rel.newT R hn (.cons (.int _) (.cons ru .nil)), fun a o q => by rw [upd_ne (ne_of_none q hn)]; exact q⟩
  cases h with
  | list a b =>
    obtain ⟨rfl, y⟩ := y
    obtain ⟨u, hu, ru⟩ := b.get' (y _ a.sq)
    rw [hi] at hu; cases hu
    exact ⟨Ext.refl _ _, R, ru, fun _ _ q => q⟩
  | tup a b =>
    obtain ⟨rfl, y⟩ := y
    obtain ⟨u, hu, ru⟩ := b.get' (y _ a)
    rw [hi] at hu; cases hu
    exact ⟨Ext.refl _ _, R, ru, fun _ _ q => q⟩
  | rng lo n =>
    obtain ⟨rfl, rfl⟩ := y
    have hn : i < n := by have := (List.getElem?_eq_some_iff.mp hi).1; rwa [rngL_length] at this
    have : t = .int (lo + (i : Nat)) := by
      unfold rngL at hi
      rw [List.getElem?_map, List.getElem?_range hn] at hi
      exact (Option.some.inj hi).symm
    subst this
    exact ⟨Ext.refl _ _, R, .int _, fun _ _ q => q⟩
  | enumL a b =>
    obtain ⟨Tt, x, h1, h2, h3, y⟩ := y
    exact pair b rfl ⟨Tt, x, h1, h2, h3, y _ a.sq⟩
  | enumT a b =>
    obtain ⟨Tt, x, h1, h2, h3, y⟩ := y
    exact pair b rfl ⟨Tt, x, h1, h2, h3, y _ a⟩

/-! ### the walks of the text -/
abbrev rI (G : Gm) (f : Addr → Prop) : List Addr → Hp → List T → It → Prop := fun r H => Src G f r H
def itR (fe : FEnv) (k : ItK) (i1 i2 : E) (e : Env) (S : Sto) : R (List T) := (evE fe i1 e S).bind fun x S1 => (evE fe i2 e S1).bind fun y S2 => FC.ofO (itT k S2 x y) S2
def TIof (G : Gm) (W : WX) (m : Env → Sto → R (List T)) : TI := fun s H R => ∃ f r e S, Rl G f r H S ∧ EnvR G f r H e s ∧ Go G W f (rI G f) r H s (m e S) R
theorem piI {tg iter : Expr} {t t' : TI} (h : PI X tg iter t) (i : ∀ s H Q, t' s H Q → t s H Q) : PI X tg iter t' := ⟨fun pins s σ H Q I q => h.run pins s σ H Q I (i _ _ _ q)⟩
/-- the walk is chosen by what the run gives -/
theorem piC {tg iter : Expr} {t' : TI} (h : ∀ s H Q, t' s H Q → ∃ t, PI X tg iter t ∧ t s H Q) : PI X tg iter t' := ⟨fun pins s σ H Q I q => let ⟨_, p, k⟩ := h _ _ _ q; p.run pins s σ H Q I k⟩
theorem titems_ok {t : T} {v : V} {xs : List T} (h : Rel G.K f r H t v) (e : titems t = some xs) : ∃ a vs, v = .ref a ∧ RelL G.K f r H xs vs ∧ ((∃ ys, t = .tup ys) ∧ SqT G.K H a vs ∨ (∀ ys, t ≠ .tup ys) ∧ StL G.K f r H a vs) := by
  cases h with
  | tup q t => cases e; exact ⟨_, _, rfl, t, .inl ⟨⟨_, rfl⟩, q⟩⟩
  | lst q n m t => cases e; exact ⟨_, _, rfl, t, .inr ⟨(fun _ z => by cases z), .inl ⟨q, n, m⟩⟩⟩
  | fro q t => cases e; exact ⟨_, _, rfl, t, .inr ⟨(fun _ z => by cases z), .inr q⟩⟩
  | non => cases e
  | bl _ => cases e
  | int _ => cases e
  | str _ => cases e
  | loc _ => cases e
theorem pi_ofF {tg iter : Expr} {ei : E} (hK : X.K = G.K) (ha : PE X iter (TEof G W (evE fe ei))) : PI X tg iter (TIof G W (itR fe .of ei (.cst .non))) := by
  refine piC fun s H Q ⟨f, r, e, S, R, E, go⟩ => ?_
  have go : Go G W f (rI G f) r H s ((evE fe ei e S).bind fun x S1 => FC.ofO (titems x) S1) Q := go
  have part : ∀ (Q' : VK), (∀ r1 t S1 v H1, evE fe ei e S = .ok t S1 → Ext r H r1 H1 → Rl G f r1 H1 S1 → Rel G.K f r1 H1 t v → Go G W f (rI G f) r1 H1 s (FC.ofO (titems t) S1) Q → Q' v H1) → TEof G W (evE fe ei) s H Q' := fun Q' i =>
    ⟨f, r, e, S, R, E, (go.bind (rel := rT G f)).mono fun v H1 ⟨r1, t, S1, e1, x1, R1, q1, go1⟩ => i r1 t S1 v H1 e1 x1 R1 q1 go1⟩
  by_cases ht : ∃ ys S1, evE fe ei e S = .ok (.tup ys) S1
  · obtain ⟨ys, S1', ht⟩ := ht
    refine ⟨_, pi_tup ha, part _ fun r1 t S1 v H1 e1 x1 R1 q1 go1 => ?_⟩
    rw [ht] at e1
    cases e1
    obtain ⟨xs, hx, go2⟩ := go1.ofO
    obtain ⟨a, vs, rfl, k1, k2⟩ := titems_ok q1 hx
    rcases k2 with ⟨_, k2⟩ | ⟨n, _⟩
    · refine ⟨a, rfl, ⟨vs, by rw [hK]; exact k2⟩, ?_⟩
      rw [hK]
      exact go2.ok R1 (.tup k2 k1)
    · exact absurd rfl (n _)
  · refine ⟨_, pi_list ha, part _ fun r1 t S1 v H1 e1 x1 R1 q1 go1 => ?_⟩
    obtain ⟨xs, hx, go2⟩ := go1.ofO
    obtain ⟨a, vs, rfl, k1, k2⟩ := titems_ok q1 hx
    rcases k2 with ⟨⟨ys, rfl⟩, _⟩ | ⟨_, k2⟩
    · exact absurd ⟨ys, S1, e1⟩ ht
    · refine ⟨a, rfl, ⟨vs, by rw [hK]; exact k2.sq⟩, ?_⟩
      rw [hK]
      exact go2.ok R1 (.list k2 k1)
theorem small62_ok {i : Int} (h : small62 i = true) : -(2 ^ 62) ≤ i ∧ i < 2 ^ 62 := by
  unfold small62 at h
  simpa using h
theorem pi_rng1F {tg a : Expr} {ei : E} {p pos : Pos} (hg : Gl X "range") (hm : X.mg "range" = none) (hn : noStar [a] = true) (ha : PE X a (TEof G W (evE fe ei))) : PI X tg (.Call (.Name "range" p) [a] [] pos) (TIof G W (itR fe .range1 ei (.cst .non))) := by
  refine piI (pi_range1 hg hm (pa_cons ha pa_nil (starEach_cons hn)) (starEach_cons hn)) fun s H Q ⟨f, r, e, S, R, E, go⟩ => ?_
  have go : Go G W f (rI G f) r H s ((evE fe ei e S).bind fun x S1 => FC.ofO (itT .range1 S1 x .non) S1) Q := go
  refine te_part R E go fun r1 t S1 v H1 x1 R1 E1 q1 go1 => ?_
  obtain ⟨xs, hx, go2⟩ := go1.ofO
  cases q1 with
  | int n =>
    have hx : (if small62 n then some (rngL n.toNat 0) else none) = some xs := hx
    split at hx
    · rename_i c
      cases hx
      obtain ⟨h1, h2⟩ := small62_ok c
      exact ⟨n, rfl, h1, h2, go2.ok R1 (.rng 0 _)⟩
    · cases hx
  | _ => cases hx
theorem pi_rng2F {tg a b : Expr} {ei ej : E} {p pos : Pos} (hg : Gl X "range") (hm : X.mg "range" = none) (hn : noStar [a, b] = true) (ha : PE X a (TEof G W (evE fe ei))) (hb : PE X b (TEof G W (evE fe ej))) :
    PI X tg (.Call (.Name "range" p) [a, b] [] pos) (TIof G W (itR fe .range2 ei ej)) := by
  refine piI (pi_range2 hg hm (pa_cons ha (pa_cons hb pa_nil (starEach_cons (noStar_tail hn))) (starEach_cons hn)) (by rw [starEach_cons hn, starEach_cons (noStar_tail hn)]; rfl) (starEach_cons (noStar_tail hn))) fun s H Q ⟨f, r, e, S, R, E, go⟩ => ?_
  have go : Go G W f (rI G f) r H s ((evE fe ei e S).bind fun x S1 => (evE fe ej e S1).bind fun y S2 => FC.ofO (itT .range2 S2 x y) S2) Q := go
  refine te_part R E go fun r1 t S1 v H1 x1 R1 E1 q1 go1 => ?_
  refine te_part R1 E1 go1 fun r2 u S2 w H2 x2 R2 E2 q2 go2 => ?_
  obtain ⟨xs, hx, go3⟩ := go2.ofO
  cases q1 with
  | int i =>
    cases q2 with
    | int j =>
      have hx : (if small62 i && small62 j then some (rngL (j - i).toNat i) else none) = some xs := hx
      split at hx
      · rename_i c
        have c := Bool.and_eq_true_iff.mp c
        cases hx
        obtain ⟨h1, h2⟩ := small62_ok c.1
        obtain ⟨h3, h4⟩ := small62_ok c.2
        exact ⟨i, j, rfl, ⟨h1, h2, h3, h4⟩, go3.ok R2 (.rng i _)⟩
      · cases hx
    | _ => cases hx
  | _ => cases hx
theorem pi_enumF {a : Expr} {ei : E} {p pos tpos : Pos} {elts : List Expr} {kk : Nat} (hK : X.K = G.K) (hg : Gl X "enumerate") (hm : X.mg "enumerate" = none) (hn : noStar [a] = true) (ha : PE X a (TEof G W (evE fe ei))) :
    PI X (.Tuple elts kk tpos) (.Call (.Name "enumerate" p) [a] [] pos) (TIof G W (itR fe .enum ei (.cst .non))) := by
  refine piC fun s H Q ⟨f, r, e, S, R, E, go⟩ => ?_
  have go : Go G W f (rI G f) r H s ((evE fe ei e S).bind fun x S1 => FC.ofO ((titems x).map fun xs => enumL xs 0) S1) Q := go
  have part : ∀ (Q' : VK), (∀ r1 t S1 v H1, evE fe ei e S = .ok t S1 → Ext r H r1 H1 → Rl G f r1 H1 S1 → Rel G.K f r1 H1 t v → Go G W f (rI G f) r1 H1 s (FC.ofO ((titems t).map fun xs => enumL xs 0) S1) Q → Q' v H1) → TEof G W (evE fe ei) s H Q' := fun Q' i =>
    ⟨f, r, e, S, R, E, (go.bind (rel := rT G f)).mono fun v H1 ⟨r1, t, S1, e1, x1, R1, q1, go1⟩ => i r1 t S1 v H1 e1 x1 R1 q1 go1⟩
  have hpa : PA X [a] (tCons (TEof G W (evE fe ei)) tNil) := pa_cons ha pa_nil (starEach_cons hn)
  by_cases ht : ∃ ys S1, evE fe ei e S = .ok (.tup ys) S1
  · obtain ⟨ys, S1', ht⟩ := ht
    refine ⟨_, pi_enumT hg hm hpa (starEach_cons hn), part _ fun r1 t S1 v H1 e1 x1 R1 q1 go1 => ?_⟩
    rw [ht] at e1
    cases e1
    obtain ⟨xs', hx', go2⟩ := go1.ofO
    obtain ⟨xs, hx, rfl⟩ := Option.map_eq_some_iff.mp hx'
    obtain ⟨a, vs, rfl, k1, k2⟩ := titems_ok q1 hx
    rcases k2 with ⟨_, k2⟩ | ⟨n, _⟩
    · refine ⟨a, vs, rfl, by rw [hK]; exact k2, ?_⟩
      rw [hK]
      exact go2.ok R1 (.enumT k2 k1)
    · exact absurd rfl (n _)
  · refine ⟨_, pi_enum hg hm hpa (starEach_cons hn), part _ fun r1 t S1 v H1 e1 x1 R1 q1 go1 => ?_⟩
    obtain ⟨xs', hx', go2⟩ := go1.ofO
    obtain ⟨xs, hx, rfl⟩ := Option.map_eq_some_iff.mp hx'
    obtain ⟨a, vs, rfl, k1, k2⟩ := titems_ok q1 hx
    rcases k2 with ⟨⟨ys, rfl⟩, _⟩ | ⟨_, k2⟩
    · exact absurd ⟨ys, S1, e1⟩ ht
    · refine ⟨a, vs, rfl, by rw [hK]; exact k2.sq, ?_⟩
      rw [hK]
      exact go2.ok R1 (.enumL k2 k1)

/-! ### targets of loops -/
mutual
def P.slots : P → List Nat
  | .nm i => [i]
  | .tp ps => P.slotsL ps
def P.slotsL : List P → List Nat
  | [] => []
  | p :: ps => p.slots ++ P.slotsL ps
end
def Apart (vs : List Nat) (s s' : L2.St) : Prop := s'.length = s.length ∧ ∀ j, j ∉ vs → s'[j]? = s[j]?
def TGof (G : Gm) (p : P) : TG := fun v s H Q => ∃ f r t e S e', Rl G f r H S ∧ EnvR G f r H e s ∧ Rel G.K f r H t v ∧ bindT p t e = some e' ∧ ∀ s', EnvR G f r H e' s' → Apart p.slots s s' → Q s' H
def TGsof (G : Gm) (ps : List P) : TGs := fun vs s H Q => ∃ f r ts e S e', Rl G f r H S ∧ EnvR G f r H e s ∧ RelL G.K f r H ts vs ∧ bindTs ps ts e = some e' ∧ ∀ s', EnvR G f r H e' s' → Apart (P.slotsL ps) s s' → Q s' H
theorem pgI {tg : Expr} {t t' : TG} (h : PG X tg t) (i : ∀ v s H Q, t' v s H Q → t v s H Q) : PG X tg t' := ⟨fun pins s σ H v u Q I r q => h.run pins s σ H v u Q I r (i _ _ _ _ q)⟩
theorem pgsI {tg : List Expr} {t t' : TGs} (h : PGs X tg t) (i : ∀ v s H Q, t' v s H Q → t v s H Q) : PGs X tg t' := ⟨fun pins s σ H v u Q I r q => h.run pins s σ H v u Q I r (i _ _ _ _ q)⟩
theorem pg_nmF {i : Nat} {x : Str} {pos : Pos} (hN : X.N.Nodup) (hi : X.N[i]? = some x) (hx : Loc X.env.scope x) (hf : X.fn x = true ∨ X.env.scope.names.lookup x = some .local) : PG X (.Name x pos) (TGof G (.nm i)) := by
  refine pgI (pg_name hN hi hx hf) fun v s H Q ⟨f, r, t, e, S, e', R, E, q, hb, h⟩ => ?_
  cases hb
  refine h _ (E.set i q) ⟨by simp, fun j hj => ?_⟩
  have hj : j ≠ i := by simpa [P.slots] using hj
  rw [List.getElem?_set_ne (Ne.symm hj)]
theorem pgs_nilF : PGs X [] (TGsof G []) := by
  refine pgsI pgs_nil fun v s H Q ⟨f, r, ts, e, S, e', R, E, q, hb, h⟩ => ?_
  cases ts with
  | nil => cases q; cases hb; exact ⟨rfl, h s E ⟨rfl, fun _ _ => rfl⟩⟩
  | cons a b => cases hb
theorem assignEach_cons {env : PySem.Env} {e : Expr} {es : List Expr} (h : noStar (e :: es) = true) : assignEach (e :: es) env = (false, assign e env) :: assignEach es env := by
  cases e <;> first | rfl | exact absurd (show false = true from h) Bool.false_ne_true
theorem assignEach_plain {env : PySem.Env} : ∀ {es : List Expr}, noStar es = true → (assignEach es env).length = es.length ∧ (assignEach es env).findIdx? (·.1) = none
  | [], _ => ⟨rfl, rfl⟩
  | e :: es, h => by
    obtain ⟨h1, h2⟩ := assignEach_plain (env := env) (noStar_tail h)
    have : ∃ x, assignEach (e :: es) env = (false, x) :: assignEach es env := by
      cases e <;> first | exact ⟨_, rfl⟩ | exact absurd (show false = true from h) Bool.false_ne_true
    obtain ⟨x, q⟩ := this
    rw [q]
    refine ⟨by simp [h1], ?_⟩
    rw [List.findIdx?_cons]
    simp [h2]
theorem pgs_consF {e : Expr} {es : List Expr} {p : P} {ps : List P} (hn : noStar (e :: es) = true) (h1 : PG X e (TGof G p)) (h2 : PGs X es (TGsof G ps)) : PGs X (e :: es) (TGsof G (p :: ps)) := by
  refine pgsI (pgs_cons h1 h2 (by rw [assignEach_cons hn]; rfl)) fun v s H Q ⟨f, r, ts, e, S, e', R, E, q, hb, h⟩ => ?_
  cases ts with
  | nil => cases hb
  | cons t ts =>
    cases q with
    | cons a b =>
      have hb : (match bindT p t e with | some e' => bindTs ps ts e' | none => none) = some e' := hb
      cases h3 : bindT p t e with
      | none => rw [h3] at hb; cases hb
      | some e1 =>
        rw [h3] at hb
        refine ⟨_, _, rfl, f, r, t, e, S, e1, R, E, a, h3, fun s1 E1 A1 => ⟨f, r, ts, e1, S, e', R, E1, b, hb, fun s2 E2 A2 => h s2 E2 ⟨A2.1.trans A1.1, fun j hj => ?_⟩⟩⟩
        have hj : j ∉ p.slots ∧ j ∉ P.slotsL ps := by simpa [P.slotsL] using hj
        exact (A2.2 j hj.2).trans (A1.2 j hj.1)
theorem bindTs_len : ∀ {ps : List P} {ts : List T} {e e' : Env}, bindTs ps ts e = some e' → ts.length = ps.length
  | [], [], _, _, _ => rfl
  | [], _ :: _, _, _, h => by cases h
  | _ :: _, [], _, _, h => by cases h
  | p :: ps, t :: ts, e, e', h => by
    have hb : (match bindT p t e with | some e' => bindTs ps ts e' | none => none) = some e' := h
    cases h3 : bindT p t e with
    | none => rw [h3] at hb; cases hb
    | some e1 =>
      rw [h3] at hb
      simp [bindTs_len hb]
theorem pg_tpF {es : List Expr} {ps : List P} {k : Nat} {pos : Pos} (hK : X.K = G.K) (hc : X.calm = true) (hn : noStar es = true) (hl : es.length = ps.length) (h : PGs X es (TGsof G ps)) : PG X (.Tuple es k pos) (TGof G (.tp ps)) := by
  refine pgI (pg_tup (n := ps.length) hc h (by rw [(assignEach_plain hn).1, hl]) (assignEach_plain hn).2) fun v s H Q ⟨f, r, t, e, S, e', R, E, q, hb, h⟩ => ?_
  cases q with
  | tup a b =>
    have hb : bindTs ps _ e = some e' := hb
    exact ⟨_, _, rfl, by rw [hK]; exact a, by rw [← b.length]; exact bindTs_len hb, f, r, _, e, S, e', R, E, b, hb, h⟩
  | _ => cases hb
end
end FC
end

section
set_option Elab.async false
set_option linter.all false
set_option maxRecDepth 100000
set_option maxHeartbeats 4000000
/-! FcComp: list comprehensions whose parts may raise. -/
namespace FC
open PySem PySem.Spec PyProof.Rows L2 LamX
/-- the reading of a comprehension; tt, te: the tests', the element's, by the slots around -/
def tLcX (wi : TI) (g : TG) (tt : L2.St → TT) (te : L2.St → TE) (vs : List Nat) : TE := fun s0 H Q => wi s0 H fun J H1 => ∀ D, H1 D = none → ∃ Wv : Nat → Nat → Hp → Prop, (∃ m, Wv 0 m (upd H1 D (.lst []))) ∧ ∀ i m H, Wv i m H →
  (J.stop i H ∧ Q (.ref D) H) ∨ (J.go i H ∧ ∃ Nx : Hp → Prop, (∀ H', Nx H' → ∃ m', m' < m ∧ Wv (i + 1) m' H') ∧ ∀ x H', J.yld i H x H' → g x (wipe s0 vs) H' fun s2 H2 => wipe s2 vs = wipe s0 vs ∧ tt s0 s2 H2 fun b H3 =>
    if b = true then te s0 s2 H3 fun y H4 => ∃ acc, H4 D = some (.lst acc) ∧ acc.length < sizeLine ∧ Nx (upd H4 D (.lst (acc ++ [y]))) else Nx H3)
section
variable {X : Cx} {L : Addr} {W : WX}
theorem lcX {pins : List (Addr × Obj)} {s : Shared} {σ : L2.St} {H : Hp} {Q : VK} {elt tg iter : Expr} {ifs : List Expr} {scope : Scope} {own : List (Str × Nat)} {pos pos' : Pos} {wi : TI} {g : TG} {tt : L2.St → TT} {te : L2.St → TE} {use : Option (Value → Sem Unit)} {Qf : Value → Shared → Prop}
    (hc : X.calm = true) (hN : X.N.Nodup) (Fm : Frm X L) (tk : ∀ u s', Air X L W u s' → X.xe u s') (I : Inv X pins σ H s) (hi : PI X tg iter wi) (ok : BlkOk X.N X.env.scope scope own)
    (hg : ∀ (s : Shared) (H : Hp) (C : Addr) (cl : List (Str × Addr)) (fp : List Addr) (xe : Value → Shared → Prop), PG ((X.blk s H scope (compEnvC scope cl C X.env) fp).wish xe) tg g)
    (ht : ∀ (s0 : L2.St) (s : Shared) (H : Hp) (C : Addr) (cl : List (Str × Addr)) (fp : List Addr) (xe : Value → Shared → Prop), (∀ u s', Air ((X.blk s H scope (compEnvC scope cl C X.env) fp).wish xe) L (fun cls d _ H' => W cls d s0 H') u s' → xe u s') →
      PTs ((X.blk s H scope (compEnvC scope cl C X.env) fp).wish xe) ifs (tt s0))
    (he : ∀ (s0 : L2.St) (s : Shared) (H : Hp) (C : Addr) (cl : List (Str × Addr)) (fp : List Addr) (xe : Value → Shared → Prop), (∀ u s', Air ((X.blk s H scope (compEnvC scope cl C X.env) fp).wish xe) L (fun cls d _ H' => W cls d s0 H') u s' → xe u s') →
      PE ((X.blk s H scope (compEnvC scope cl C X.env) fp).wish xe) elt (te s0))
    (hs : ∀ x, foldedSetIterable iter X.env x = pure x) (h : tLcX wi g tt te (own.map (·.2)) σ H Q)
    (hRR : ∀ D (ce : PySem.Env) s' m H', Inv X pins σ H' s' → Q (.ref D) H' → s'.heap.Ns ce.locals m → FpOk X pins H' ce.locals → compEnds (model X.prog X.w) X.A X.xe use Qf (.ref D) ce (.ok .next) s') :
    wpAny (model X.prog X.w) X.A (comprehension (.ListComp elt [⟨tg, iter, ifs, 0⟩] scope pos) scope X.env pos' (newList []) false (eval iter X.env) use) Qf X.xe s := by
  have hfree : ∀ y ∈ scope.names, y.2 = .free → ∃ c, X.env.cells.lookup y.1 = some c := fun y hy e => (ok.free y hy e).elim (fun k => I.ok.has _ (.inl k)) fun k => I.ok.has _ (.inr k)
  refine comprehension_at (use := use) rfl hs (closure_ok hfree) ok.kind (fun y hy e => by rw [ok.uniq y hy, e]) (thn (hi.run pins s σ H _ I h) fun xv s1 hx => thn hx fun itv s2 h2 => ?_)
  obtain ⟨it, fp, tn, J, H2, e, I2, T, st2, f2, q⟩ := h2
  subst e
  refine wpAny_newObj_type (newEnv_comp ?_) (Nat.zero_le _)
  generalize hD : s2.heap.objs.size = D
  have hDn : H2 D = none := I2.hok.fresh (Nat.le_of_eq hD)
  obtain ⟨Wv, ⟨m0, w0⟩, turn⟩ := q D hDn
  generalize hs3 : ({ s2 with heap := s2.heap.push { cls := .type "list", data := .seq ([] : List Value).toArray } } : Shared) = s3
  have h3 : s3.heap = s2.heap.push { cls := .type "list", data := .seq ([] : List Value).toArray } := by rw [← hs3]
  have I3 : Inv X pins σ (upd H2 D (.lst [])) s3 := by
    rw [← hs3]
    refine I2.laid (t' := s2.toks) (fun b o e => Heap.get?_push_of_some _ e) (Nat.le_of_eq hD) ⟨Nat.zero_le _, [], 0, .nil, ?_⟩
    rw [← hD]
    exact Heap.get?_push_size _ rfl
  have f3 : ∀ b ∈ fp, FpOk X pins (upd H2 D (.lst [])) b ∧ b < s3.heap.objs.size := fun b hb => by
    obtain ⟨o, e, _⟩ := T.obj _ _ st2 b hb
    have hlt := Heap.lt_size e
    refine ⟨⟨?_, (f2 b hb).2⟩, by rw [h3, Heap.size_push]; exact Nat.lt_succ_of_lt hlt⟩
    rw [upd_ne (by rw [← hD]; exact Nat.ne_of_lt hlt)]
    exact (f2 b hb).1
  have st3 : tn 0 s3.heap := T.keep _ _ _ st2 fun b _ o e => by rw [h3]; exact Heap.get?_push_of_some _ e
  have I4' := block_start I3 ok hN f3
  -- the block's frame
  have hcL : (compEnvC scope (cellsFrom (s3.heap.objs.size + 1) scope.names (cloFrom X.env.cells scope.names [])) s3.heap.objs.size X.env).locals = s3.heap.objs.size := rfl
  have hcf : (compEnvC scope (cellsFrom (s3.heap.objs.size + 1) scope.names (cloFrom X.env.cells scope.names [])) s3.heap.objs.size X.env).frame = X.env.frame := rfl
  have pg := fun xe => hg s3 (upd H2 D (.lst [])) s3.heap.objs.size (cellsFrom (s3.heap.objs.size + 1) scope.names (cloFrom X.env.cells scope.names [])) fp xe
  have pt := fun xe => ht σ s3 (upd H2 D (.lst [])) s3.heap.objs.size (cellsFrom (s3.heap.objs.size + 1) scope.names (cloFrom X.env.cells scope.names [])) fp xe
  have pe := fun xe => he σ s3 (upd H2 D (.lst [])) s3.heap.objs.size (cellsFrom (s3.heap.objs.size + 1) scope.names (cloFrom X.env.cells scope.names [])) fp xe
  show codeAny _ _ (.compStart (.ListComp elt [⟨tg, iter, ifs, 0⟩] scope pos) 0 (.ref it) (.ref D) (compEnvC scope (cellsFrom (s3.heap.objs.size + 1) scope.names (cloFrom X.env.cells scope.names [])) s3.heap.objs.size X.env))
    (compEnds (model X.prog X.w) X.A X.xe use Qf (.ref D) (compEnvC scope (cellsFrom (s3.heap.objs.size + 1) scope.names (cloFrom X.env.cells scope.names [])) s3.heap.objs.size X.env)) { s3 with heap := pushCells (s3.heap.push { cls := .type "dict", data := .dict #[] }) scope.names }
  generalize compEnvC scope (cellsFrom (s3.heap.objs.size + 1) scope.names (cloFrom X.env.cells scope.names [])) s3.heap.objs.size X.env = ce at I4' pg pt pe hcL hcf ⊢
  generalize hH3 : upd H2 D (.lst []) = H3 at I3 I4' pg pt pe w0 f3
  have nfp : ∀ b ∈ fp, H3 b = none := fun b hb => (f3 b hb).1.1
  -- what the block wishes of an exception
  generalize hxe : notedBy (model X.prog X.w) X.A ce (CompFails (model X.prog X.w) X.A X.xe ce) = xe
  have take : ∀ u s', Air ((X.blk s3 H3 scope ce fp).wish xe) L (fun cls d _ H' => W cls d σ H') u s' → xe u s' := by
    rw [← hxe]
    exact air_out Fm I3 tk hcL hcf f3
  have pg := pg xe
  have pt := pt xe take
  have pe := pe xe take
  have I4 := I4'.wish xe
  generalize hs4 : ({ s3 with heap := pushCells (s3.heap.push { cls := .type "dict", data := .dict #[] }) scope.names } : Shared) = s4 at I4 ⊢
  have st4 : tn 0 s4.heap := T.keep _ _ _ st3 fun b _ o e => by rw [← hs4]; exact pushCells_keeps _ _ _ _ (Heap.get?_push_of_some _ e)
  generalize hB : (X.blk s3 H3 scope ce fp).wish xe = Y at pg pt pe I4
  have yp : Y.prog = X.prog := by rw [← hB]
  have yw : Y.w = X.w := by rw [← hB]
  have yK : Y.K = X.K := by rw [← hB]
  have yA : Y.A = X.A := by rw [← hB]
  have yE : Y.env = ce := by rw [← hB]
  have yx : Y.xe = xe := by rw [← hB]
  have yc : Y.calm = true := by rw [← hB]; exact hc
  have stat : ∀ {σ' : L2.St} {H' : Hp} {s' : Shared}, Inv Y [] σ' H' s' → (∀ b ∈ fp, H' b = none) → ∀ b ∈ fp, FpOk Y [] H' b := fun {σ' H' s'} I' hn b hb => by
    subst hB
    exact ⟨hn b hb, (I'.ok.exf b hb).1, I'.ok.exfs b hb, .inl hb, fun x c e => (I'.ok.exf b hb).2 x c e, fun p hp => absurd (show p ∈ ([] : List (Addr × Obj)) ++ [] from hp) (by simp)⟩
  have loop : codeAny (model X.prog X.w) X.A (.compLoop (.ListComp elt [⟨tg, iter, ifs, 0⟩] scope pos) 0 (.ref it) (.ref D) ce) (compEnds (model X.prog X.w) X.A X.xe use Qf (.ref D) ce) s4 := by
    have hE : (notedBy (model X.prog X.w) X.A ce fun e s' => compEnds (model X.prog X.w) X.A X.xe use Qf (.ref D) ce (.error e) s') = xe := by
      rw [← hxe]
      cases use <;> rfl
    refine compLoop_any (fun n s' => ∃ i H', Inv Y [] (wipe σ (own.map (·.2))) H' s' ∧ tn i s'.heap ∧ (∀ b ∈ fp, H' b = none) ∧ Wv i n H') ?_ m0 ⟨0, H3, I4, st4, nfp, w0⟩
    rintro n s5 ⟨i, H5, I5, st5, n5, w5⟩
    rw [hE]
    rcases turn i n H5 w5 with ⟨stop, qq⟩ | ⟨go, Nx, hNx, step⟩
    · have td := T.done Y yp yw yK yc i [] s5 _ H5 xe I5 (stat I5 n5) st5 stop
      rw [yA] at td
      refine thn td fun r s6 ⟨hr, I6⟩ => ?_
      subst hr
      subst hB
      have I7 : Inv X pins σ H5 s6 := I3.call' (ch := fp) I6.os I6.base I6.hok I6.bare fun b hb => ⟨(f3 b hb).1.2.2.2.1, (f3 b hb).1.2.1, (f3 b hb).1.2.2.2.2.1, (f3 b hb).1.2.2.2.2.2⟩
      have nC : H5 ce.locals = none := I6.free
      obtain ⟨m, hn, _⟩ := I6.loc
      exact hRR D ce s6 m H5 I7 qq hn (I3.fpOk (Nat.le_of_eq hcL.symm) nC)
    · have ti := T.item Y yp yw yK yc i [] s5 _ H5 xe I5 (stat I5 n5) st5 go
      rw [yA] at ti
      refine thn ti fun r s6 ⟨u, hr, h6⟩ => ?_
      subst hr
      refine thn h6 fun _ s7 ⟨x, H7, I7, r7, y7, st7, n7⟩ => ?_
      have I7' := I7.pinned (stat I7 n7) (T.obj _ _ st7)
      have p1 := pg.run _ s7 _ H7 x u _ I7' r7 (step x H7 y7)
      rw [yA, yE, yp, yw, yx] at p1
      refine thn p1 fun _ s8 ⟨σ8, H8, I8, hw8, q8⟩ => ?_
      have p2 := pt.run _ s8 σ8 H8 _ I8 q8
      rw [yA, yE, yp, yw, yx] at p2
      refine thn p2 fun b s9 ⟨H9, I9, q9⟩ => ?_
      have fin : ∀ {s' : Shared} {H' : Hp}, Inv Y ([] ++ pinsAt fp s7.heap) σ8 H' s' → Nx H' → ∃ m, m < n ∧ ∃ i H', Inv Y [] (wipe σ (own.map (·.2))) H' s' ∧ tn i s'.heap ∧ (∀ b ∈ fp, H' b = none) ∧ Wv i m H' := fun {s' H'} I' nx => by
        obtain ⟨m', hm, w'⟩ := hNx H' nx
        have pin' : ∀ b ∈ fp, ∀ o, s7.heap.get? b = some o → s'.heap.get? b = some o ∧ H' b = none := fun b hb o e =>
          let z := I'.pin (b, o) (List.mem_append_right _ (List.mem_append_right _ (mem_pinsAt hb e)))
          ⟨z.1, z.2.1⟩
        have hl : (wipe σ (own.map (·.2))).length = σ8.length := by rw [← hw8, wipe_length]
        refine ⟨m', hm, i + 1, H', (I'.unpinned (pins := [])).weak hl (fun j v e => ?_), T.keep _ _ _ st7 fun b hb o e => (pin' b hb o e).1, fun b hb => ?_, w'⟩
        · rw [← hw8] at e
          exact (wipe_some e).1
        · obtain ⟨o, e, _⟩ := T.obj _ _ st7 b hb
          exact (pin' b hb o e).2
      cases b with
      | false =>
        simp only [Bool.false_eq_true, if_false] at q9 ⊢
        exact fin I9 q9
      | true =>
        simp only [if_true] at q9 ⊢
        have p3 := pe.run _ s9 σ8 H9 _ I9 q9
        rw [yA, yE, yp, yw, yx] at p3
        refine thn p3 fun z s10 ⟨yv, H10, I10, r10, acc, hD10, hz10, nx⟩ => ?_
        have p4 := app_ok (X := Y) (E := xe) (Q := fun _ s' => ∃ m, m < n ∧ ∃ i H', Inv Y [] (wipe σ (own.map (·.2))) H' s' ∧ tn i s'.heap ∧ (∀ b ∈ fp, H' b = none) ∧ Wv i m H') I10 hD10 hz10 r10 fun s11 I11 => fin I11 nx
        rw [yA, yp, yw] at p4
        exact p4
  exact codeAny_compStart_list loop (T.self X.A 0 _ _ _ st4 loop)
end
section
variable {X : Cx} {L : Addr} {W : WX} {G : Gm} {fe : FEnv} {f : Addr → Prop} {r : List Addr} {H : Hp} {S : Sto} {D : Addr}
theorem Rl.fewer {f1 : Addr → Prop} (R : Rl G f r H S) (hf : ∀ a, f1 a → f a) : Rl G f1 r H S :=
  ⟨R.len, R.nd, fun a h z => R.dis a h (hf a z), fun l o a h1 h2 => (R.ob l o a h1 h2).fewer hf, fun a h => R.fo a (hf a h), R.tb⟩
/-- a new list that is being filled: a foreign place -/
theorem fill_new (hD : H D = none) : ∀ a, (f a ∨ a = D) → ¬ f a → H a = none := fun a h n => h.elim (fun z => absurd z n) fun z => by rw [z]; exact hD
theorem Rl.filling (R : Rl G f r H S) (hD : H D = none) : Rl G (fun a => f a ∨ a = D) r (upd H D (.lst [])) S := by
  have F := R.fresh (o := .lst []) hD
  refine ⟨R.len, R.nd, fun a h z => z.elim (R.dis a h) fun z => R.there h (by rw [z]; exact hD), fun l o a h1 h2 => ?_, fun a h => ?_, F.tb⟩
  · exact ((R.ob l o a h1 h2).wider (fill_new hD)).extK R.kd (upd_ext hD r) (upd_ne (show a ≠ D from fun z => R.there (mem_of_at h2) (by rw [z]; exact hD)))
  · rcases h with h | h
    · exact F.fo a h
    · rw [h]; exact ⟨[], .inl upd_same⟩
/-- the filled list becomes a place of the store -/
theorem Rel.adopt {t : T} {v : V} (h : Rel G.K (fun a => f a ∨ a = D) r H t v) : Rel G.K f (r ++ [D]) H t v := by
  refine Rel.rec (motive_1 := fun t v _ => Rel G.K f (r ++ [D]) H t v) (motive_2 := fun t v _ => RelL G.K f (r ++ [D]) H t v) .non (fun _ => .bl _) (fun _ => .int _) (fun _ => .str _) (fun q _ k => .tup q k)
    (fun q n m _ k => .lst q (fun z => ?_) (fun z => m (.inl z)) k) (fun q _ k => .fro q k) (fun q => .loc ?_) .nil (fun _ _ a b => .cons a b) h
  · rcases List.mem_append.mp z with z | z
    · exact n z
    · exact m (.inr (List.mem_singleton.mp z))
  · rw [List.getElem?_append_left (List.getElem?_eq_some_iff.mp q).1]
    exact q
theorem RelL.adopt : ∀ {t : List T} {v : List V}, RelL G.K (fun a => f a ∨ a = D) r H t v → RelL G.K f (r ++ [D]) H t v
  | [], _, h => by cases h; exact .nil
  | _ :: _, _, h => by cases h with | cons a b => exact .cons a.adopt (RelL.adopt b)
theorem Rl.adopt (R : Rl G (fun a => f a ∨ a = D) r H S) {ys : List T} {vs : List V} (hD : H D = some (.lst vs)) (hf : ¬ f D) (q : RelL G.K (fun a => f a ∨ a = D) r H ys vs) : Rl G f (r ++ [D]) H (S ++ [.lst ys]) where
  len := by simp [R.len]
  nd := List.nodup_append.mpr ⟨R.nd, by simp, fun a ha b hb z => by rw [List.mem_singleton.mp hb] at z; exact R.dis a ha (.inr z)⟩
  dis := fun a h m => by
    rcases List.mem_append.mp h with z | z
    · exact R.dis a z (.inl m)
    · rw [List.mem_singleton.mp z] at m; exact hf m
  ob := fun l o a h1 h2 => by
    by_cases hl : l < S.length
    · rw [List.getElem?_append_left hl] at h1
      rw [List.getElem?_append_left (by rw [R.len]; exact hl)] at h2
      have k := R.ob l o a h1 h2
      cases o with
      | lst xs => obtain ⟨ws, k1, k2⟩ := k; exact ⟨ws, k1, k2.adopt⟩
      | ins c fs => obtain ⟨dx, fvs, k1, k2, k3⟩ := k; exact ⟨dx, fvs, k1, k2, k3.adopt⟩
    · rw [List.getElem?_append_right (by omega)] at h1
      rw [List.getElem?_append_right (by rw [R.len]; omega)] at h2
      rw [R.len] at h2
      have e : l - S.length = 0 := by
        cases q : l - S.length with
        | zero => rfl
        | succ n => rw [q] at h1; simp at h1
      rw [e] at h1 h2
      simp at h1 h2
      subst h1 h2
      exact ⟨vs, hD, q.adopt⟩
  fo := fun a h => R.fo a (.inl h)
  tb := R.tb

/-- the filled list grows -/
theorem Rel.fill {vs ws : List V} (hD : H D = some (.lst vs)) {t : T} {v : V} (h : Rel G.K (fun a => f a ∨ a = D) r H t v) : Rel G.K (fun a => f a ∨ a = D) r (upd H D (.lst ws)) t v := by
  refine Rel.rec (motive_1 := fun t v _ => Rel G.K (fun a => f a ∨ a = D) r (upd H D (.lst ws)) t v) (motive_2 := fun t v _ => RelL G.K (fun a => f a ∨ a = D) r (upd H D (.lst ws)) t v) .non (fun _ => .bl _) (fun _ => .int _) (fun _ => .str _)
    (fun {a _ _} q _ k => .tup ?_ k) (fun {a _ _} q n m _ k => .lst ?_ n m k) (fun {a _ _} q _ k => .fro ?_ k) (fun q => .loc q) .nil (fun _ _ a b => .cons a b) h
  · rcases q with (q | ⟨o, q⟩) | q
    · exact .inl (.inl (by rw [upd_ne (ne_of q hD (fun z => by cases z))]; exact q))
    · exact .inl (.inr ⟨o, by rw [upd_ne (ne_of q hD (fun z => by cases z))]; exact q⟩)
    · exact .inr q
  · rw [upd_ne (show a ≠ D from fun z => m (.inr z))]; exact q
  · rcases q with ⟨o, q⟩ | q
    · exact .inl ⟨o, by rw [upd_ne (ne_of q hD (fun z => by cases z))]; exact q⟩
    · exact .inr q
theorem RelL.fill {vs ws : List V} (hD : H D = some (.lst vs)) : ∀ {t : List T} {v : List V}, RelL G.K (fun a => f a ∨ a = D) r H t v → RelL G.K (fun a => f a ∨ a = D) r (upd H D (.lst ws)) t v
  | [], _, h => by cases h; exact .nil
  | _ :: _, _, h => by cases h with | cons a b => exact .cons (a.fill hD) (RelL.fill hD b)
theorem Rl.fill {vs ws : List V} (R : Rl G (fun a => f a ∨ a = D) r H S) (hD : H D = some (.lst vs)) : Rl G (fun a => f a ∨ a = D) r (upd H D (.lst ws)) S where
  len := R.len
  nd := R.nd
  dis := R.dis
  ob := fun l o a h1 h2 => by
    have ne : a ≠ D := fun z => R.dis a (mem_of_at h2) (.inr z)
    have k := R.ob l o a h1 h2
    cases o with
    | lst xs => obtain ⟨ws', k1, k2⟩ := k; exact ⟨ws', (upd_ne ne).trans k1, k2.fill hD⟩
    | ins c fs => obtain ⟨dx, fvs, k1, k2, k3⟩ := k; exact ⟨dx, fvs, (upd_ne ne).trans k1, k2, k3.fill hD⟩
  fo := fun a h => by
    by_cases z : a = D
    · rw [z]; exact ⟨ws, .inl upd_same⟩
    · rw [upd_ne z]; exact R.fo a h
  tb := fun p hp => by
    obtain ⟨ps, e1, e2, e3⟩ := R.tb p hp
    refine ⟨ps, by rw [upd_ne (ne_of e1 hD (fun z => by cases z))]; exact e1, e2, fun pos cv hc => ?_⟩
    obtain ⟨c, e, k⟩ := e3 pos cv hc
    exact ⟨c, e, by rw [upd_ne (ne_of k hD (fun z => by unfold CodeO at z; cases z))]; exact k⟩

/-- what is left of a comprehension's run, seen from where it began -/
def Rem (G : Gm) (W : WX) (f : Addr → Prop) (r1 : List Addr) (H1 : Hp) (s : L2.St) (D : Addr) (Q : VK) (x : R (List T)) : Prop :=
  match x with
  | .ok ys S3 => ∀ r3 H3 vs, Ext r1 H1 r3 H3 → Rl G (fun a => f a ∨ a = D) r3 H3 S3 → H3 D = some (.lst vs) → RelL G.K (fun a => f a ∨ a = D) r3 H3 ys vs → Q (.ref D) H3
  | .exc c S3 => ∀ r3 H3, Ext r1 H1 r3 H3 → Rl G (fun a => f a ∨ a = D) r3 H3 S3 → W (.ref (G.exc c)) none s H3
  | .bad => False
theorem Rem.begin {al : Bool} {x : R (List T)} {s : L2.St} {Q : VK} {r1 : List Addr} {H1 : Hp} {S1 : Sto} (R : Rl G f r1 H1 S1) (hD : H1 D = none) (go : Go G W f (rT G f) r1 H1 s (x.bind fun ys S3 => FC.put al ys S3) Q) : Rem G W f r1 H1 s D Q x := by
  have nf : ¬ f D := fun z => R.fthere z hD
  cases x with
  | bad => exact go
  | exc c S3 => exact fun r3 H3 x3 R3 => go r3 H3 x3 (R3.fewer fun a z => .inl z)
  | ok ys S3 =>
    intro r3 H3 vs x3 R3 h3 q3
    have nr : D ∉ r3 := fun z => R3.dis D z (.inr rfl)
    cases al with
    | false =>
      have go : Go G W f (rT G f) r1 H1 s (.ok (.lst ys) S3) Q := go
      exact go r3 _ H3 x3 (R3.fewer fun a z => .inl z) (.lst h3 nr nf (q3.fewer fun a z => .inl z))
    | true =>
      have go : Go G W f (rT G f) r1 H1 s (.ok (.loc S3.length) (S3 ++ [.lst ys])) Q := go
      refine go (r3 ++ [D]) _ H3 ⟨fun l a h => ?_, x3.keep, fun a h n => ?_, x3.trk⟩ (R3.adopt h3 nf q3) (.loc ?_)
      · have := x3.pre l a h
        rw [List.getElem?_append_left (List.getElem?_eq_some_iff.mp this).1]
        exact this
      · rcases List.mem_append.mp h with z | z
        · exact x3.new a z n
        · rw [List.mem_singleton.mp z]; exact .inl hD
      · rw [← R3.len, List.getElem?_append_right (Nat.le_refl _)]
        simp
/-- one part of what is left -/
theorem Rem.bind {x : R T} {k : T → Sto → R (List T)} {s s2 : L2.St} {Q : VK} {r1 r2 : List Addr} {H1 H2 : Hp} (h : Rem G W f r1 H1 s D Q (x.bind k)) (x2 : Ext r1 H1 r2 H2) :
    Go G (fun cls d _ H' => W cls d s H') (fun a => f a ∨ a = D) (rT G fun a => f a ∨ a = D) r2 H2 s2 x fun v H' => ∃ r3 t S3, Ext r2 H2 r3 H' ∧ Rl G (fun a => f a ∨ a = D) r3 H' S3 ∧ Rel G.K (fun a => f a ∨ a = D) r3 H' t v ∧ Rem G W f r1 H1 s D Q (k t S3) := by
  cases x with
  | bad => exact h
  | exc c S3 => exact fun r3 H3 x3 R3 => h r3 H3 (x2.trans x3) R3
  | ok t S3 => exact fun r3 v H3 x3 R3 q3 => ⟨r3, t, S3, x3, R3, q3, h⟩
theorem wipe_apart : ∀ {vs : List Nat} {s s' : L2.St}, s'.length = s.length → (∀ j, j ∉ vs → s'[j]? = s[j]?) → wipe s' vs = wipe s vs := by
  intro vs s s' hl h
  have get : ∀ (vs : List Nat) (s : L2.St) (j : Nat), (wipe s vs)[j]? = if j ∈ vs ∧ j < s.length then some none else s[j]? := by
    intro vs
    induction vs with
    | nil => intro s j; simp [L2.wipe]
    | cons v vs ih =>
      intro s j
      unfold L2.wipe
      by_cases hj : v = j
      · subst hj
        by_cases hv : v < s.length
        · rw [List.getElem?_set_self (by rw [wipe_length]; exact hv)]
          simp [hv]
        · rw [List.getElem?_eq_none (by rw [List.length_set, wipe_length]; omega)]
          rw [if_neg (by omega), List.getElem?_eq_none (by omega)]
      · rw [List.getElem?_set_ne hj, ih]
        simp [Ne.symm hj]
  refine List.ext_getElem? fun j => ?_
  rw [get, get, hl]
  by_cases hj : j ∈ vs
  · by_cases hs : j < s.length
    · rw [if_pos ⟨hj, hs⟩, if_pos ⟨hj, hs⟩]
    · rw [if_neg (by omega), if_neg (by omega), List.getElem?_eq_none (by omega), List.getElem?_eq_none (by omega)]
  · rw [if_neg (fun z => hj z.1), if_neg (fun z => hj z.1), h j hj]
theorem wipe_self (s : L2.St) (vs : List Nat) : wipe (wipe s vs) vs = wipe s vs := by
  refine wipe_apart (wipe_length s vs) fun j hj => ?_
  induction vs with
  | nil => rfl
  | cons v vs ih =>
    unfold L2.wipe
    have hj : j ≠ v ∧ j ∉ vs := by simpa using hj
    rw [List.getElem?_set_ne (Ne.symm hj.1)]
    exact ih hj.2
def ckR (fe : FEnv) (hc : Bool) (c : E) (e : Env) (S : Sto) : R T := if hc then evE fe c e S else .ok (.bl true) S
theorem evE_comp {al : Bool} {own : List Nat} {elt i1 i2 c : E} {p : P} {k : ItK} {hc : Bool} {e : Env} {S : Sto} : evE fe (.comp al own elt p k i1 i2 hc c) e S =
    (itR fe k i1 i2 e S).bind fun xs S2 => (compL (ckR fe hc c) (evE fe elt) p (wipeE e own) xs [] S2).bind fun ys S3 => FC.put al ys S3 := by
  unfold itR
  show (evE fe i1 e S).bind _ = _
  cases evE fe i1 e S with
  | bad => rfl
  | exc c S1 => rfl
  | ok x S1 =>
    show (evE fe i2 e S1).bind _ = ((evE fe i2 e S1).bind _).bind _
    cases evE fe i2 e S1 with
    | bad => rfl
    | exc c S1 => rfl
    | ok y S2 =>
      show (match itT k S2 x y with | none => _ | some xs => _) = (FC.ofO (itT k S2 x y) S2).bind _
      cases itT k S2 x y with
      | none => rfl
      | some xs => rfl
/-- the reading of a comprehension from the interpreter's run -/
theorem comp_reads {al : Bool} {own : List Nat} {elt i1 i2 c : E} {p : P} {k : ItK} {hc : Bool} {tt : L2.St → TT} (hsl : ∀ i ∈ p.slots, i ∈ own)
    (htt : ∀ (s0 s2 : L2.St) (H : Hp) (Q : Bool → Hp → Prop), TEof G (fun cls d _ H' => W cls d s0 H') (ckR fe hc c) s2 H (fun x H1 => ∃ b, x = .bl b ∧ Q b H1) → tt s0 s2 H Q)
    {s : L2.St} {H : Hp} {Q : VK} (h : TEof G W (evE fe (.comp al own elt p k i1 i2 hc c)) s H Q) :
    tLcX (TIof G W (itR fe k i1 i2)) (TGof G p) tt (fun s0 => TEof G (fun cls d _ H' => W cls d s0 H') (evE fe elt)) own s H Q := by
  obtain ⟨f, r, e, S, R, E, go⟩ := h
  rw [evE_comp] at go
  refine ⟨f, r, e, S, R, E, (go.bind (rel := rI G f)).mono fun J H1 ⟨r1, xs, S1, _, x1, R1, src, go1⟩ => fun D hD => ?_⟩
  have rem0 := Rem.begin R1 hD go1
  have E1 : EnvR G f r1 H1 e s := E.ext R x1
  refine ⟨fun i m H => i ≤ xs.length ∧ m = xs.length - i ∧ ∃ r2 acc vs S2, Ext r1 H1 r2 H ∧ Rl G (fun a => f a ∨ a = D) r2 H S2 ∧ H D = some (.lst vs) ∧ RelL G.K (fun a => f a ∨ a = D) r2 H acc vs ∧
    Rem G W f r1 H1 s D Q (compL (ckR fe hc c) (evE fe elt) p (wipeE e own) (xs.drop i) acc S2), ⟨xs.length, Nat.zero_le _, rfl, r1, [], [], S1, upd_ext hD r1, R1.filling hD, upd_same, .nil, rem0⟩, ?_⟩
  rintro i m H2 ⟨hi, rfl, r2, acc, vs, S2, x2, R2, h2, q2, rem⟩
  -- what stood where the comprehension began, here
  have src2 : Src G (fun a => f a ∨ a = D) r2 H2 xs J := by
    have s1 := src.wider (fill_new hD)
    cases s1 with
    | list a b => exact .list (a.elim (fun z => .inl ⟨x2.keep _ _ z.1 z.2.1 (fun _ w => by cases w), notin_ext x2 z.1 z.2.1, z.2.2⟩) fun z => .inr (frL_extK R1.kd x2 z)) (b.extK R1.kd x2)
    | tup a b => exact .tup (sqT_extK R1.kd x2 a) (b.extK R1.kd x2)
    | rng lo n => exact .rng lo n
    | enumL a b => exact .enumL (a.elim (fun z => .inl ⟨x2.keep _ _ z.1 z.2.1 (fun _ w => by cases w), notin_ext x2 z.1 z.2.1, z.2.2⟩) fun z => .inr (frL_extK R1.kd x2 z)) (b.extK R1.kd x2)
    | enumT a b => exact .enumT (sqT_extK R1.kd x2 a) (b.extK R1.kd x2)
  have E2 : EnvR G (fun a => f a ∨ a = D) r2 H2 e s := ⟨E1.len, fun i t q => let ⟨v, h1, h2⟩ := E1.at_ i t q; ⟨v, h1, (h2.wider (fill_new hD)).extK R1.kd x2⟩⟩
  by_cases hlt : i < xs.length
  · refine .inr ⟨src2.go hlt, fun H' => i + 1 ≤ xs.length ∧ ∃ r2 acc vs S2, Ext r1 H1 r2 H' ∧ Rl G (fun a => f a ∨ a = D) r2 H' S2 ∧ H' D = some (.lst vs) ∧ RelL G.K (fun a => f a ∨ a = D) r2 H' acc vs ∧
      Rem G W f r1 H1 s D Q (compL (ckR fe hc c) (evE fe elt) p (wipeE e own) (xs.drop (i + 1)) acc S2), fun H' ⟨h1, nx⟩ => ⟨_, by omega, h1, rfl, nx⟩, fun x H3 y => ?_⟩
    have hx : xs[i]? = some xs[i] := List.getElem?_eq_getElem hlt
    obtain ⟨x3, R3, q3, k3⟩ := src2.yld R2 hx y
    rw [List.drop_eq_getElem_cons hlt] at rem
    have rem : Rem G W f r1 H1 s D Q (match bindT p xs[i] (wipeE e own) with
      | none => .bad
      | some e' => (ckR fe hc c e' S2).bind fun b S1 => match b with
        | .bl true => (evE fe elt e' S1).bind fun y S2 => if decide (acc.length < lim) then compL (ckR fe hc c) (evE fe elt) p (wipeE e own) (xs.drop (i + 1)) (acc ++ [y]) S2 else .bad
        | .bl false => compL (ckR fe hc c) (evE fe elt) p (wipeE e own) (xs.drop (i + 1)) acc S1
        | _ => .bad) := rem
    cases hb : bindT p xs[i] (wipeE e own) with
    | none => rw [hb] at rem; exact rem.elim
    | some e' =>
      rw [hb] at rem
      refine ⟨_, r2, _, _, S2, e', R3, (E2.ext R2 x3).wipe own, q3, hb, fun s2 E3 ap => ⟨?_, htt s s2 H3 _ ⟨_, r2, e', S2, R3, E3, (Rem.bind rem (x2.trans x3)).mono fun v H4 ⟨r4, b, S4, x4, R4, q4, rem4⟩ => ?_⟩⟩⟩
      · rw [← wipe_self s own]
        exact wipe_apart ap.1 fun j hj => ap.2 j fun z => hj (hsl j z)
      · have y4 := (x2.trans x3).trans x4
        have d4 : H4 D = some (.lst vs) := x4.keep _ _ (k3 _ _ h2) (fun z => R3.dis D z (.inr rfl)) (fun _ z => by cases z)
        have a4 := q2.ext R2 (x3.trans x4)
        cases q4 with
        | bl b =>
          refine ⟨b, rfl, ?_⟩
          cases b with
          | false =>
            rw [if_neg Bool.false_ne_true]
            exact ⟨hlt, r4, acc, vs, S4, y4, R4, d4, a4, rem4⟩
          | true =>
            rw [if_pos rfl]
            have E4 := E3.ext R3 x4
            refine ⟨_, r4, e', S4, R4, E4, (Rem.bind (s2 := s2) rem4 y4).mono fun v5 H5 ⟨r5, t5, S5, x5, R5, q5, rem5⟩ => ?_⟩
            have d5 : H5 D = some (.lst vs) := x5.keep _ _ d4 (fun z => R4.dis D z (.inr rfl)) (fun _ z => by cases z)
            by_cases hz : acc.length < lim
            · rw [if_pos (decide_eq_true hz)] at rem5
              refine ⟨vs, d5, by rw [← a4.length, sizeLine_eq]; exact hz, hlt, r5, acc ++ [t5], vs ++ [v5], S5, ?_, ?_, upd_same, ?_, rem5⟩
              · exact ⟨(y4.trans x5).pre, fun a o q n t => by rw [upd_ne (ne_of_none q hD)]; exact (y4.trans x5).keep a o q n t, (y4.trans x5).new, fun a o q t => by
                  obtain ⟨o', h1, h2⟩ := (y4.trans x5).trk a o q t
                  by_cases z : a = D
                  · exact ⟨_, by rw [z, upd_same], fun ps z => by cases z⟩
                  · exact ⟨o', by rw [upd_ne z]; exact h1, h2⟩⟩
              · exact R5.fill d5
              · exact ((a4.ext R4 x5).append (.cons q5 .nil)).fill d5
            · rw [if_neg (by simpa using hz)] at rem5
              exact rem5.elim
        | _ => exact rem4.elim
  · have hie : i = xs.length := by omega
    subst hie
    rw [List.drop_length] at rem
    exact .inl ⟨src2.stop (Nat.le_refl _), rem r2 H2 vs x2 R2 h2 q2⟩
end
end FC
end

section
set_option Elab.async false
set_option linter.all false
set_option maxRecDepth 100000
set_option maxHeartbeats 4000000
/-! FcComp2: [x for .. in rows for x in given]. -/
namespace FC
open PySem PySem.Spec PyProof.Rows L2 LamX
section
variable {X : Cx} {G : Gm} {W W2 : WX} {fe : FEnv} {f : Addr → Prop} {r r' : List Addr} {H H' : Hp} {S : Sto} {D : Addr}
theorem EnvR.fill {vs ws : List V} (hD : H D = some (.lst vs)) {e : FC.Env} {s : L2.St} (h : EnvR G (fun a => f a ∨ a = D) r H e s) : EnvR G (fun a => f a ∨ a = D) r (upd H D (.lst ws)) e s :=
  ⟨h.len, fun i t q => let ⟨v, h1, h2⟩ := h.at_ i t q; ⟨v, h1, h2.fill hD⟩⟩
theorem FrL.fill {K : PySem.W.Frag} {vs ws : List V} (hD : H D = some (.lst vs)) {a : Addr} {xs : List V} (h : FrL K H a xs) : FrL K (upd H D (.lst ws)) a xs := by
  rcases h with ⟨o, h⟩ | h
  · exact .inl ⟨o, by rw [upd_ne (ne_of h hD (fun z => by cases z))]; exact h⟩
  · exact .inr h
theorem StL.fill {K : PySem.W.Frag} {vs ws : List V} (hD : H D = some (.lst vs)) {a : Addr} {xs : List V} (h : StL K (fun a => f a ∨ a = D) r H a xs) : StL K (fun a => f a ∨ a = D) r (upd H D (.lst ws)) a xs := by
  rcases h with ⟨q, n, m⟩ | h
  · exact .inl ⟨by rw [upd_ne (fun z => m (.inr z))]; exact q, n, m⟩
  · exact .inr (h.fill hD)
theorem SqT.fillD {K : PySem.W.Frag} {vs ws : List V} (hD : H D = some (.lst vs)) {a : Addr} {xs : List V} (h : SqT K H a xs) : SqT K (upd H D (.lst ws)) a xs := by
  rcases h with (q | ⟨o, q⟩) | q
  · exact .inl (.inl (by rw [upd_ne (ne_of q hD (fun z => by cases z))]; exact q))
  · exact .inl (.inr ⟨o, by rw [upd_ne (ne_of q hD (fun z => by cases z))]; exact q⟩)
  · exact .inr q
theorem Src.fill {vs ws : List V} (hD : H D = some (.lst vs)) {xs : List T} {J : It} (h : Src G (fun a => f a ∨ a = D) r H xs J) : Src G (fun a => f a ∨ a = D) r (upd H D (.lst ws)) xs J := by
  cases h with
  | list a b => exact .list (a.fill hD) (b.fill hD)
  | tup a b => exact .tup (SqT.fillD hD a) (b.fill hD)
  | rng lo n => exact .rng lo n
  | enumL a b => exact .enumL (a.fill hD) (b.fill hD)
  | enumT a b => exact .enumT (SqT.fillD hD a) (b.fill hD)
theorem ext_fill {ws : List V} (hD : H D = none) (x : Ext r H r' H') : Ext r H r' (upd H' D (.lst ws)) :=
  ⟨x.pre, fun a o q n t => by rw [upd_ne (ne_of_none q hD)]; exact x.keep a o q n t, x.new, fun a o q t => by
    obtain ⟨o', h1, h2⟩ := x.trk a o q t
    by_cases z : a = D
    · exact ⟨_, by rw [z, upd_same], fun ps z => by cases z⟩
    · exact ⟨o', by rw [upd_ne z]; exact h1, h2⟩⟩
theorem evE_comp2 {own : List Nat} {i1 : E} {p : P} {j v : Nat} {e : FC.Env} {S : Sto} : evE fe (.comp2 own p i1 j v) e S =
    (itR fe .of i1 (.cst .non) e S).bind fun xs S2 => (FC.ofO (flat2 p j v (wipeE e own) xs []) S2).bind fun ys S3 => FC.put false ys S3 := by
  unfold itR
  show (evE fe i1 e S).bind _ = _
  cases evE fe i1 e S with
  | bad => rfl
  | exc c S1 => rfl
  | ok x S1 =>
    show (match titems x with | none => _ | some xs => _) = (FC.ofO (titems x) S1).bind _
    cases titems x with
    | none => rfl
    | some xs =>
      show (match flat2 p j v (wipeE e own) xs [] with | none => _ | some ys => _) = (FC.ofO (flat2 p j v (wipeE e own) xs []) S1).bind _
      cases flat2 p j v (wipeE e own) xs [] <;> rfl
theorem comp2_reads {own : List Nat} {i1 : E} {p : P} {j v : Nat} (hsl : ∀ i ∈ p.slots, i ∈ own) {s : L2.St} {H : Hp} {Q : VK} (h : TEof G W (evE fe (.comp2 own p i1 j v)) s H Q) :
    tLc2 (TIof G W (itR fe .of i1 (.cst .non))) (TGof G p) tYes (TIof G W2 (itR fe .of (.var j) (.cst .non))) (TGof G (.nm v)) tYes (TEof G W2 (evE fe (.var v))) own [v] s H Q := by
  obtain ⟨f, r, e, S, R, E, go⟩ := h
  rw [evE_comp2] at go
  refine ⟨f, r, e, S, R, E, (go.bind (rel := rI G f)).mono fun J H1 ⟨r1, xs, S1, _, x1, R1, src, go1⟩ => fun D hD => ?_⟩
  have rem0 := Rem.begin R1 hD go1
  have E1 : EnvR G f r1 H1 e s := E.ext R x1
  refine ⟨fun i m H => i ≤ xs.length ∧ m = xs.length - i ∧ ∃ r2 acc vs, Ext r1 H1 r2 H ∧ Rl G (fun a => f a ∨ a = D) r2 H S1 ∧ H D = some (.lst vs) ∧ RelL G.K (fun a => f a ∨ a = D) r2 H acc vs ∧
    Rem G W f r1 H1 s D Q (FC.ofO (flat2 p j v (wipeE e own) (xs.drop i) acc) S1), ⟨xs.length, Nat.zero_le _, rfl, r1, [], [], upd_ext hD r1, R1.filling hD, upd_same, .nil, rem0⟩, ?_⟩
  rintro i m H2 ⟨hi, rfl, r2, acc, vs, x2, R2, h2, q2, rem⟩
  have src2 : Src G (fun a => f a ∨ a = D) r2 H2 xs J := by
    have s1 := src.wider (fill_new hD)
    cases s1 with
    | list a b => exact .list (a.elim (fun z => .inl ⟨x2.keep _ _ z.1 z.2.1 (fun _ w => by cases w), notin_ext x2 z.1 z.2.1, z.2.2⟩) fun z => .inr (frL_extK R1.kd x2 z)) (b.extK R1.kd x2)
    | tup a b => exact .tup (sqT_extK R1.kd x2 a) (b.extK R1.kd x2)
    | rng lo n => exact .rng lo n
    | enumL a b => exact .enumL (a.elim (fun z => .inl ⟨x2.keep _ _ z.1 z.2.1 (fun _ w => by cases w), notin_ext x2 z.1 z.2.1, z.2.2⟩) fun z => .inr (frL_extK R1.kd x2 z)) (b.extK R1.kd x2)
    | enumT a b => exact .enumT (sqT_extK R1.kd x2 a) (b.extK R1.kd x2)
  have E2 : EnvR G (fun a => f a ∨ a = D) r2 H2 e s := ⟨E1.len, fun i t q => let ⟨v, h1, h2⟩ := E1.at_ i t q; ⟨v, h1, (h2.wider (fill_new hD)).extK R1.kd x2⟩⟩
  by_cases hlt : i < xs.length
  · refine .inr ⟨src2.go hlt, fun H' => i + 1 ≤ xs.length ∧ ∃ r2 acc vs, Ext r1 H1 r2 H' ∧ Rl G (fun a => f a ∨ a = D) r2 H' S1 ∧ H' D = some (.lst vs) ∧ RelL G.K (fun a => f a ∨ a = D) r2 H' acc vs ∧
      Rem G W f r1 H1 s D Q (FC.ofO (flat2 p j v (wipeE e own) (xs.drop (i + 1)) acc) S1), fun H' ⟨h1, nx⟩ => ⟨_, by omega, h1, rfl, nx⟩, fun x H3 y => ?_⟩
    have hx : xs[i]? = some xs[i] := List.getElem?_eq_getElem hlt
    obtain ⟨x3, R3, q3, k3⟩ := src2.yld R2 hx y
    rw [List.drop_eq_getElem_cons hlt] at rem
    have rem : Rem G W f r1 H1 s D Q (FC.ofO (match bindT p xs[i] (wipeE e own) with
      | none => none
      | some e' => match (e'[j]?).join with
        | none => none
        | some t => match titems t with
          | none => none
          | some ys => if decide (acc.length + ys.length ≤ lim) && decide (v < e'.length) then flat2 p j v (wipeE e own) (xs.drop (i + 1)) (acc ++ ys) else none) S1) := rem
    cases hb : bindT p xs[i] (wipeE e own) with
    | none => rw [hb] at rem; exact rem.elim
    | some e' =>
      rw [hb] at rem
      have rem : Rem G W f r1 H1 s D Q (FC.ofO (match (e'[j]?).join with
        | none => none
        | some t => match titems t with
          | none => none
          | some ys => if decide (acc.length + ys.length ≤ lim) && decide (v < e'.length) then flat2 p j v (wipeE e own) (xs.drop (i + 1)) (acc ++ ys) else none) S1) := rem
      cases hj : (e'[j]?).join with
      | none => rw [hj] at rem; exact rem.elim
      | some t =>
        rw [hj] at rem
        have rem : Rem G W f r1 H1 s D Q (FC.ofO (match titems t with
          | none => none
          | some ys => if decide (acc.length + ys.length ≤ lim) && decide (v < e'.length) then flat2 p j v (wipeE e own) (xs.drop (i + 1)) (acc ++ ys) else none) S1) := rem
        cases ht : titems t with
        | none => rw [ht] at rem; exact rem.elim
        | some ys =>
          rw [ht] at rem
          have rem : Rem G W f r1 H1 s D Q (FC.ofO (if (decide (acc.length + ys.length ≤ lim) && decide (v < e'.length)) = true then flat2 p j v (wipeE e own) (xs.drop (i + 1)) (acc ++ ys) else none) S1) := rem
          by_cases hg : (decide (acc.length + ys.length ≤ lim) && decide (v < e'.length)) = true
          · rw [if_pos hg] at rem
            obtain ⟨hg1, hg2⟩ := Bool.and_eq_true_iff.mp hg
            have hg1 := of_decide_eq_true hg1
            have hg2 := of_decide_eq_true hg2
            have hje : e'[j]? = some (some t) := by
              cases q : e'[j]? with
              | none => rw [q] at hj; cases hj
              | some o => rw [q] at hj; cases o with
                | none => cases hj
                | some u => cases hj; rfl
            have it : itR fe .of (.var j) (.cst .non) e' S1 = .ok ys S1 := by
              simp [itR, evE, hje, FC.R.bind, itT, ht, FC.ofO]
            refine ⟨_, r2, _, _, S1, e', R3, (E2.ext R2 x3).wipe own, q3, hb, fun s2 E3 ap => ⟨?_, ?_⟩⟩
            · rw [← wipe_self s own]
              exact wipe_apart ap.1 fun j hj => ap.2 j fun z => hj (hsl j z)
            · simp only [tYes, if_true]
              refine ⟨_, r2, e', S1, R3, E3, ?_⟩
              rw [it]
              intro r4 J1 H4 x4 R4 src4
              have h4 : H4 D = some (.lst vs) := x4.keep _ _ (k3 _ _ h2) (fun z => R3.dis D z (.inr rfl)) (fun _ z => by cases z)
              refine ⟨fun n k H => n ≤ ys.length ∧ k = ys.length - n ∧ ∃ r5 vs5, Ext r1 H1 r5 H ∧ Rl G (fun a => f a ∨ a = D) r5 H S1 ∧ H D = some (.lst vs5) ∧ RelL G.K (fun a => f a ∨ a = D) r5 H (acc ++ ys.take n) vs5 ∧ Src G (fun a => f a ∨ a = D) r5 H ys J1 ∧ EnvR G (fun a => f a ∨ a = D) r5 H e' s2,
                ⟨ys.length, Nat.zero_le _, rfl, r4, vs, (x2.trans x3).trans x4, R4, h4, ?_, src4, E3.ext R3 x4⟩, ?_⟩
              · rw [List.take_zero, List.append_nil]
                exact q2.ext R2 (x3.trans x4)
              · rintro n k H5 ⟨hn, rfl, r5, vs5, x5, R5, h5, q5, src5, E5⟩
                by_cases hlt2 : n < ys.length
                · refine .inr ⟨src5.go hlt2, fun H' => n + 1 ≤ ys.length ∧ ∃ r5 vs5, Ext r1 H1 r5 H' ∧ Rl G (fun a => f a ∨ a = D) r5 H' S1 ∧ H' D = some (.lst vs5) ∧ RelL G.K (fun a => f a ∨ a = D) r5 H' (acc ++ ys.take (n + 1)) vs5 ∧ Src G (fun a => f a ∨ a = D) r5 H' ys J1 ∧ EnvR G (fun a => f a ∨ a = D) r5 H' e' s2,
                    fun H' ⟨h1, nx⟩ => ⟨_, by omega, h1, rfl, nx⟩, fun z H6 y6 => ?_⟩
                  have hy : ys[n]? = some ys[n] := List.getElem?_eq_getElem hlt2
                  obtain ⟨x6, R6, q6, k6⟩ := src5.yld R5 hy y6
                  have E6 : EnvR G (fun a => f a ∨ a = D) r5 H6 e' s2 := E5.ext R5 x6
                  refine ⟨_, r5, ys[n], wipeE e' [v], S1, (wipeE e' [v]).set v (some ys[n]), R6, E6.wipe [v], q6, rfl, fun s3 E7 ap7 => ⟨?_, ?_⟩⟩
                  · rw [← wipe_self s2 [v]]
                    exact wipe_apart ap7.1 fun j hj => ap7.2 j hj
                  · refine ⟨_, r5, (wipeE e' [v]).set v (some ys[n]), S1, R6, E7, ?_⟩
                    have l : v < (wipeE e' [v]).length := by
                      show v < (e'.set v none).length
                      rw [List.length_set]
                      exact hg2
                    have ev : evE fe (.var v) ((wipeE e' [v]).set v (some ys[n])) S1 = .ok ys[n] S1 := by
                      rw [evE, List.getElem?_set_self l]
                    rw [ev]
                    intro r8 w H8 x8 R8 q8
                    have h6 : H6 D = some (.lst vs5) := k6 _ _ h5
                    have h8 : H8 D = some (.lst vs5) := x8.keep _ _ h6 (fun z => R6.dis D z (.inr rfl)) (fun _ z => by cases z)
                    have q58 := (q5.ext R5 x6).ext R6 x8
                    have ln : (acc ++ ys.take n).length = vs5.length := q5.length
                    refine ⟨vs5, h8, ?_, hlt2, r8, vs5 ++ [w], ext_fill hD ((x5.trans x6).trans x8), R8.fill h8, upd_same, ?_, ((src5.ext R5 x6).ext R6 x8).fill h8, ((E6.ext R6 x8)).fill h8⟩
                    · rw [← ln, sizeLine_eq, List.length_append, List.length_take]
                      have : lim = 16777216 := rfl
                      omega
                    · rw [List.take_succ_eq_append_getElem hlt2, ← List.append_assoc]
                      exact (q58.append (.cons q8 .nil)).fill h8
                · have hie : n = ys.length := by omega
                  subst hie
                  rw [List.take_length] at q5
                  exact .inl ⟨src5.stop (Nat.le_refl _), hlt, r5, acc ++ ys, vs5, x5, R5, h5, q5, rem⟩
          · rw [if_neg hg] at rem
            exact rem.elim
  · have hie : i = xs.length := by omega
    subst hie
    rw [List.drop_length] at rem
    exact .inl ⟨src2.stop (Nat.le_refl _), rem r2 H2 vs x2 R2 h2 q2⟩
theorem pe_comp2F {elt tg iter tg1 iter1 : Expr} {scope : Scope} {own : List (Str × Nat)} {p : P} {i1 : E} {j v : Nat} {pos : Pos} (hc : X.calm = true) (hN : X.N.Nodup) (hi : PI X tg iter (TIof G W (itR fe .of i1 (.cst .non)))) (ok : BlkOk X.N X.env.scope scope own)
    (hsl : ∀ i ∈ p.slots, i ∈ own.map (·.2)) (hv : v ∈ own.map (·.2))
    (hg : ∀ (s : Shared) (H : Hp) (C : Addr) (cl : List (Str × Addr)) (fp : List Addr), PG (X.blk s H scope (compEnvC scope cl C X.env) fp) tg (TGof G p))
    (hi1 : ∀ (s : Shared) (H : Hp) (C : Addr) (cl : List (Str × Addr)) (fp : List Addr), PI (X.blk s H scope (compEnvC scope cl C X.env) fp) tg1 iter1 (TIof G W2 (itR fe .of (.var j) (.cst .non))))
    (hg1 : ∀ (s : Shared) (H : Hp) (C : Addr) (cl : List (Str × Addr)) (fp : List Addr), PG (X.blk s H scope (compEnvC scope cl C X.env) fp) tg1 (TGof G (.nm v)))
    (he : ∀ (s : Shared) (H : Hp) (C : Addr) (cl : List (Str × Addr)) (fp : List Addr), PE (X.blk s H scope (compEnvC scope cl C X.env) fp) elt (TEof G W2 (evE fe (.var v)))) (hs : ∀ x, foldedSetIterable iter X.env x = pure x) (hs1 : ∀ env x, foldedSetIterable iter1 env x = pure x) :
    PE X (.ListComp elt [⟨tg, iter, [], 0⟩, ⟨tg1, iter1, [], 0⟩] scope pos) (TEof G W (evE fe (.comp2 (own.map (·.2)) p i1 j v))) :=
  te_intro (pe_lc2 (vs1 := [v]) hc hN hi ok (fun i h => by rw [List.mem_singleton.mp h]; exact hv) hg (fun _ _ _ _ _ => pts_nil) hi1 hg1 (fun _ _ _ _ _ => pts_nil) he hs hs1) fun f r H S s e Q R E go => comp2_reads hsl ⟨f, r, e, S, R, E, go⟩
end
end FC
end

section
set_option Elab.async false
set_option linter.all false
set_option maxRecDepth 100000
set_option maxHeartbeats 4000000
/-! FcStm: the interpreter's statements against the layer's judgements. -/
namespace FC
open PySem PySem.Spec PyProof.Rows L2 LamX
def OGo (G : Gm) (W : WX) (f : Addr → Prop) (D : Ends) (r : List Addr) (H : Hp) (o : O) : Prop :=
  match o with
  | .nx e S => ∀ r' H' s', Ext r H r' H' → Rl G f r' H' S → EnvR G f r' H' e s' → D.nx s' H'
  | .rt t S => ∀ r' H' v, Ext r H r' H' → Rl G f r' H' S → Rel G.K f r' H' t v → D.rt v H'
  | .exc c S => ∀ r' H' s', Ext r H r' H' → Rl G f r' H' S → W (.ref (G.exc c)) none s' H'
  | .bad => False
section
variable {α β : Type} {G : Gm} {W : WX} {f : Addr → Prop} {D : Ends} {rel : List Addr → Hp → α → β → Prop} {r r' : List Addr} {H H' : Hp} {S : Sto} {s : L2.St}
theorem OGo.from {o : O} (h : OGo G W f D r H o) (x1 : Ext r H r' H') : OGo G W f D r' H' o := by
  cases o with
  | nx e S => exact fun r2 H2 s2 x2 R2 q2 => h r2 H2 s2 (x1.trans x2) R2 q2
  | rt t S => exact fun r2 H2 v x2 R2 q2 => h r2 H2 v (x1.trans x2) R2 q2
  | exc c S => exact fun r2 H2 s2 x2 R2 => h r2 H2 s2 (x1.trans x2) R2
  | bad => exact h
theorem OGo.out {x : R α} {k : α → Sto → O} (h : OGo G W f D r H (x.out k)) :
    Go G W f rel r H s x fun v H1 => ∃ r1 t S1, x = .ok t S1 ∧ Ext r H r1 H1 ∧ Rl G f r1 H1 S1 ∧ rel r1 H1 t v ∧ OGo G W f D r1 H1 (k t S1) := by
  cases x with
  | ok t S1 =>
    have h : OGo G W f D r H (k t S1) := h
    exact fun r1 v H1 x1 R1 q1 => ⟨r1, t, S1, rfl, x1, R1, q1, h.from x1⟩
  | exc c S1 => exact fun r1 H1 x1 R1 => h r1 H1 s x1 R1
  | bad => exact h
theorem OGo.then {o : O} {k : FC.Env → Sto → O} (h : OGo G W f D r H (o.then k)) :
    OGo G W f { D with nx := fun s' H' => ∃ r1 e S1, Ext r H r1 H' ∧ Rl G f r1 H' S1 ∧ EnvR G f r1 H' e s' ∧ OGo G W f D r1 H' (k e S1) } r H o := by
  cases o with
  | nx e S =>
    have h : OGo G W f D r H (k e S) := h
    exact fun r2 H2 s2 x2 R2 q2 => ⟨r2, e, S, x2, R2, q2, h.from x2⟩
  | rt t S => exact h
  | exc c S => exact h
  | bad => exact h
theorem OGo.ends {D' : Ends} {o : O} (h : OGo G W f D r H o) (hn : ∀ s H, D.nx s H → D'.nx s H) (hr : ∀ v H, D.rt v H → D'.rt v H) : OGo G W f D' r H o := by
  cases o with
  | nx e S => exact fun r2 H2 s2 x2 R2 q2 => hn _ _ (h r2 H2 s2 x2 R2 q2)
  | rt t S => exact fun r2 H2 v x2 R2 q2 => hr _ _ (h r2 H2 v x2 R2 q2)
  | exc c S => exact h
  | bad => exact h
theorem OGo.nxI {e : FC.Env} (h : OGo G W f D r H (.nx e S)) (R : Rl G f r H S) (E : EnvR G f r H e s) : D.nx s H := h r H s (Ext.refl _ _) R E
end
def TSof (G : Gm) (W : WX) (m : FC.Env → Sto → O) : TS := fun D s H => ∃ f r e S, Rl G f r H S ∧ EnvR G f r H e s ∧ OGo G W f D r H (m e S)
section
variable {X : Cx} {G : Gm} {W : WX} {fe : FEnv} {n : Nat} {pos : Pos} {a b : Expr} {ea eb : E} {f : Addr → Prop} {D : Ends} {r : List Addr} {H : Hp} {S : Sto} {s : L2.St} {e : FC.Env}
theorem ts_intro {st : Stmt} {t : TS} {m : FC.Env → Sto → O} (h : PS X st t) (i : ∀ f r e S D s H, Rl G f r H S → EnvR G f r H e s → OGo G W f D r H (m e S) → t D s H) : PS X st (TSof G W m) :=
  psI h fun D s H ⟨f, r, e, S, R, E, go⟩ => i f r e S D s H R E go
theorem st_part {m : FC.Env → Sto → R T} {k : T → Sto → O} {Q : VK} (R : Rl G f r H S) (E : EnvR G f r H e s) (go : OGo G W f D r H ((m e S).out k))
    (i : ∀ r1 t S1 v H1, Ext r H r1 H1 → Rl G f r1 H1 S1 → EnvR G f r1 H1 e s → Rel G.K f r1 H1 t v → OGo G W f D r1 H1 (k t S1) → Q v H1) : TEof G W m s H Q :=
  ⟨f, r, e, S, R, E, (go.out (rel := rT G f)).mono fun v H1 ⟨r1, t, S1, _, x1, R1, q1, go1⟩ => i r1 t S1 v H1 x1 R1 (E.ext R x1) q1 go1⟩
theorem ps_exprF (ha : PE X a (TEof G W (evE fe ea))) (hs : swapsWith a none pos.line X.env = pure false) : PS X (.Expr a pos) (TSof G W (evC fe n (.expr ea))) :=
  ts_intro (ps_expr ha hs) fun f r e S D s H R E go => st_part R E go fun r1 t S1 v H1 x1 R1 E1 q1 go1 => go1.nxI R1 E1
theorem ps_retF (ha : PE X a (TEof G W (evE fe ea))) : PS X (.Return (some a) pos) (TSof G W (evC fe n (.ret ea))) :=
  ts_intro (ps_ret ha) fun f r e S D s H R E go => st_part R E go fun r1 t S1 v H1 x1 R1 E1 q1 go1 => go1 r1 H1 v (Ext.refl _ _) R1 q1
theorem ps_passF : PS X (.Pass pos) (TSof G W (evC fe n .pass)) := ts_intro ps_pass fun f r e S D s H R E go => OGo.nxI go R E
theorem pss_nilF : PSs X [] (TSof G W (evCs fe n [])) := pssI pss_nil fun D s H ⟨f, r, e, S, R, E, go⟩ => OGo.nxI go R E
theorem pss_consF {st : Stmt} {rest : List Stmt} {c : C} {cs : List C} (h1 : PS X st (TSof G W (evC fe n c))) (h2 : PSs X rest (TSof G W (evCs fe n cs))) : PSs X (st :: rest) (TSof G W (evCs fe n (c :: cs))) :=
  pssI (pss_cons h1 h2) fun D s H ⟨f, r, e, S, R, E, go⟩ => by
    have go : OGo G W f D r H ((evC fe n c e S).then fun e S => evCs fe n cs e S) := go
    have go := go.then
    refine ⟨f, r, e, S, R, E, ?_⟩
    cases ho : evC fe n c e S with
    | nx e1 S1 => rw [ho] at go; exact fun r' H' s' x q E' => let ⟨r1, e1, S1, _, R1, E1, g1⟩ := go r' H' s' x q E'; ⟨f, r1, e1, S1, R1, E1, g1⟩
    | rt t S1 => rw [ho] at go; exact go
    | exc c S1 => rw [ho] at go; exact go
    | bad => rw [ho] at go; exact go
/-- a suite of an if, a loop -/
theorem ps_iteF {c : Expr} {ec : E} {sa sb : List Stmt} {ca cb : List C} (hc : PT X c (TTof G W (evE fe ec))) (ha : PSs X sa (TSof G W (evCs fe n ca))) (hb : PSs X sb (TSof G W (evCs fe n cb))) : PS X (.If c sa sb pos) (TSof G W (evC fe n (.ite ec ca cb))) :=
  ts_intro (ps_if hc ha hb) fun f r e S D s H R E go => st_part R E go fun r1 t S1 v H1 x1 R1 E1 q1 go1 => by
    cases q1 with
    | bl k =>
      refine ⟨k, rfl, ?_⟩
      cases k with
      | true => rw [if_pos rfl]; exact ⟨f, r1, e, S1, R1, E1, go1⟩
      | false => rw [if_neg Bool.false_ne_true]; exact ⟨f, r1, e, S1, R1, E1, go1⟩
    | _ => exact go1.elim
theorem ps_whileF {c : Expr} {ec : E} {sb : List Stmt} {cb : List C} (hp : PassesOwn (model X.prog X.w) X.A X.env X.xe) (hc : PT X c (TTof G W (evE fe ec))) (hb : PSs X sb (TSof G W (evCs fe n cb))) : PS X (.While c sb [] pos) (TSof G W (evC fe n (.while ec cb))) :=
  ts_intro (ps_while hp hc hb) fun f r e S D s H R E go => by
    have go : OGo G W f D r H (whileL (fun e S => evE fe ec e S) (fun e S => evCs fe n cb e S) n e S) := go
    refine ⟨fun m s' H' => ∃ r' e' S', Rl G f r' H' S' ∧ EnvR G f r' H' e' s' ∧ OGo G W f D r' H' (whileL (fun e S => evE fe ec e S) (fun e S => evCs fe n cb e S) m e' S'), ⟨n, r, e, S, R, E, go⟩, ?_⟩
    rintro m s1 H1 ⟨r1, e1, S1, R1, E1, go1⟩
    cases m with
    | zero => exact go1.elim
    | succ m =>
      refine st_part (m := fun e S => evE fe ec e S) R1 E1 go1 fun r2 t S2 v H2 x2 R2 E2 q2 go2 => ?_
      cases q2 with
      | bl k =>
        refine ⟨k, rfl, ?_⟩
        cases k with
        | false => rw [if_neg Bool.false_ne_true]; exact OGo.nxI go2 R2 E2
        | true =>
          rw [if_pos rfl]
          have go2 := OGo.then go2
          refine ⟨fun s' H' => ∃ r1 e S1, Ext r2 H2 r1 H' ∧ Rl G f r1 H' S1 ∧ EnvR G f r1 H' e s' ∧ OGo G W f D r1 H' (whileL (fun e S => evE fe ec e S) (fun e S => evCs fe n cb e S) m e S1), fun s' H' ⟨r3, e3, S3, x3, R3, E3, go3⟩ => ⟨m, Nat.lt_succ_self m, r3, e3, S3, R3, E3, go3⟩, f, r2, e1, S2, R2, E2, ?_⟩
          exact OGo.ends go2 (fun _ _ z => z) fun _ _ z => z
      | _ => exact go2.elim
theorem evC_loop {tg : P} {k : ItK} {i1 i2 : E} {cb : List C} {e : FC.Env} {S : Sto} : evC fe n (.loop tg k i1 i2 cb) e S = (itR fe k i1 i2 e S).out fun xs S2 => loopL (fun e S => evCs fe n cb e S) tg xs e S2 := by
  unfold itR
  show (evE fe i1 e S).out _ = _
  cases evE fe i1 e S with
  | bad => rfl
  | exc c S1 => rfl
  | ok x S1 =>
    show (evE fe i2 e S1).out _ = ((evE fe i2 e S1).bind _).out _
    cases evE fe i2 e S1 with
    | bad => rfl
    | exc c S1 => rfl
    | ok y S2 =>
      show (match itT k S2 x y with | none => _ | some xs => _) = (FC.ofO (itT k S2 x y) S2).out _
      cases itT k S2 x y with
      | none => rfl
      | some xs => rfl
theorem ps_loopF {tg iter : Expr} {p : P} {k : ItK} {i1 i2 : E} {sb : List Stmt} {cb : List C} (hp : PassesOwn (model X.prog X.w) X.A X.env X.xe) (hc : X.calm = true) (hi : PI X tg iter (TIof G W (itR fe k i1 i2))) (hg : PG X tg (TGof G p)) (hb : PSs X sb (TSof G W (evCs fe n cb)))
    (hs : ∀ x, foldedSetIterable iter X.env x = pure x) : PS X (.For tg iter sb [] pos) (TSof G W (evC fe n (.loop p k i1 i2 cb))) :=
  ts_intro (ps_for hp hc hi hg hb hs) fun f r e S D s H R E go => by
    rw [evC_loop] at go
    refine ⟨f, r, e, S, R, E, (go.out (rel := rI G f)).mono fun J H1 ⟨r1, xs, S1, _, x1, R1, src, go1⟩ => ?_⟩
    refine ⟨fun i m s' H' => i ≤ xs.length ∧ m = xs.length - i ∧ ∃ r2 e2 S2, Ext r1 H1 r2 H' ∧ Rl G f r2 H' S2 ∧ EnvR G f r2 H' e2 s' ∧ OGo G W f D r2 H' (loopL (fun e S => evCs fe n cb e S) p (xs.drop i) e2 S2), ⟨xs.length, Nat.zero_le _, rfl, r1, e, S1, Ext.refl _ _, R1, E.ext R x1, go1⟩, ?_⟩
    rintro i m s2 H2 ⟨hi, rfl, r2, e2, S2, x2, R2, E2, go2⟩
    have src2 : Src G f r2 H2 xs J := src.ext R1 x2
    by_cases hlt : i < xs.length
    · refine .inr ⟨src2.go hlt, fun s' H' => i + 1 ≤ xs.length ∧ ∃ r2 e2 S2, Ext r1 H1 r2 H' ∧ Rl G f r2 H' S2 ∧ EnvR G f r2 H' e2 s' ∧ OGo G W f D r2 H' (loopL (fun e S => evCs fe n cb e S) p (xs.drop (i + 1)) e2 S2), fun s' H' ⟨h1, nx⟩ => ⟨_, by omega, h1, rfl, nx⟩, fun x H3 y => ?_⟩
      have hx : xs[i]? = some xs[i] := List.getElem?_eq_getElem hlt
      obtain ⟨x3, R3, q3, k3⟩ := src2.yld R2 hx y
      rw [List.drop_eq_getElem_cons hlt] at go2
      have go2 : OGo G W f D r2 H2 (match bindT p xs[i] e2 with
        | none => .bad
        | some e' => (evCs fe n cb e' S2).then fun e S => loopL (fun e S => evCs fe n cb e S) p (xs.drop (i + 1)) e S) := go2
      cases hb' : bindT p xs[i] e2 with
      | none => rw [hb'] at go2; exact go2.elim
      | some e' =>
        rw [hb'] at go2
        have go3 := OGo.then (OGo.from go2 x3)
        refine ⟨f, r2, _, e2, S2, e', R3, E2.ext R2 x3, q3, hb', fun s4 E4 ap => ⟨f, r2, e', S2, R3, E4, ?_⟩⟩
        cases ho : evCs fe n cb e' S2 with
        | nx e1 S1 => rw [ho] at go3; exact fun r' H' s' x q E' => let ⟨r4, e4, S4, x4, R4, E4, g4⟩ := go3 r' H' s' x q E'; ⟨hlt, r4, e4, S4, (x2.trans x3).trans x4, R4, E4, g4⟩
        | rt t S1 => rw [ho] at go3; exact go3
        | exc c S1 => rw [ho] at go3; exact go3
        | bad => rw [ho] at go3; exact go3
    · have hie : i = xs.length := by omega
      subst hie
      rw [List.drop_length] at go2
      exact .inl ⟨src2.stop (Nat.le_refl _), OGo.nxI go2 R2 E2⟩

/-! ### targets -/
def TG2 (G : Gm) (W : WX) (m : T → FC.Env → Sto → O) : TG := fun v s H Q => ∃ f r t e S, Rl G f r H S ∧ EnvR G f r H e s ∧ Rel G.K f r H t v ∧ OGo G W f { nx := Q, rt := fun _ _ => False } r H (m t e S)
def TG2s (G : Gm) (W : WX) (m : List T → FC.Env → Sto → O) : TGs := fun v s H Q => ∃ f r t e S, Rl G f r H S ∧ EnvR G f r H e s ∧ RelL G.K f r H t v ∧ OGo G W f { nx := Q, rt := fun _ _ => False } r H (m t e S)
theorem pg_nameF {i : Nat} {x : Str} (hN : X.N.Nodup) (hi : X.N[i]? = some x) (hx : Loc X.env.scope x) (hf : X.fn x = true ∨ X.env.scope.names.lookup x = some .local) : PG X (.Name x pos) (TG2 G W (asgT fe (.name i))) :=
  pgI (pg_name hN hi hx hf) fun v s H Q ⟨f, r, t, e, S, R, E, q, go⟩ => OGo.nxI go R (E.set i q)
theorem pgs_nil2 : PGs X [] (TG2s G W (asgTs fe [])) := pgsI pgs_nil fun v s H Q ⟨f, r, t, e, S, R, E, q, go⟩ => by
  cases q with
  | nil => exact ⟨rfl, OGo.nxI go R E⟩
  | cons _ _ => exact go.elim
theorem pgs_cons2 {e : Expr} {es : List Expr} {t : Tg} {ts : List Tg} (hn : noStar (e :: es) = true) (h1 : PG X e (TG2 G W (asgT fe t))) (h2 : PGs X es (TG2s G W (asgTs fe ts))) : PGs X (e :: es) (TG2s G W (asgTs fe (t :: ts))) :=
  pgsI (pgs_cons h1 h2 (by rw [assignEach_cons hn]; rfl)) fun v s H Q ⟨f, r, xs, e, S, R, E, q, go⟩ => by
    cases q with
    | nil => exact go.elim
    | @cons x xs v vs q qs =>
      have go : OGo G W f _ r H ((asgT fe t x e S).then fun e S => asgTs fe ts xs e S) := go
      refine ⟨v, vs, rfl, f, r, x, e, S, R, E, q, ?_⟩
      have go := go.then
      cases ho : asgT fe t x e S with
      | nx e1 S1 => rw [ho] at go; exact fun r' H' s' x' q' E' => let ⟨r1, e1, S1, x1, R1, E1, g1⟩ := go r' H' s' x' q' E'; ⟨f, r1, xs, e1, S1, R1, E1, qs.ext R x1, g1⟩
      | rt t S1 => rw [ho] at go; exact go
      | exc c S1 => rw [ho] at go; exact go
      | bad => rw [ho] at go; exact go
theorem pg_tup2 {es : List Expr} {ts : List Tg} {k : Nat} (hK : X.K = G.K) (hc : X.calm = true) (hn : noStar es = true) (hl : es.length = ts.length) (h : PGs X es (TG2s G W (asgTs fe ts))) : PG X (.Tuple es k pos) (TG2 G W (asgT fe (.tup ts))) := by
  obtain ⟨n1, n2⟩ := assignEach_plain (env := X.env) hn
  refine ⟨fun pins s σ H v u Q I rv q => ?_⟩
  obtain ⟨f, r, t, e, S, R, E, q, go⟩ := q
  have go : OGo G W f _ r H (match items S t with | some xs => if xs.length == ts.length then asgTs fe ts xs e S else .bad | none => .bad) := go
  cases hi : items S t with
  | none => rw [hi] at go; exact go.elim
  | some xs =>
    rw [hi] at go
    obtain ⟨a, vs, rfl, h1, h2⟩ := items_ok R q hi
    by_cases hz : (xs.length == ts.length) = true
    · have go : OGo G W f _ r H (if xs.length == ts.length then asgTs fe ts xs e S else .bad) := go
      rw [if_pos hz] at go
      have hz : xs.length = ts.length := by simpa using hz
      have hv : vs.length = es.length := by rw [← h2.length, hz, hl]
      rcases h1 with h1 | h1
      · exact (pg_lst (n := es.length) hc h n1 n2).run pins s σ H _ u Q I rv ⟨a, vs, rfl, by rw [hK]; exact h1, hv, f, r, xs, e, S, R, E, h2, go⟩
      · exact (pg_tup (n := es.length) hc h n1 n2).run pins s σ H _ u Q I rv ⟨a, vs, rfl, by rw [hK]; exact h1, hv, f, r, xs, e, S, R, E, h2, go⟩
    · have go : OGo G W f _ r H (if xs.length == ts.length then asgTs fe ts xs e S else .bad) := go
      rw [if_neg hz] at go
      exact go.elim
/-- a list of the store is changed: what it is worth -/
theorem setIx_some {S S' : Sto} {x y v : T} (h : setIx S x y v = some S') : ∃ l k xs j, x = .loc l ∧ y = .int k ∧ lstAt S l = some xs ∧ L2.ixN xs.length k = some j ∧ S' = S.set l (.lst (xs.set j v)) := by
  unfold setIx at h
  split at h
  · rename_i l k
    cases e : lstAt S l with
    | none => rw [e] at h; cases h
    | some xs =>
      rw [e] at h
      have h : (L2.ixN xs.length k).map _ = some S' := h
      obtain ⟨j, h1, h2⟩ := Option.map_eq_some_iff.mp h
      exact ⟨l, k, xs, j, rfl, rfl, e, h1, h2.symm⟩
  · cases h
theorem pg_subF {o i : Expr} {eo ei : E} (hi' : (match i with | .Slice .. => false | _ => true) = true) (ho : PE X o (TEof G W (evE fe eo))) (hi : PE X i (TEof G W (evE fe ei))) : PG X (.Subscript o i pos) (TG2 G W (asgT fe (.sub eo ei))) :=
  pgI (pg_sub ho hi set_list (fun v => by cases i <;> first | rfl | exact absurd (show false = true from hi') Bool.false_ne_true)) fun v s H Q ⟨f, r, t, e, S, R, E, q, go⟩ => by
    have go : OGo G W f _ r H ((evE fe eo e S).out fun x S1 => (evE fe ei e S1).out fun y S2 => match setIx S2 x y t with | some S3 => .nx e S3 | none => .bad) := go
    refine st_part R E go fun r1 x S1 ov H1 x1 R1 E1 q1 go1 => ?_
    refine st_part R1 E1 go1 fun r2 y S2 iv H2 x2 R2 E2 q2 go2 => ?_
    cases hs : setIx S2 x y t with
    | none => rw [hs] at go2; exact go2.elim
    | some S3 =>
      rw [hs] at go2
      obtain ⟨l, k, xs, j, rfl, rfl, h1, h2, rfl⟩ := setIx_some hs
      cases q2 with
      | int _ =>
        have q1' := q1.ext R1 x2
        cases q1' with
        | @loc a l hl =>
          obtain ⟨vs, h3, h4⟩ := lstAt_ok R2 hl h1
          refine ⟨a, vs, _, j, rfl, rfl, h3, by rw [← h4.length]; exact h2, ?_⟩
          have q' := (q.ext R x1).ext R1 x2
          have R3 := R2.write hl (h4.set j q')
          have x3 := updo_ext (o := .lst (vs.set j v)) R2 (mem_of_at hl)
          exact OGo.nxI (OGo.from go2 x3) R3 (E2.ext R2 x3)
theorem ps_asgF {tg : Expr} {t : Tg} (ha : PE X a (TEof G W (evE fe ea))) (hg : PG X tg (TG2 G W (asgT fe t))) (hs : swapsWithSole [tg] a pos.line X.env = pure false) (hw : swappedStores [tg] a X.env = pure none) (hn : noStar [tg] = true) :
    PS X (.Assign [tg] a pos) (TSof G W (evC fe n (.asg t ea))) :=
  ts_intro (ps_asg ha hg hs hw (by rw [assignEach_cons hn]; rfl)) fun f r e S D s H R E go => by
    have go : OGo G W f D r H ((evE fe ea e S).out fun v S1 => asgT fe t v e S1) := go
    refine st_part R E go fun r1 x S1 v H1 x1 R1 E1 q1 go1 => ⟨f, r1, x, e, S1, R1, E1, q1, ?_⟩
    have nort : ∀ (t : Tg) (x : T) (e : FC.Env) (S1 : Sto), ∀ y S2, asgT fe t x e S1 ≠ .rt y S2 := by
      intro t
      refine Tg.rec (motive_1 := fun t => ∀ (x : T) (e : FC.Env) (S1 : Sto), ∀ y S2, asgT fe t x e S1 ≠ .rt y S2) (motive_2 := fun ts => ∀ (xs : List T) (e : FC.Env) (S1 : Sto), ∀ y S2, asgTs fe ts xs e S1 ≠ .rt y S2) ?_ ?_ ?_ ?_ ?_ t
      · intro i x e S1 y S2 h; cases h
      · intro ts ih x e S1 y S2 h
        have h : (match items S1 x with | some xs => if xs.length == ts.length then asgTs fe ts xs e S1 else .bad | none => .bad) = O.rt y S2 := h
        split at h
        · split at h
          · exact ih _ _ _ _ _ h
          · cases h
        · cases h
      · intro o i x e S1 y S2 h
        have h : ((evE fe o e S1).out fun ov S1 => (evE fe i e S1).out fun iv S2 => match setIx S2 ov iv x with | some S3 => .nx e S3 | none => .bad) = O.rt y S2 := h
        cases h1 : evE fe o e S1 with
        | ok a S2 =>
          rw [h1] at h
          have h : ((evE fe i e S2).out fun iv S2 => match setIx S2 a iv x with | some S3 => .nx e S3 | none => .bad) = O.rt y _ := h
          cases h2 : evE fe i e S2 with
          | ok b S3 =>
            rw [h2] at h
            have h : (match setIx S3 a b x with | some S3 => O.nx e S3 | none => .bad) = O.rt y _ := h
            split at h <;> cases h
          | exc c S3 => rw [h2] at h; cases h
          | bad => rw [h2] at h; cases h
        | exc c S2 => rw [h1] at h; cases h
        | bad => rw [h1] at h; cases h
      · intro xs e S1 y S2 h
        cases xs <;> cases h
      · intro t ts ih1 ih2 xs e S1 y S2 h
        cases xs with
        | nil => cases h
        | cons x xs =>
          have h : (asgT fe t x e S1).then (fun e S => asgTs fe ts xs e S) = O.rt y S2 := h
          cases h1 : asgT fe t x e S1 with
          | nx e1 S3 => rw [h1] at h; exact ih2 _ _ _ _ _ h
          | rt z S3 => exact ih1 _ _ _ _ _ h1
          | exc c S3 => rw [h1] at h; cases h
          | bad => rw [h1] at h; cases h
    cases ho : asgT fe t x e S1 with
    | nx e1 S2 => rw [ho] at go1; exact go1
    | rt y S2 => exact absurd ho (nort t x e S1 y S2)
    | exc c S2 => rw [ho] at go1; exact go1
    | bad => rw [ho] at go1; exact go1
end
end FC
end

section
set_option Elab.async false
set_option linter.all false
set_option maxRecDepth 100000
set_option maxHeartbeats 4000000
/-! FcLc: comprehensions as values, stored; append, raise, parallel stores; built-ins by name; methods. -/
namespace FC
open PySem PySem.Spec PyProof.Rows L2 LamX
section
variable {X : Cx} {G : Gm} {W : WX} {L : Addr} {fe : FEnv} {n : Nat} {pos : Pos} {a b : Expr} {ea eb : E} {f : Addr → Prop} {D : Ends} {r : List Addr} {H : Hp} {S : Sto} {s : L2.St} {e : FC.Env}

/-! ### comprehensions -/
def ifsOf (hc : Bool) (c : Expr) : List Expr := if hc then [c] else []
def ttOf (G : Gm) (W : WX) (fe : FEnv) (hc : Bool) (c : E) : L2.St → TT := fun s0 => if hc then TTof G (fun cls d _ H' => W cls d s0 H') (evE fe c) else tYes
theorem tt_reads {hc : Bool} {c : E} (s0 s2 : L2.St) (H : Hp) (Q : Bool → Hp → Prop) (h : TEof G (fun cls d _ H' => W cls d s0 H') (ckR fe hc c) s2 H (fun x H1 => ∃ b, x = .bl b ∧ Q b H1)) : ttOf G W fe hc c s0 s2 H Q := by
  cases hc with
  | true => exact h
  | false =>
    obtain ⟨f, r, e, S, R, E, go⟩ := h
    have go : Go G _ f (rT G f) r H s2 (.ok (.bl true) S) _ := go
    obtain ⟨b, e, q⟩ := Go.ok go R (.bl _)
    cases e
    exact q
structure CompOk (X : Cx) (G : Gm) (W : WX) (L : Addr) (fe : FEnv) (elt tg iter : Expr) (ifs : List Expr) (scope : Scope) (own : List (Str × Nat)) (ee : E) (p : P) (k : ItK) (i1 i2 : E) (hc : Bool) (ec : E) : Prop where
  hi : PI X tg iter (TIof G W (itR fe k i1 i2))
  ok : BlkOk X.N X.env.scope scope own
  sl : ∀ i ∈ p.slots, i ∈ own.map (·.2)
  hg : ∀ (s : Shared) (H : Hp) (C : Addr) (cl : List (Str × Addr)) (fp : List Addr) (xe : Value → Shared → Prop), PG ((X.blk s H scope (compEnvC scope cl C X.env) fp).wish xe) tg (TGof G p)
  ht : ∀ (s0 : L2.St) (s : Shared) (H : Hp) (C : Addr) (cl : List (Str × Addr)) (fp : List Addr) (xe : Value → Shared → Prop), (∀ u s', Air ((X.blk s H scope (compEnvC scope cl C X.env) fp).wish xe) L (fun cls d _ H' => W cls d s0 H') u s' → xe u s') →
      PTs ((X.blk s H scope (compEnvC scope cl C X.env) fp).wish xe) ifs (ttOf G W fe hc ec s0)
  he : ∀ (s0 : L2.St) (s : Shared) (H : Hp) (C : Addr) (cl : List (Str × Addr)) (fp : List Addr) (xe : Value → Shared → Prop), (∀ u s', Air ((X.blk s H scope (compEnvC scope cl C X.env) fp).wish xe) L (fun cls d _ H' => W cls d s0 H') u s' → xe u s') →
      PE ((X.blk s H scope (compEnvC scope cl C X.env) fp).wish xe) elt (TEof G (fun cls d _ H' => W cls d s0 H') (evE fe ee))
  hs : ∀ x, foldedSetIterable iter X.env x = pure x
theorem pe_compF {elt tg iter : Expr} {ifs : List Expr} {scope : Scope} {own : List (Str × Nat)} {ee : E} {p : P} {k : ItK} {i1 i2 : E} {hc' al : Bool} {ec : E} (hc : X.calm = true) (hN : X.N.Nodup) (Fm : Frm X L) (tk : ∀ u s', Air X L W u s' → X.xe u s')
    (c : CompOk X G W L fe elt tg iter ifs scope own ee p k i1 i2 hc' ec) : PE X (.ListComp elt [⟨tg, iter, ifs, 0⟩] scope pos) (TEof G W (evE fe (.comp al (own.map (·.2)) ee p k i1 i2 hc' ec))) := by
  refine ⟨fun pins s σ H Q I h => ?_⟩
  rw [eval_ListComp]
  refine lcX hc hN Fm tk I c.hi c.ok c.hg c.ht c.he c.hs (comp_reads (tt := ttOf G W fe hc' ec) c.sl tt_reads h) fun D ce s' m H' I' q hn f => ⟨m, hn, fun h'' sb => ?_⟩
  obtain ⟨f0, f1, f2, f3, f4, f5⟩ := f
  exact ⟨.ref D, H', I'.turned (t' := s'.toks) (fun b o hb e => (sb.2 b hb).trans e) f0 f1 f3 f4 f5, rfl, q⟩
theorem ps_setCompF {i : Nat} {y : Str} {py : Pos} {spos : Pos} {elt tg iter : Expr} {ifs : List Expr} {scope : Scope} {own : List (Str × Nat)} {ee : E} {p : P} {k : ItK} {i1 i2 : E} {hc' al : Bool} {ec : E} (hc : X.calm = true) (hN : X.N.Nodup) (Fm : Frm X L) (tk : ∀ u s', Air X L W u s' → X.xe u s')
    (hy : X.N[i]? = some y) (hyl : X.env.scope.names.lookup y = some .local) (hsw : swapsWith (.ListComp elt [⟨tg, iter, ifs, 0⟩] scope pos) (some (.Name y py)) spos.line X.env = pure true)
    (c : CompOk X G W L fe elt tg iter ifs scope own ee p k i1 i2 hc' ec) : PS X (.Assign [.Name y py] (.ListComp elt [⟨tg, iter, ifs, 0⟩] scope pos) spos) (TSof G W (evC fe n (.asg (.name i) (.comp al (own.map (·.2)) ee p k i1 i2 hc' ec)))) := by
  refine ⟨fun pins s σ H D I h => ?_⟩
  rw [exec_Assign_Name_used _ _ _ _ hsw]
  refine wpAny_bind (wpAny_standAt (wpAny_bind ?_))
  show wpAny _ X.A (do let _ ← comprehension (.ListComp elt [⟨tg, iter, ifs, 0⟩] scope pos) scope X.env (firstIterPos [⟨tg, iter, ifs, 0⟩] pos) (newList []) false (eval iter X.env) (some (assign (.Name y py) X.env))) _ _ s
  have h : TEof G W (evE fe (.comp al (own.map (·.2)) ee p k i1 i2 hc' ec)) σ H (fun x H1 => D.nx (σ.set i (some x)) H1) := by
    obtain ⟨f, r, e, S, R, E, go⟩ := h
    have go : OGo G W f D r H ((evE fe (.comp al (own.map (·.2)) ee p k i1 i2 hc' ec) e S).out fun v S1 => asgT fe (.name i) v e S1) := go
    exact st_part R E go fun r1 t S1 v H1 x1 R1 E1 q1 go1 => OGo.nxI go1 R1 (E1.set i q1)
  refine wpAny_bind (thn (lcX (Qf := fun _ s' => SP X pins D .next s') hc hN Fm tk I c.hi c.ok c.hg c.ht c.he c.hs (comp_reads (tt := ttOf G W fe hc' ec) c.sl tt_reads h) fun L C s' m H' I' q hn f => ?_) fun _ s' hq => wpAny_pure (wpAny_pure hq))
  show wpAny _ _ (assign (.Name y py) X.env (.ref L)) _ _ _
  refine wpAny_assign_Name (store_ok2 (v := V.ref L) I' hN hy (.inl hyl) rfl (fun s2 I2 ⟨a, sb, ha⟩ => ?_) (.inr hyl))
  obtain ⟨f0, f1, f2, f3, f4, f5⟩ := f
  have haC : C.locals ≠ a := by
    rcases ha with z | z
    · rw [z]; exact f1
    · exact fun e => f4 y a z e.symm
  refine ⟨m, hn.sameBut sb haC, fun h3 sb3 => ?_⟩
  exact ⟨_, H', I2.turned (t' := s2.toks) (fun b o hb e => (sb3.2 b hb).trans e) f0 f1 f3 f4 f5, q⟩

/-! ### append, raise -/
theorem appT_some {S S' : Sto} {x v : T} (h : appT S x v = some S') : ∃ l xs, x = .loc l ∧ lstAt S l = some xs ∧ xs.length < lim ∧ S' = S.set l (.lst (xs ++ [v])) := by
  unfold appT at h
  split at h
  · rename_i l
    cases e : lstAt S l with
    | none => rw [e] at h; cases h
    | some xs =>
      rw [e] at h
      have h : (if decide (xs.length < lim) then some (S.set l (.lst (xs ++ [v]))) else none) = some S' := h
      split at h
      · rename_i c
        exact ⟨l, xs, rfl, e, of_decide_eq_true c, (Option.some.inj h).symm⟩
      · cases h
  · cases h
theorem few1 {cpos : Pos} {ar : Expr} (hn : noStar [ar] = true) : ((backTo cpos (starEach [ar] X.env)).all (fun x => !x.1) && (backToKw cpos (keywordEach [] X.env)).all (fun x => x.1.isSome)
      && decide (([ar] : List Expr).length + ([] : List Keyword).length + (if ([] : List Keyword).isEmpty then 0 else 1) < 30)) = true := by
  rw [starEach_all hn]
  rfl
def baseOk (o : Expr) : Bool := match o with | .Call _ (_ :: _) _ _ => true | .Call .. => false | _ => true
theorem base_ok {o : Expr} {nm : Str} (h : baseOk o = true) : attributeBase o nm X.env (eval o X.env) = eval o X.env := by
  cases o with
  | Call f args kws p => cases args with
    | nil => exact absurd (show false = true from h) Bool.false_ne_true
    | cons a r => first | rfl | (cases f <;> rfl)
  | _ => rfl
theorem ps_appF {o ar : Expr} {eo : E} {apos cpos : Pos} (hK : X.K = G.K) (ho : PE X o (TEof G W (evE fe eo))) (ha : PE X ar (TEof G W (evE fe ea))) (hb : baseOk o = true) (hn : noStar [ar] = true) (hl : (apos.endLine == cpos.line) = true) :
    PS X (.Expr (.Call (.Attribute o "append" apos) [ar] [] cpos) pos) (TSof G W (evC fe n (.app eo ea))) := by
  have hA : PA X [ar] (TAof G W (evEs fe [ea])) := pa_consF hn ha pa_nilF
  refine ts_intro (ps_expr (pe_bm (name := "append") F.plainAttrs_list F.slot_list_append F.type_list_append (mt_append (X := X)) ho hA (base_ok hb) (few1 hn) hl (starEach_cons hn) (starEach_plain (noStar_tail hn)))) fun f r e S D s H R E go => ?_
  have go : OGo G W f D r H ((evE fe eo e S).out fun x S1 => if isLoc S1 x then (evE fe ea e S1).out fun v S2 => match appT S2 x v with | some S3 => .nx e S3 | none => .bad else .bad) := go
  refine st_part R E go fun r1 x S1 ov H1 x1 R1 E1 q1 go1 => ?_
  by_cases hz : isLoc S1 x = true
  · rw [if_pos hz] at go1
    unfold isLoc at hz
    split at hz
    · rename_i l
      obtain ⟨xs, hx⟩ := Option.isSome_iff_exists.mp hz
      cases q1 with
      | @loc p _ hl =>
        obtain ⟨vs, h1, h2⟩ := lstAt_ok R1 hl hx
        refine ⟨.inl ⟨rfl, vs, SqL.of h1⟩, f, r1, e, S1, R1, E1, ?_⟩
        have bb : (evE fe ea e S1).out (fun v S2 => match appT S2 (.loc l) v with | some S3 => O.nx e S3 | none => .bad) = (evEs fe [ea] e S1).out (fun vs S2 => match vs with | [v] => (match appT S2 (.loc l) v with | some S3 => O.nx e S3 | none => .bad) | _ => .bad) := by
          show _ = ((evE fe ea e S1).bind fun x S1 => (evEs fe [] e S1).bind fun xs S2 => .ok (x :: xs) S2).out _
          cases evE fe ea e S1 <;> rfl
        rw [bb] at go1
        refine (go1.out (rel := rL G f)).mono fun ws H2 ⟨r2, ts, S2, _, x2, R2, q2, go2⟩ => ?_
        cases q2 with
        | nil => exact go2.elim
        | @cons t _ w _ q qs =>
          cases qs with
          | cons _ _ => exact go2.elim
          | nil =>
            have go2 : OGo G W f D r2 H2 (match appT S2 (.loc l) t with | some S3 => O.nx e S3 | none => .bad) := go2
            cases hp : appT S2 (.loc l) t with
            | none => rw [hp] at go2; exact go2.elim
            | some S3 =>
              rw [hp] at go2
              obtain ⟨l', ys, e1, h3, h4, rfl⟩ := appT_some hp
              cases e1
              have hl2 := x2.pre _ _ hl
              obtain ⟨us, h5, h6⟩ := lstAt_ok R2 hl2 h3
              refine ⟨p, us, w, rfl, rfl, h5, by rw [← h6.length, sizeLine_eq]; exact h4, ?_⟩
              have R3 := R2.write hl2 (h6.append (.cons q .nil))
              have x3 := updo_ext (o := .lst (us ++ [w])) R2 (mem_of_at hl2)
              exact OGo.nxI (OGo.from go2 x3) R3 ((E1.ext R1 x2).ext R2 x3)
    · cases hz
  · rw [if_neg hz] at go1
    exact go1.elim
theorem ps_raiseF {c : Nat} {x m : Str} {j : Nat} {p p2 cpos : Pos} {bmB : List Value} {B newId initId : String} (hc : X.calm = true) (tk : L2N.Takes X W) (F : ExcBaseFacts B newId initId bmB) (q : PySem.W.excIn X.K (G.exc c) bmB newId = true) (gC : X.mg x = some (.ref (G.exc c)))
    (kC : PySem.W.keepIn X.K (.ref (G.exc c)) = true) (rs : Raises X (.ref (G.exc c))) (hg : Gl X x) (hdb : (x == ("__debug__" : Str)) = false) :
    PS X (.Raise (some (.Call (.Name x p) [.Constant (.str m) j p2] [] cpos)) none pos) (TSof G W (evC fe n (.raise c))) :=
  ts_intro (L2N.ps_raise hc tk (L2N.pmk_own F q gC kC rs hg hdb)) fun f r e S D s H R E go => by
    have go : OGo G W f D r H (.exc c S) := go
    exact go r H s (Ext.refl _ _) R

/-! ### parallel stores -/
theorem bind_out {α β : Type} {x : R α} {k : α → Sto → R β} {k2 : β → Sto → O} : (x.bind k).out k2 = x.out fun a S => (k a S).out k2 := by cases x <;> rfl
theorem ps_par2F {i j : Nat} {x y : Str} {px py pt : Pos} {kt k2 : Nat} {pt2 : Pos} (hc : X.calm = true) (hN : X.N.Nodup) (hi : X.N[i]? = some x) (hj : X.N[j]? = some y) (hij : i ≠ j)
    (hx : X.env.scope.names.lookup x = some .local) (hy : X.env.scope.names.lookup y = some .local) (ha : PA X [a, b] (TAof G W (evEs fe [ea, eb])))
    (hw : swappedStores [.Tuple [.Name x px, .Name y py] kt pt] (.Tuple [a, b] k2 pt2) X.env = pure (some [x, y])) :
    PS X (.Assign [.Tuple [.Name x px, .Name y py] kt pt] (.Tuple [a, b] k2 pt2) pos) (TSof G W (evC fe n (.asg (.tup [.name i, .name j]) (.tup [ea, eb])))) :=
  ts_intro (ps_par hc hN hi hj hij hx hy ha hw rfl) fun f r e S D s H R E go => by
    have go : OGo G W f D r H (((evEs fe [ea, eb] e S).bind fun xs S1 => if decide (xs.length ≤ lim) then .ok (.tup xs) S1 else .bad).out fun v S1 => asgT fe (.tup [.name i, .name j]) v e S1) := go
    rw [bind_out] at go
    refine ⟨f, r, e, S, R, E, (go.out (rel := rL G f)).mono fun vs H1 ⟨r1, ts, S1, _, x1, R1, q1, go1⟩ => ?_⟩
    cases q1 with
    | nil => exact go1.elim
    | cons q qs => cases qs with
      | nil => exact go1.elim
      | cons p ps => cases ps with
        | cons _ _ => 
          exfalso
          revert go1
          split
          · exact fun z => z.elim
          · exact fun z => z.elim
        | nil => exact ⟨_, _, rfl, OGo.nxI (e := (e.set i _).set j _) go1 R1 (((E.ext R x1).set i q).set j p)⟩
theorem ps_par3F {i j l : Nat} {x y z : Str} {c : Expr} {ec : E} {px py pz pt : Pos} {kt k2 : Nat} {pt2 : Pos} (hc : X.calm = true) (hN : X.N.Nodup) (hi : X.N[i]? = some x) (hj : X.N[j]? = some y) (hl : X.N[l]? = some z) (hij : i ≠ j) (hil : i ≠ l) (hjl : j ≠ l)
    (hx : X.env.scope.names.lookup x = some .local) (hy : X.env.scope.names.lookup y = some .local) (hz : X.env.scope.names.lookup z = some .local) (ha : PA X [a, b, c] (TAof G W (evEs fe [ea, eb, ec])))
    (hw : swappedStores [.Tuple [.Name x px, .Name y py, .Name z pz] kt pt] (.Tuple [a, b, c] k2 pt2) X.env = pure (some [x, y, z])) :
    PS X (.Assign [.Tuple [.Name x px, .Name y py, .Name z pz] kt pt] (.Tuple [a, b, c] k2 pt2) pos) (TSof G W (evC fe n (.asg (.tup [.name i, .name j, .name l]) (.tup [ea, eb, ec])))) :=
  ts_intro (ps_par3 hc hN hi hj hl hij hil hjl hx hy hz ha hw rfl) fun f r e S D s H R E go => by
    have go : OGo G W f D r H (((evEs fe [ea, eb, ec] e S).bind fun xs S1 => if decide (xs.length ≤ lim) then .ok (.tup xs) S1 else .bad).out fun v S1 => asgT fe (.tup [.name i, .name j, .name l]) v e S1) := go
    rw [bind_out] at go
    refine ⟨f, r, e, S, R, E, (go.out (rel := rL G f)).mono fun vs H1 ⟨r1, ts, S1, _, x1, R1, q1, go1⟩ => ?_⟩
    cases q1 with
    | nil => exact go1.elim
    | cons q qs => cases qs with
      | nil => exact go1.elim
      | cons p ps => cases ps with
        | nil => exact go1.elim
        | cons o os => cases os with
          | cons _ _ =>
            exfalso
            revert go1
            split
            · exact fun z => z.elim
            · exact fun z => z.elim
          | nil => exact ⟨_, _, _, rfl, OGo.nxI (e := ((e.set i _).set j _).set l _) go1 R1 ((((E.ext R x1).set i q).set j p).set l o)⟩
end
end FC
end

section
set_option Elab.async false
set_option linter.all false
set_option maxRecDepth 100000
set_option maxHeartbeats 4000000
/-! FcCall: built-ins by name, methods, isinstance, calls of own functions. -/
namespace FC
open PySem PySem.Spec PyProof.Rows L2 LamX

/-- the built-in functions by name -/
def bfName : BFn → Str
  | .len => "len" | .all => "all" | .any => "any" | .sum => "sum" | .max => "max" | .min => "min" | .list => "list" | .tuple => "tuple" | .int => "int" | .str => "str" | .abs => "abs"
  | _ => ""
def bfVal : BFn → Value
  | .len => .builtin "len" | .all => .builtin "all" | .any => .builtin "any" | .sum => .builtin "sum" | .max => .builtin "max" | .min => .builtin "min" | .abs => .builtin "abs"
  | .list => .type "list" | .tuple => .type "tuple" | .int => .type "int" | .str => .type "str"
  | _ => .none
theorem boot_bf : ∀ b : BFn, bfName b ≠ "" → bootBuiltins (bfName b) = some (bfVal b) := by
  intro b h
  cases b <;> first | (decide +kernel) | exact absurd rfl h
section
variable {X : Cx} {G : Gm} {W : WX} {L : Addr} {fe : FEnv} {n : Nat} {pos p : Pos} {a b : Expr} {es : List Expr} {ea eb : E} {ees : List E}
theorem bf_all (hK : X.K = G.K) (hc : X.calm = true) : ∀ b : BFn, bfName b ≠ "" → CallS X G (bfVal b) b := by
  intro b h
  cases b with
  | len => exact call_lenS hK
  | all => exact call_allS hK hc
  | any => exact call_anyS hK hc
  | sum => exact call_sumS hK hc
  | max => exact call_maxS hK hc
  | min => exact call_minS hK hc
  | list => exact call_listS hK
  | tuple => exact call_tupleS hK
  | int => exact call_intS
  | str => exact call_strS
  | abs => exact call_absS
  | rng => exact absurd rfl h
  | join => exact absurd rfl h
  | split => exact absurd rfl h
  | index => exact absurd rfl h
theorem plain_tail (hn : noStar (a :: es) = true) : (backTo pos (starEach es X.env)).any (·.1) = false := starEach_plain (noStar_tail hn)
theorem pe_bfnF {x : Str} {bf : BFn} {al : Bool} (hK : X.K = G.K) (hc : X.calm = true) (hx : bfName bf ≠ "") (ex : x = bfName bf) (hg : Gl X x) (hm : X.mg x = none) (hn : noStar (a :: es) = true) (ha : PA X (a :: es) (TAof G W (evEs fe ees))) :
    PE X (.Call (.Name x p) (a :: es) [] pos) (TEof G W (evE fe (.bfn bf al ees))) := by
  obtain ⟨r2, h1, h2⟩ := bf_all hK hc bf hx
  have hv : bootBuiltins x = some (bfVal bf) := by rw [ex]; exact boot_bf bf hx
  have nn : x ≠ "__name__" ∧ (x == ("__debug__" : Str)) = false := by
    subst ex
    cases bf <;> first | exact absurd rfl hx | (constructor <;> decide +kernel)
  have run : ∀ {t : TE}, PE X (.Call (.Name x p) (a :: es) [] pos) t → (∀ f r H S s e Q, Rl G f r H S → EnvR G f r H e s → Go G W f (rT G f) r H s (evE fe (.bfn bf al ees) e S) Q → t s H Q) → PE X (.Call (.Name x p) (a :: es) [] pos) (TEof G W (evE fe (.bfn bf al ees))) := te_intro
  have key : ∀ f r H S s e Q, Rl G f r H S → EnvR G f r H e s → Go G W f (rT G f) r H s (evE fe (.bfn bf al ees) e S) Q → tCB r2 (TAof G W (evEs fe ees)) s H Q := fun f r H S s e Q R E go =>
    ta_part (k := fun xs S1 => FC.putN al S1 (bfnT bf S1 xs)) R E go fun r1 ts S1 vs H1 x1 R1 E1 q1 go1 => h2 al W f r1 H1 S1 s ts vs Q R1 q1 go1
  cases hb : bfVal bf with
  | builtin id =>
    rw [hb] at h1 hv
    exact te_intro (pe_callB h1 hg hm hv ha nn.1 nn.2 (starEach_cons hn) (plain_tail hn)) key
  | type T =>
    rw [hb] at h1 hv
    exact te_intro (pe_callTy h1 hg hm hv ha nn.1 nn.2 (starEach_cons hn) (plain_tail hn)) key
  | _ => cases bf <;> first | exact absurd rfl hx | cases hb
theorem pe_isiF {ty : Ty} {p1 p2 : Pos} (hK : X.K = G.K) (hg : Gl X "isinstance") (hm : X.mg "isinstance" = none) (hgt : Gl X (Str.ofString (tyName ty))) (hmt : X.mg (Str.ofString (tyName ty)) = none) (hn : noStar [a] = true) (ha : PE X a (TEof G W (evE fe ea))) :
    PE X (.Call (.Name "isinstance" p1) [a, .Name (Str.ofString (tyName ty)) p2] [] pos) (TEof G W (evE fe (.isi ty ea))) := by
  obtain ⟨r2, h1, h2⟩ := isi_all hK ty
  have hn2 : noStar [a, .Name (Str.ofString (tyName ty)) p2] = true := by cases a <;> first | rfl | exact hn
  have hb : PE X (.Name (Str.ofString (tyName ty)) p2) (tC (.ty (tyName ty))) := by
    refine pe_bltn hgt hmt (u := .type (tyName ty)) ?_ rfl ?_ ?_
    · cases ty <;> decide +kernel
    · cases ty <;> decide +kernel
    · cases ty <;> decide +kernel
  have hA : PA X [a, .Name (Str.ofString (tyName ty)) p2] (tCons (TEof G W (evE fe ea)) (tCons (tC (.ty (tyName ty))) tNil)) := pa_cons ha (pa_cons hb pa_nil rfl) (starEach_cons hn2)
  refine te_intro (pe_callB h1 hg hm (by decide +kernel) hA (by decide +kernel) (by decide +kernel) (starEach_cons hn2) rfl) fun f r H S s e Q R E go => ?_
  refine te_part (k := fun x S1 => FC.ofO ((isTy ty x).map FC.T.bl) S1) R E go fun r1 t S1 v H1 x1 R1 E1 q1 go1 => ?_
  obtain ⟨z, hz, go2⟩ := go1.ofO
  obtain ⟨k, hk, rfl⟩ := Option.map_eq_some_iff.mp hz
  exact h2 f r1 H1 S1 t v k Q R1 q1 hk (Go.ok go2 R1 (.bl _))
theorem pe_rngF {al : Bool} {p1 p2 pos2 : Pos} (hc : X.calm = true) (hg : Gl X "list") (hm : X.mg "list" = none) (hg2 : Gl X "range") (hm2 : X.mg "range" = none) (hn : noStar [a] = true) (ha : PE X a (TEof G W (evE fe ea))) :
    PE X (.Call (.Name "list" p1) [.Call (.Name "range" p2) [a] [] pos2] [] pos) (TEof G W (evE fe (.bfn .rng al [ea]))) := by
  refine te_intro (pe_listRg hc hg hm (prg_1 hg2 hm2 ha (starEach_cons hn)) rfl) fun f r H S s e Q R E go => ?_
  have go : Go G W f (rT G f) r H s ((evE fe ea e S).bind fun x S1 => FC.putN al S1 (rngN x)) Q := by
    have z : evE fe (.bfn .rng al [ea]) e S = (evE fe ea e S).bind fun x S1 => FC.putN al S1 (rngN x) := by
      show ((evE fe ea e S).bind fun x S1 => (evEs fe [] e S1).bind fun xs S2 => .ok (x :: xs) S2).bind _ = _
      cases evE fe ea e S <;> rfl
    rw [← z]
    exact go
  refine te_part R E go fun r1 t S1 v H1 x1 R1 E1 q1 go1 => ?_
  obtain ⟨m, e0, go1⟩ := go1.putS
  cases q1 with
  | int i =>
    have e0 : guard (small62 i && decide (i ≤ 1000000)) (.new (rngL i.toNat 0)) = some m := e0
    obtain ⟨h1, rfl⟩ := guard_some e0
    simp only [Bool.and_eq_true, decide_eq_true_eq] at h1
    obtain ⟨b1, b2⟩ := small62_ok h1.1
    refine ⟨i, rfl, ⟨by decide, by decide, b1, b2, by omega⟩, fun q hq => ?_⟩
    refine Go.put (xs := rngL i.toNat 0) go1 R1 ?_ hq
    have := rng_rel (G := G) (f := f) (r := r1) (H := H1) i.toNat 0
    unfold rgV
    rw [show i - 0 = i from by omega]
    exact this
  | _ => cases e0
/-- a method of a text, a list -/
def metName : BFn → Str | .join => "join" | .split => "split" | .index => "index" | _ => ""
theorem few {cpos : Pos} (hn : noStar (a :: es) = true) (hl : es.length < 20) : ((backTo cpos (starEach (a :: es) X.env)).all (fun x => !x.1) && (backToKw cpos (keywordEach [] X.env)).all (fun x => x.1.isSome)
      && decide ((a :: es).length + ([] : List Keyword).length + (if ([] : List Keyword).isEmpty then 0 else 1) < 30)) = true := by
  rw [starEach_all hn]
  show (true && true && decide (es.length + 1 + 0 + 0 < 30)) = true
  simp
  omega
theorem pe_metF {x : Str} {bf : BFn} {al : Bool} {o : Expr} {eo : E} {apos : Pos} (hK : X.K = G.K) (hx : metName bf ≠ "") (ex : x = metName bf) (hn : noStar (a :: es) = true) (hz : es.length < 20) (hb : baseOk o = true) (hl : (apos.endLine == pos.line) = true)
    (ho : PE X o (TEof G W (evE fe eo))) (ha : PA X (a :: es) (TAof G W (evEs fe ees))) :
    PE X (.Call (.Attribute o x apos) (a :: es) [] pos) (TEof G W (evE fe (.met bf al eo ees))) := by
  have key : ∀ {T : String} {r2 : V → List V → Hp → VK → Prop}, (∀ (al : Bool) W f r H S s x u xs us Q, Rl G f r H S → Rel G.K f r H x u → RelL G.K f r H xs us → Go G W f (rT G f) r H s (FC.putN al S (bfnT bf S (x :: xs))) Q → r2 u us H Q) →
      (∀ f r H S x u, Rl G f r H S → Rel G.K f r H x u → metOk bf S x = true → tyV X.K T u H) →
      ∀ f r H S s e Q, Rl G f r H S → EnvR G f r H e s → Go G W f (rT G f) r H s (evE fe (.met bf al eo ees) e S) Q → tBM X.K T r2 (TEof G W (evE fe eo)) (TAof G W (evEs fe ees)) s H Q := fun {T r2} h2 ht f r H S s e Q R E go => by
    refine te_part (k := fun x S1 => if metOk bf S1 x then (evEs fe ees e S1).bind fun xs S2 => FC.putN al S2 (bfnT bf S2 (x :: xs)) else .bad) R E go fun r1 t S1 v H1 x1 R1 E1 q1 go1 => ?_
    by_cases hm : metOk bf S1 t = true
    · rw [if_pos hm] at go1
      refine ⟨ht f r1 H1 S1 t v R1 q1 hm, ?_⟩
      exact ta_part (k := fun xs S2 => FC.putN al S2 (bfnT bf S2 (t :: xs))) R1 E1 go1 fun r2' ts S2 vs H2 x2 R2 E2 q2 go2 => h2 al W f r2' H2 S2 s t v ts vs Q R2 (q1.ext R1 x2) q2 go2
    · rw [if_neg hm] at go1
      exact go1.elim
  subst ex
  cases bf with
  | join =>
    obtain ⟨r2, h1, h2⟩ := met_join hK
    exact te_intro (pe_bm (T := "str") (name := "join") F.plainAttrs_str F.slot_str_join F.type_str_join h1 ho ha (base_ok hb) (few hn hz) hl (starEach_cons hn) (plain_tail hn)) (key h2 fun f r H S x u R q m => by
      cases q <;> first | rfl | cases m)
  | split =>
    obtain ⟨r2, h1, h2⟩ := met_split
    exact te_intro (pe_bm (T := "str") (name := "split") F.plainAttrs_str F.slot_str_split F.type_str_split h1 ho ha (base_ok hb) (few hn hz) hl (starEach_cons hn) (plain_tail hn)) (key h2 fun f r H S x u R q m => by
      cases q <;> first | rfl | cases m)
  | index =>
    obtain ⟨r2, h1, h2⟩ := met_index hK
    exact te_intro (pe_bm (T := "list") (name := "index") F.plainAttrs_list F.slot_list_index F.type_list_index h1 ho ha (base_ok hb) (few hn hz) hl (starEach_cons hn) (plain_tail hn)) (key h2 fun f r H S x u R q m => by
      obtain ⟨xs, hs⟩ := Option.isSome_iff_exists.mp (show (litems S x).isSome = true from m)
      obtain ⟨a, vs, rfl, h1, h2⟩ := litems_ok R q hs
      exact .inl ⟨rfl, vs, .of h1⟩)
  | _ => exact absurd rfl hx

/-! ### own functions -/
/-- what a function promises -/
def spOf (G : Gm) (fe : FEnv) (i : Nat) : Sp := fun vs H Q E => ∃ f r S ts, Rl G f r H S ∧ RelL G.K f r H ts vs ∧ Go G (fun cls d _ H' => E cls d H') f (rT G f) r H [] (fe i ts S) Q
theorem Rel.apart {f : Addr → Prop} {r : List Addr} {H : Hp} {t : T} {v : V} (h : Rel G.K f r H t v) : t.free = true → Rel G.K (fun a => f a ∨ a ∈ r) [] H t v := by
  refine Rel.rec (motive_1 := fun t v _ => t.free = true → Rel G.K (fun a => f a ∨ a ∈ r) [] H t v) (motive_2 := fun t v _ => T.freeL t = true → RelL G.K (fun a => f a ∨ a ∈ r) [] H t v) (fun _ => .non) (fun _ _ => .bl _) (fun _ _ => .int _) (fun _ _ => .str _)
    (fun q _ k z => .tup q (k z)) (fun q n m _ k z => .lst q (by simp) (fun y => y.elim m n) (k z)) (fun q _ k z => .fro q (k z)) (fun _ z => absurd (show false = true from z) Bool.false_ne_true) (fun _ => .nil) (fun _ _ a b z => by
      have z := Bool.and_eq_true_iff.mp (show (_ && _) = true from z)
      exact .cons (a z.1) (b z.2)) h
theorem RelL.apart {f : Addr → Prop} {r : List Addr} {H : Hp} : ∀ {t : List T} {v : List V}, RelL G.K f r H t v → T.freeL t = true → RelL G.K (fun a => f a ∨ a ∈ r) [] H t v
  | [], _, h, _ => by cases h; exact .nil
  | _ :: _, _, h, z => by
    have z := Bool.and_eq_true_iff.mp (show (_ && _) = true from z)
    cases h with | cons a b => exact .cons (a.apart z.1) (RelL.apart b z.2)
theorem Rl.apart {f : Addr → Prop} {r : List Addr} {H : Hp} {S : Sto} (R : Rl G f r H S) : Rl G (fun a => f a ∨ a ∈ r) [] H [] where
  len := rfl
  nd := List.nodup_nil
  dis := fun a h => absurd h (by simp)
  ob := fun l o a h => by simp at h
  fo := fun a h => h.elim (fun z => R.fo a z) fun z => by
    rcases R.kind z with ⟨vs, q⟩ | ⟨c, dx, fs, q⟩
    · exact ⟨vs, .inl q⟩
    · exact ⟨[], .inr ⟨c, dx, fs, q⟩⟩
  tb := R.tb
/-- a tree without places, seen from outside -/
theorem Rel.outF {f : Addr → Prop} {r r2 : List Addr} {H : Hp} {t : T} {v : V} (h : Rel G.K (fun a => f a ∨ a ∈ r) r2 H t v) : t.free = true → Rel G.K f r H t v := by
  refine Rel.rec (motive_1 := fun t v _ => t.free = true → Rel G.K f r H t v) (motive_2 := fun t v _ => T.freeL t = true → RelL G.K f r H t v) (fun _ => .non) (fun _ _ => .bl _) (fun _ _ => .int _) (fun _ _ => .str _)
    (fun q _ k z => .tup q (k z)) (fun q n m _ k z => .lst q (fun y => m (.inr y)) (fun y => m (.inl y)) (k z)) (fun q _ k z => .fro q (k z)) (fun _ z => absurd (show false = true from z) Bool.false_ne_true) (fun _ => .nil) (fun _ _ a b z => by
      have z := Bool.and_eq_true_iff.mp (show (_ && _) = true from z)
      exact .cons (a z.1) (b z.2)) h
theorem RelL.outF {f : Addr → Prop} {r r2 : List Addr} {H : Hp} : ∀ {t : List T} {v : List V}, RelL G.K (fun a => f a ∨ a ∈ r) r2 H t v → T.freeL t = true → RelL G.K f r H t v
  | [], _, h, _ => by cases h; exact .nil
  | _ :: _, _, h, z => by
    have z := Bool.and_eq_true_iff.mp (show (_ && _) = true from z)
    cases h with | cons a b => exact .cons (a.outF z.1) (RelL.outF b z.2)
/-- what a call gave back, seen from outside -/
theorem Rel.thawed {f : Addr → Prop} {r r2 : List Addr} {H : Hp} {S2 : Sto} (R2 : Rl G (fun a => f a ∨ a ∈ r) r2 H S2) {t : T} {v : V} (h : Rel G.K (fun a => f a ∨ a ∈ r) r2 H t v) : ∀ u, thaw S2 t = some u → Rel G.K f r H u v := by
  have out : ∀ {a : Addr}, a ∈ r2 → a ∉ r ∧ ¬ f a := fun {a} z => ⟨fun y => R2.dis a z (.inr y), fun y => R2.dis a z (.inl y)⟩
  refine Rel.rec (motive_1 := fun t v _ => ∀ u, thaw S2 t = some u → Rel G.K f r H u v) (motive_2 := fun t v _ => ∀ u, thaw.thawL S2 t = some u → RelL G.K f r H u v) ?_ ?_ ?_ ?_ ?_ ?_ ?_ ?_ ?_ ?_ h
  · intro u z; cases z; exact .non
  · intro b u z; cases z; exact .bl _
  · intro b u z; cases z; exact .int _
  · intro b u z; cases z; exact .str _
  · intro a xs vs q _ k u z
    obtain ⟨ys, h1, h2⟩ := Option.map_eq_some_iff.mp (show (thaw.thawL S2 xs).map .tup = some u from z)
    subst h2
    exact .tup q (k ys h1)
  · intro a xs vs q n m _ k u z
    obtain ⟨ys, h1, h2⟩ := Option.map_eq_some_iff.mp (show (thaw.thawL S2 xs).map .lst = some u from z)
    subst h2
    exact .lst q (fun y => m (.inr y)) (fun y => m (.inl y)) (k ys h1)
  · intro a xs vs q h' k u z
    have z : (if T.freeL xs then some (FC.T.fro xs) else none) = some u := z
    split at z
    · rename_i c
      cases z
      exact .fro q (h'.outF c)
    · cases z
  · intro a l hl u z
    have z : (match lstAt S2 l with | some xs => if T.freeL xs then some (.lst xs) else none | none => none) = some u := z
    cases e : lstAt S2 l with
    | none => rw [e] at z; cases z
    | some xs =>
      rw [e] at z
      have z : (if T.freeL xs then some (.lst xs) else none) = some u := z
      split at z
      · rename_i c
        cases z
        obtain ⟨vs, h1, h2⟩ := lstAt_ok R2 hl e
        obtain ⟨n1, n2⟩ := out (mem_of_at hl)
        exact .lst h1 n1 n2 (h2.outF c)
      · cases z
  · intro u z; cases z; exact .nil
  · intro t ts v vs _ _ k1 k2 u z
    have z : (match thaw S2 t with | some y => (thaw.thawL S2 ts).map (y :: ·) | none => none) = some u := z
    cases e : thaw S2 t with
    | none => rw [e] at z; cases z
    | some y =>
      rw [e] at z
      obtain ⟨ys, h1, h2⟩ := Option.map_eq_some_iff.mp (show (thaw.thawL S2 ts).map (y :: ·) = some u from z)
      subst h2
      exact .cons (k1 y e) (k2 ys h1)
/-- what the pure call owes: what the caller owes -/
theorem callP_go {f : Addr → Prop} {r : List Addr} {H : Hp} {S : Sto} {i : Nat} {ts : List T} {Q : VK} {s s2 : L2.St} (R : Rl G f r H S) (go : Go G W f (rT G f) r H s (callP fe i ts S) Q) :
    T.freeL ts = true ∧ Go G (fun cls d _ H' => W cls d s H') (fun a => f a ∨ a ∈ r) (rT G fun a => f a ∨ a ∈ r) [] H s2 (fe i ts []) Q := by
  unfold callP at go
  by_cases hz : T.freeL ts = true
  · rw [if_pos hz] at go
    refine ⟨hz, ?_⟩
    have back : ∀ {r2 H2 S2}, Ext [] H r2 H2 → Rl G (fun a => f a ∨ a ∈ r) r2 H2 S2 → Ext r H r H2 ∧ Rl G f r H2 S := fun {r2 H2 S2} x2 R2 => by
      have x : Ext r H r H2 := ⟨fun _ _ h => h, fun a o h _ t => x2.keep a o h (by simp) t, fun a h n => absurd h n, x2.trk⟩
      have st : ∀ a, (f a ∨ a ∈ r) → H2 a = H a := fun a h => by
        rcases (R.apart).fo a h with ⟨vs, q | ⟨c, dx, fs, q⟩⟩
        · rw [q]; exact x2.keep a _ q (by simp) fun _ z => nomatch z
        · rw [q]; exact x2.keep a _ q (by simp) fun _ z => nomatch z
      exact ⟨x, R.stay x (fun a h => st a (.inr h)) (fun a h => st a (.inl h)) R2.tb⟩
    cases hc : fe i ts [] with
    | ok t S2 =>
      rw [hc] at go
      have go : Go G W f (rT G f) r H s (FC.ofO (thaw S2 t) S) Q := go
      obtain ⟨u, hu, go⟩ := go.ofO
      intro r2 v H2 x2 R2 q2
      obtain ⟨x, R'⟩ := back x2 R2
      exact go r v H2 x R' (q2.thawed R2 u hu)
    | exc c S2 =>
      rw [hc] at go
      intro r2 H2 x2 R2
      obtain ⟨x, R'⟩ := back x2 R2
      exact go r H2 x R'
    | bad => rw [hc] at go; exact go.elim
  · rw [if_neg hz] at go
    exact go.elim
/-- a call of an own function -/
theorem pe_fnF {x : Str} {i k : Nat} {fa : Addr} {fd : FuncData} {ps : List Str} {pu : Bool} (Fo : FnOk X.prog X.w X.K X.mg X.base (L2N.CX X.prog X.w) k fa fd ps (spOf G fe i)) (hr : Room k X.A) (hg : Gl X x) (hm : X.mg x = some (.ref fa)) (hk : PySem.W.keepIn X.K (.ref fa) = true)
    (hb : Binds X.K fd ps []) (tk : ∀ u s', Air X L W u s' → X.xe u s') (hn : noStar (a :: es) = true) (hdb : (x == ("__debug__" : Str)) = false) (ha : PA X (a :: es) (TAof G W (evEs fe ees))) :
    PE X (.Call (.Name x p) (a :: es) [] pos) (TEof G W (evE fe (.call pu i ees))) := by
  refine te_intro (pe_callSD (E := WE W) Fo hr hg hm hk hb .nil (fun σ pins H s u s' I c => tk u s' (air_of_call I (fun _ _ _ h => h) c)) ha hdb (starEach_cons hn) (plain_tail hn)) fun f r H S s e Q R E go => ?_
  refine ta_part (k := fun xs S1 => if pu then callP fe i xs S1 else fe i xs S1) R E go fun r1 ts S1 vs H1 x1 R1 E1 q1 go1 => ?_
  rw [List.append_nil]
  cases pu with
  | true =>
    obtain ⟨z, go2⟩ := callP_go (s2 := []) R1 go1
    exact ⟨_, [], [], ts, R1.apart, q1.apart z, go2⟩
  | false =>
    refine ⟨f, r1, S1, ts, R1, q1, ?_⟩
    have go1 : Go G W f (rT G f) r1 H1 s (fe i ts S1) Q := go1
    cases hc : fe i ts S1 with
    | ok t S2 => rw [hc] at go1; exact go1
    | exc c S2 => rw [hc] at go1; exact go1
    | bad => rw [hc] at go1; exact go1
theorem pe_fn0F {x : Str} {i k : Nat} {fa : Addr} {fd : FuncData} {ps : List Str} {pu : Bool} (Fo : FnOk X.prog X.w X.K X.mg X.base (L2N.CX X.prog X.w) k fa fd ps (spOf G fe i)) (hr : Room k X.A) (hg : Gl X x) (hm : X.mg x = some (.ref fa)) (hk : PySem.W.keepIn X.K (.ref fa) = true)
    (hb : Binds X.K fd ps []) (tk : ∀ u s', Air X L W u s' → X.xe u s') (hdb : (x == ("__debug__" : Str)) = false) :
    PE X (.Call (.Name x p) [] [] pos) (TEof G W (evE fe (.call pu i []))) := by
  have hx : ∀ σ, PassesAt (L2N.CX X.prog X.w) X σ (WE W σ) := fun σ pins H s u s' I c => tk u s' (air_of_call I (fun _ _ _ h => h) c)
  have base : PE X (.Call (.Name x p) [] [] pos) (fun σ H Q => spOf G fe i [] H Q (WE W σ)) := by
    refine ⟨fun pins s σ H Q I h => ?_⟩
    refine wpAny_Call_Name_kw (ld_glob I hg hm ?_ hdb)
    exact PySem.W.callWith_K0 (first := []) I.kIn hk (run_fnSD (us := []) (vs := []) (dvs := []) (ds := []) (E := WE W) Fo hr hb .nil (hx σ) I .nil h)
  refine te_intro base fun f r H S s e Q R E go => ?_
  have go1 : Go G W f (rT G f) r H s (if pu then callP fe i [] S else fe i [] S) Q := go
  cases pu with
  | true =>
    have go1 : Go G W f (rT G f) r H s (callP fe i [] S) Q := go1
    obtain ⟨z, go2⟩ := callP_go (s2 := []) R go1
    exact ⟨_, [], [], [], R.apart, .nil, go2⟩
  | false =>
    refine ⟨f, r, S, [], R, .nil, ?_⟩
    have go1 : Go G W f (rT G f) r H s (fe i [] S) Q := go1
    cases hc : fe i [] S with
    | ok t S2 => rw [hc] at go1; exact go1
    | exc c S2 => rw [hc] at go1; exact go1
    | bad => rw [hc] at go1; exact go1
end
end FC
end

section
set_option Elab.async false
set_option linter.all false
set_option maxRecDepth 100000
set_option maxHeartbeats 4000000
/-! FcCls: instances of an own class: made, fields, methods. -/
namespace FC
open PySem PySem.Spec PyProof.Rows L2 LamX
section
variable {G : Gm} {f : Addr → Prop} {r r' : List Addr} {H H' : Hp} {S : Sto}
theorem insOf_some {o : Option Ob} {fs : List (Str × T)} (h : insOf o = some fs) : o = some (.ins 0 fs) := by
  unfold insOf at h
  split at h
  · cases h; rfl
  · cases h
theorem fieldsT_ok (R : Rl G f r H S) {t : T} {v : V} (q : Rel G.K f r H t v) {fs : List (Str × T)} (h : fieldsT S t = some fs) :
    ∃ l a dx fvs, t = .loc l ∧ r[l]? = some a ∧ S[l]? = some (.ins 0 fs) ∧ v = .ref a ∧ H a = some (.ins (G.ins 0) dx fvs) ∧ fs.map (·.1) = fvs.map (·.1) ∧ RelL G.K f r H (fs.map (·.2)) (fvs.map (·.2)) := by
  cases q with
  | @loc a l hl =>
    have hs := insOf_some (show insOf S[l]? = some fs from h)
    obtain ⟨dx, fvs, h1, h2, h3⟩ := R.ob l _ a hs hl
    exact ⟨l, a, dx, fvs, rfl, hl, hs, rfl, h1, h2, h3⟩
  | _ => cases h
theorem lookup_rel {x : Str} : ∀ {fs : List (Str × T)} {fvs : List (Str × V)}, fs.map (·.1) = fvs.map (·.1) → RelL G.K f r H (fs.map (·.2)) (fvs.map (·.2)) →
    (∀ t, fs.lookup x = some t → ∃ v, fvs.lookup x = some v ∧ Rel G.K f r H t v) ∧ (fs.lookup x = none → fvs.lookup x = none)
  | [], [], _, _ => ⟨fun t z => (by cases z), fun _ => rfl⟩
  | [], _ :: _, e, _ => by simp at e
  | _ :: _, [], e, _ => by simp at e
  | (k, t) :: fs, (k', v) :: fvs, e, q => by
    rw [List.map_cons, List.map_cons] at e
    injection e with e1 e2
    cases q with
    | cons a b =>
      obtain ⟨i1, i2⟩ := lookup_rel (x := x) e2 b
      have e1 : k = k' := e1
      subst e1
      by_cases h : x = k
      · subst h
        exact ⟨fun u z => ⟨v, by simp [List.lookup_cons], by simp [List.lookup_cons] at z; subst z; exact a⟩, fun z => by simp [List.lookup_cons] at z⟩
      · have hb : (x == k) = false := by simpa using h
        exact ⟨fun u z => by rw [List.lookup_cons, hb] at z ⊢; exact i1 u z, fun z => by rw [List.lookup_cons, hb] at z ⊢; exact i2 z⟩
theorem put_rel {x : Str} {t : T} {v : V} (hv : Rel G.K f r H t v) : ∀ {fs : List (Str × T)} {fvs : List (Str × V)}, fs.map (·.1) = fvs.map (·.1) → RelL G.K f r H (fs.map (·.2)) (fvs.map (·.2)) →
    (putA x t fs).map (·.1) = (putF x v fvs).map (·.1) ∧ RelL G.K f r H ((putA x t fs).map (·.2)) ((putF x v fvs).map (·.2))
  | [], [], _, _ => ⟨rfl, .cons hv .nil⟩
  | [], _ :: _, e, _ => by simp at e
  | _ :: _, [], e, _ => by simp at e
  | (k, u) :: fs, (k', w) :: fvs, e, q => by
    rw [List.map_cons, List.map_cons] at e
    injection e with e1 e2
    cases q with
    | cons a b =>
      obtain ⟨i1, i2⟩ := put_rel (x := x) hv e2 b
      have e1 : k = k' := e1
      subst e1
      unfold putA putF
      by_cases h : k = x
      · rw [if_pos h, if_pos h]
        exact ⟨by rw [List.map_cons, List.map_cons, e2], .cons hv b⟩
      · rw [if_neg h, if_neg h]
        exact ⟨by rw [List.map_cons, List.map_cons, i1], .cons a i2⟩
/-- a new instance -/
theorem Rl.moreI (R : Rl G f r H S) {p : Addr} {dx : Addr} (hp : H p = none) : Rl G f (r ++ [p]) (upd H p (.ins (G.ins 0) dx [])) (S ++ [.ins 0 []]) where
  len := by simp [R.len]
  nd := List.nodup_append.mpr ⟨R.nd, by simp, fun a ha b hb z => by rw [List.mem_singleton.mp hb] at z; exact R.there ha (z ▸ hp)⟩
  dis := fun a h m => by
    rcases List.mem_append.mp h with z | z
    · exact R.dis a z m
    · rw [List.mem_singleton.mp z] at m; exact R.fthere m hp
  ob := fun l o a h1 h2 => by
    have x := upd_extN (o := .ins (G.ins 0) dx []) hp r
    by_cases hl : l < S.length
    · rw [List.getElem?_append_left hl] at h1
      rw [List.getElem?_append_left (by rw [R.len]; exact hl)] at h2
      exact (R.ob l o a h1 h2).ext R x (upd_ne fun z => R.there (mem_of_at h2) (z ▸ hp))
    · rw [List.getElem?_append_right (by omega)] at h1
      rw [List.getElem?_append_right (by rw [R.len]; omega)] at h2
      rw [R.len] at h2
      have e : l - S.length = 0 := by
        cases q : l - S.length with
        | zero => rfl
        | succ n => rw [q] at h1; simp at h1
      rw [e] at h1 h2
      simp at h1 h2
      subst h1 h2
      exact ⟨dx, [], upd_same, rfl, .nil⟩
  fo := fun a h => by rw [upd_ne (show a ≠ p from fun z => R.fthere h (by rw [z]; exact hp))]; exact R.fo a h
  tb := R.tb.ext fun b u h => by rw [upd_ne (ne_of_none h hp)]; exact h
/-- the fields of an instance are changed -/
theorem Rl.writeI (R : Rl G f r H S) {l : Nat} {a dx : Addr} {fs : List (Str × T)} {fvs : List (Str × V)} (hl : r[l]? = some a) (hk : fs.map (·.1) = fvs.map (·.1)) (h : RelL G.K f r H (fs.map (·.2)) (fvs.map (·.2))) : Rl G f r (upd H a (.ins (G.ins 0) dx fvs)) (S.set l (.ins 0 fs)) where
  len := by simp [R.len]
  nd := R.nd
  dis := R.dis
  ob := fun m o b h1 h2 => by
    have x := updo_ext (o := .ins (G.ins 0) dx fvs) R (mem_of_at hl)
    by_cases e : m = l
    · subst e
      rw [hl] at h2; cases h2
      have hs : m < S.length := by rw [← R.len]; exact (List.getElem?_eq_some_iff.mp hl).1
      rw [List.getElem?_set_self hs] at h1
      cases h1
      exact ⟨dx, fvs, upd_same, hk, h.ext R x⟩
    · rw [List.getElem?_set_ne (Ne.symm e)] at h1
      exact (R.ob m o b h1 h2).ext R x (upd_ne fun z => e (loc_inj R (z ▸ h2) hl))
  fo := fun b h => by
    rw [upd_ne (show b ≠ a from fun z => R.dis a (mem_of_at hl) (by rw [← z]; exact h))]
    exact R.fo b h
  tb := by
    have hk := R.kind (mem_of_at hl)
    refine fun p hp => ?_
    obtain ⟨ps, e1, e2, e3⟩ := R.tb p hp
    have n1 : p.1 ≠ a := fun z => by rcases hk with ⟨_, q⟩ | ⟨_, _, _, q⟩ <;> rw [← z, e1] at q <;> cases q
    refine ⟨ps, by rw [upd_ne n1]; exact e1, e2, fun pos cv hc => ?_⟩
    obtain ⟨c, e, k⟩ := e3 pos cv hc
    refine ⟨c, e, ?_⟩
    have n2 : c ≠ a := fun z => by rcases hk with ⟨_, q⟩ | ⟨_, _, _, q⟩ <;> rw [← z, k] at q <;> (unfold CodeO at q; cases q)
    rw [upd_ne n2]
    exact k
end
/-! ### calls of methods, new instances; what is raised is wished for at the caller's slots -/
section
variable {X : Cx} {CX : CXT} {k : Nat} {fa C : Addr} {fd : FuncData} {ps : List Str} {sp : Sp} {E : L2.St → XK} {m x : Str} {p pos apos : Pos} {e o : Expr} {es : List Expr} {ta : TE} {t : TA}
def tMethSD (C : Addr) (m : Str) (sp : Sp) (E : L2.St → XK) (ta : TE) (t : TA) : TE := fun σ H Q => ta σ H fun x H1 => ∃ a dx fs, x = .ref a ∧ H1 a = some (.ins C dx fs) ∧ fs.lookup m = none ∧ t σ H1 fun vs H2 => sp (x :: vs) H2 Q (E σ)
def tMakeSD (C : Addr) (sp : Sp) (E : L2.St → XK) (t : TA) : TE := fun σ H Q => t σ H fun vs H1 => ∀ x dx, H1 x = none → H1 dx = none → dx ≠ x → sp (.ref x :: vs) (upd (upd H1 dx (.own x)) x (.ins C dx [])) (fun v H2 => v = .non ∧ Q (.ref x) H2) (E σ)
theorem pe_makeNo (M : Mk X.K C fa) (hg : Gl X x) (hm : X.mg x = some (.ref C)) (ha : PA X (e :: es) t) (hn : noStar (e :: es) = true) (hdb : (x == ("__debug__" : Str)) = false) :
    PE X (.Call (.Name x p) (e :: es) [] pos) (fun σ H Q => t σ H fun _ _ => False) := by
  refine ⟨fun pins s σ H Q I h => ?_⟩
  refine wpAny_Call_Name_kw (ld_glob I hg hm ?_ hdb)
  exact PySem.W.callWith_K (h₀ := X.base) I.ok.mod.kin M.kp (thn (ha.run pos pins s σ H _ I h) fun us s1 ⟨vs, H1, I1, r, q⟩ => q.elim) (starEach_cons hn) (plain_tail hn)
def tLenSD (C : Addr) (sp : Sp) (E : L2.St → XK) (t : TA) : TE := fun σ H Q => t σ H fun vs H1 => ∃ a dx fs, vs = [.ref a] ∧ H1 a = some (.ins C dx fs) ∧ sp [.ref a] H1 (fun v H2 => ∃ n : Int, v = .int n ∧ 0 ≤ n ∧ n < 2 ^ 63 ∧ Q (.int n) H2) (E σ)
theorem pe_lenSD (ha : PA X [o] t) (hL : PySem.W.findIn X.K (.ref C) "__len__" = some (some (.ref fa))) (hf : PySem.W.isFn X.K (.ref fa) = true) (F : FnOk X.prog X.w X.K X.mg X.base CX k fa fd ps sp) (hr : Room (k + 1) X.A) (hg : Gl X "len") (hm : X.mg "len" = none) (hb : Binds X.K fd ps []) (hx : ∀ σ, PassesAt CX X σ (E σ)) (hn : noStar [o] = true) :
    PE X (.Call (.Name "len" p) [o] [] pos) (tLenSD C sp E t) := by
  refine ⟨fun pins s σ H Q I h => ?_⟩
  refine wpAny_Call_Name_kw (ld_blt I hg hm boot_len ?_ (by decide) (by decide))
  refine PyProof.Rows.callWith_builtin1 (thn (ha.run pos pins s σ H _ I h) fun us s1 ⟨vs, H1, I1, r1, a, dx, fs, ev, hH, q⟩ => ?_) (starEach_cons hn) (plain_tail hn)
  subst ev
  obtain ⟨u, rfl, ru⟩ : ∃ u, us = [u] ∧ RelV (V.ref a) u := by
    cases r1 with
    | cons ru rr =>
      cases rr
      exact ⟨_, rfl, ru⟩
  obtain rfl : u = Value.ref a := ru
  obtain ⟨mA, O, _, _, _, _⟩ := ins_get I1.hok hH
  obtain ⟨od, J, _⟩ := O.look
  obtain ⟨m, hF⟩ := I1.fr
  have hl : ([Value.ref a] ++ ([] : List Value)).length = ps.length := (F.len _ _ _ _ q)
  have hb' := hb s1 [Value.ref a] I1.kIn hl
  rw [List.append_nil] at hb'
  refine PySem.W.len_K hF I1.ok.mod.kin J hL hf (wpAny_call (codeAny_mono (F.run X.A.in1 X.stack s1 H1 ⟨[.ref a], []⟩ [.ref a] [.ref a] _ (E σ) hr.in1 I1.env0.in1 hb' (.cons rfl .nil) q) fun r s' hq => ?_))
  cases r with
  | error e => exact hx σ pins H1 s1 e s' I1 hq
  | ok fl =>
    cases fl with
    | ret u =>
      obtain ⟨v, H', I2, rv, n, ev, h0, h1, q3⟩ := I1.after hq
      subst ev
      obtain ⟨t, rfl⟩ := rv
      exact ⟨⟨h0, h1⟩, .int n, H', I2.tok _, ⟨_, rfl⟩, q3⟩
    | next => exact False.elim hq
    | brk => exact False.elim hq
    | cont => exact False.elim hq
/-- arguments that are not to end well -/
theorem pe_lenNo (ha : PA X [o] t) (hg : Gl X "len") (hm : X.mg "len" = none) (hn : noStar [o] = true) : PE X (.Call (.Name "len" p) [o] [] pos) (fun σ H Q => t σ H fun _ _ => False) := by
  refine ⟨fun pins s σ H Q I h => ?_⟩
  refine wpAny_Call_Name_kw (ld_blt I hg hm boot_len ?_ (by decide) (by decide))
  exact PyProof.Rows.callWith_builtin1 (thn (ha.run pos pins s σ H _ I h) fun us s1 ⟨vs, H1, I1, r1, q⟩ => q.elim) (starEach_cons hn) (plain_tail hn)
theorem few_n {cpos : Pos} {as : List Expr} (hn : noStar as = true) (hl : as.length < 20) : methodCallForm (as.length + ([] : List Keyword).length) (backTo cpos (starEach as X.env)) (backToKw cpos (keywordEach [] X.env)) = true := by
  unfold methodCallForm
  rw [starEach_all hn]
  show (true && true && decide (as.length + 0 + 0 < 30)) = true
  simp
  omega
theorem pe_methSD (he : PE X o ta) (c : Cls X.K C) (hm : Meth X.K C m fa) (F : FnOk X.prog X.w X.K X.mg X.base CX k fa fd ps sp) (hr : Room k X.A) (hb : Binds X.K fd ps []) (hx : ∀ σ, PassesAt CX X σ (E σ)) (ha : PA X (e :: es) t) (hn : noStar (e :: es) = true) (hz : (e :: es).length < 20) (hbs : baseOk o = true) (hl : (apos.endLine == pos.line) = true) :
    PE X (.Call (.Attribute o m apos) (e :: es) [] pos) (tMethSD C m sp E ta t) := by
  refine ⟨fun pins s σ H Q I h => ?_⟩
  refine PySem.W.methodCall_KW (pl := plainOf o X.env) (thn (he.run pins s σ H _ I h) fun u s1 ⟨x, H1, I1, rx, a, dx, fs, ex, ea, l, q⟩ => ?_) (mcall_of (base_ok hbs) fun ov => mcall_line (few_n hn hz) hl)
  subst ex
  obtain rfl : u = Value.ref a := rx
  refine getmeth_ok I1 ea c hm l ?_
  refine PySem.W.callWith_K (first := [.ref a]) (h₀ := X.base) I.ok.mod.kin hm.kp (thn (ha.run pos pins s1 σ H1 _ I1 q) fun us s2 ⟨vs, H2, I2, r, q2⟩ => ⟨I2.kIn, ?_⟩) (starEach_cons hn) (plain_tail hn)
  exact run_fnSD (us := .ref a :: us) (vs := .ref a :: vs) (dvs := []) (ds := []) F hr hb .nil (hx σ) I2 (.cons rfl r) (by rw [List.append_nil]; exact q2)
theorem pe_meth0SD (he : PE X o ta) (c : Cls X.K C) (hm : Meth X.K C m fa) (F : FnOk X.prog X.w X.K X.mg X.base CX k fa fd ps sp) (hr : Room k X.A) (hb : Binds X.K fd ps []) (hx : ∀ σ, PassesAt CX X σ (E σ)) (hbs : baseOk o = true) (hl : (apos.endLine == pos.line) = true) :
    PE X (.Call (.Attribute o m apos) [] [] pos) (tMethSD C m sp E ta tNil) := by
  refine ⟨fun pins s σ H Q I h => ?_⟩
  refine PySem.W.methodCall_KW (pl := plainOf o X.env) (thn (he.run pins s σ H _ I h) fun u s1 ⟨x, H1, I1, rx, a, dx, fs, ex, ea, l, q⟩ => ?_) (mcall_of (base_ok hbs) fun ov => mcall_line (few_n (as := []) rfl (by decide)) hl)
  subst ex
  obtain rfl : u = Value.ref a := rx
  refine getmeth_ok I1 ea c hm l ?_
  exact PySem.W.callWith_K0 (first := [.ref a]) I1.kIn hm.kp (run_fnSD (us := [.ref a]) (vs := [.ref a]) (dvs := []) (ds := []) F hr hb .nil (hx σ) I1 (.cons rfl .nil) q)
theorem run_makeSD {pins : List (Addr × Obj)} {σ : L2.St} {H : Hp} {s : Shared} {Q : VK} {us : List Value} {vs : List V} {E : XK} (M : Mk X.K C fa) (F : FnOk X.prog X.w X.K X.mg X.base CX k fa fd ps sp) (hr : Room (k + 1) X.A) (hb : Binds X.K fd ps [])
    (hx : PassesAt CX X σ E) (I : Inv X pins σ H s) (r : Vals vs us)
    (h : ∀ x dx, H x = none → H dx = none → dx ≠ x → sp (.ref x :: vs) (upd (upd H dx (.own x)) x (.ins C dx [])) (fun v H2 => v = .non ∧ Q (.ref x) H2) E) :
    wpAny (model X.prog X.w) X.A (call (.ref C) us) (EP X pins σ Q) X.xe s := by
  have hq := h (s.heap.objs.size + 1) s.heap.objs.size (I.hok.fresh (Nat.le_succ _)) (I.hok.fresh (Nat.le_refl _)) (Nat.ne_of_lt (Nat.lt_succ_self _))
  have I2 := Inv.made (C := C) I
  have r2 : Vals (V.ref (s.heap.objs.size + 1) :: vs) (Value.ref (s.heap.objs.size + 1) :: us) := .cons rfl r
  have hl : (Value.ref (s.heap.objs.size + 1) :: us ++ ([] : List Value)).length = ps.length := by
    rw [List.append_nil]
    have e := r2.length
    rw [F.len _ _ _ _ hq] at e
    exact e.symm
  have hb' := hb _ (Value.ref (s.heap.objs.size + 1) :: us) I2.kIn hl
  rw [List.append_nil] at hb'
  refine wpAny_call (make_map (f := fa) I.kIn M.makes M.init (beq_iff_eq.mp M.fn) (codeAny_mono (F.run _ X.stack _ _ ⟨Value.ref (s.heap.objs.size + 1) :: us, []⟩ (Value.ref (s.heap.objs.size + 1) :: us) _ _ E (hr.make C us [])
    (I2.env0.make C us []) hb' r2 hq) fun r s' hq' => ?_))
  cases r with
  | error e => exact hx pins _ _ e s' I2 hq'
  | ok fl =>
    cases fl with
    | ret u =>
      obtain ⟨v, H', I3, rv, ev, q3⟩ := I2.after hq'
      subst ev
      exact ⟨rv, ⟨V.ref (s.heap.objs.size + 1), H', I3, rfl, q3⟩⟩
    | next => exact False.elim hq'
    | brk => exact False.elim hq'
    | cont => exact False.elim hq'
theorem pe_makeSD (M : Mk X.K C fa) (F : FnOk X.prog X.w X.K X.mg X.base CX k fa fd ps sp) (hr : Room (k + 1) X.A) (hg : Gl X x) (hm : X.mg x = some (.ref C)) (hb : Binds X.K fd ps []) (hx : ∀ σ, PassesAt CX X σ (E σ))
    (ha : PA X (e :: es) t) (hn : noStar (e :: es) = true) (hdb : (x == ("__debug__" : Str)) = false) :
    PE X (.Call (.Name x p) (e :: es) [] pos) (tMakeSD C sp E t) := by
  refine ⟨fun pins s σ H Q I h => ?_⟩
  refine wpAny_Call_Name_kw (ld_glob I hg hm ?_ hdb)
  refine PySem.W.callWith_K (h₀ := X.base) I.ok.mod.kin M.kp (thn (ha.run pos pins s σ H _ I h) fun us s1 ⟨vs, H1, I1, r, q⟩ => ⟨I1.kIn, ?_⟩) (starEach_cons hn) (plain_tail hn)
  exact run_makeSD M F hr hb (hx σ) I1 r q
end
section
variable {X : Cx} {G : Gm} {W : WX} {L : Addr} {fe : FEnv} {n i k : Nat} {fa : Addr} {fd : FuncData} {ps : List Str} {m x : Str} {pos p apos : Pos} {a o : Expr} {es : List Expr} {ea eo : E} {ees : List E}
/-- a field is read -/
theorem pe_fldF (hK : X.K = G.K) (c : Cls X.K (G.ins 0)) (na : NoAttr X.K (G.ins 0) x) (hb : baseOk a = true) (ha : PE X a (TEof G W (evE fe ea))) : PE X (.Attribute a x pos) (TEof G W (evE fe (.fld ea x))) := by
  refine te_intro (pe_fld ha (base_ok hb)) fun f r H S s e Q R E go => ?_
  refine te_part (k := fun t S1 => FC.ofO (fldT S1 t x) S1) R E go fun r1 t S1 v H1 x1 R1 E1 q1 go1 => ?_
  obtain ⟨u, hu, go2⟩ := go1.ofO
  unfold fldT at hu
  cases hf : fieldsT S1 t with
  | none => rw [hf] at hu; cases hu
  | some fs =>
    rw [hf] at hu
    have hu : fs.lookup x = some u := hu
    obtain ⟨l, b, dx, fvs, rfl, hl, hs, rfl, hH, e1, e2⟩ := fieldsT_ok R1 q1 hf
    obtain ⟨w, hw, rel⟩ := (lookup_rel (x := x) e1 e2).1 u hu
    exact ⟨b, G.ins 0, dx, fvs, w, rfl, hH, c, na, hw, Go.ok go2 R1 rel⟩
theorem metI_ok {f : Addr → Prop} {r : List Addr} {H : Hp} {S : Sto} {t : T} {v : V} (R : Rl G f r H S) (q : Rel G.K f r H t v) (h : metI S t m = true) : ∃ a dx fs, v = .ref a ∧ H a = some (.ins (G.ins 0) dx fs) ∧ fs.lookup m = none := by
  unfold metI at h
  cases hf : fieldsT S t with
  | none => rw [hf] at h; cases h
  | some fs =>
    rw [hf] at h
    obtain ⟨l, b, dx, fvs, rfl, hl, hs, rfl, hH, e1, e2⟩ := fieldsT_ok R q hf
    exact ⟨b, dx, fvs, rfl, hH, (lookup_rel (x := m) e1 e2).2 (Option.isNone_iff_eq_none.mp h)⟩
/-- a method is called -/
theorem pe_methF (hK : X.K = G.K) (c : Cls X.K (G.ins 0)) (hm : Meth X.K (G.ins 0) m fa) (F : FnOk X.prog X.w X.K X.mg X.base (L2N.CX X.prog X.w) k fa fd ps (spOf G fe i)) (hr : Room k X.A) (hb : Binds X.K fd ps []) (tk : ∀ u s', Air X L W u s' → X.xe u s')
    (hn : noStar es = true) (hz : es.length < 20) (hbs : baseOk o = true) (hl : (apos.endLine == pos.line) = true) (ho : PE X o (TEof G W (evE fe eo))) (ha : PA X es (TAof G W (evEs fe ees))) (h0 : es = [] → ees = []) :
    PE X (.Call (.Attribute o m apos) es [] pos) (TEof G W (evE fe (.meth i m eo ees))) := by
  have hx : ∀ σ, PassesAt (L2N.CX X.prog X.w) X σ (WE W σ) := fun σ pins H s u s' I c => tk u s' (air_of_call I (fun _ _ _ h => h) c)
  have fin : ∀ {f : Addr → Prop} {r1 r2 : List Addr} {H1 H2 : Hp} {S1 S2 : Sto} {s : L2.St} {t : T} {v : V} {ts : List T} {vs : List V} {Q : VK}, Rel G.K f r2 H2 t v → RelL G.K f r2 H2 ts vs → Rl G f r2 H2 S2 → Go G W f (rT G f) r2 H2 s (fe i (t :: ts) S2) Q → spOf G fe i (v :: vs) H2 Q (WE W s) := fun {f r1 r2 H1 H2 S1 S2 s t v ts vs Q} q1 q2 R2 go => by
    refine ⟨f, r2, S2, t :: ts, R2, .cons q1 q2, ?_⟩
    cases hc : fe i (t :: ts) S2 with
    | ok t S3 => rw [hc] at go; exact go
    | exc c S3 => rw [hc] at go; exact go
    | bad => rw [hc] at go; exact go
  cases es with
  | nil =>
    rw [h0 rfl]
    refine te_intro (pe_meth0SD (E := WE W) ho c hm F hr hb hx hbs hl) fun f r H S s e Q R E go => ?_
    refine te_part (k := fun t S1 => if metI S1 t m then (evEs fe [] e S1).bind fun xs S2 => fe i (t :: xs) S2 else .bad) R E go fun r1 t S1 v H1 x1 R1 E1 q1 go1 => ?_
    by_cases hm' : metI S1 t m = true
    · rw [if_pos hm'] at go1
      obtain ⟨a, dx, fs, rfl, hH, hf⟩ := metI_ok R1 q1 hm'
      refine ⟨a, dx, fs, rfl, hH, hf, ?_⟩
      exact fin (r1 := r1) (H1 := H1) (S1 := S1) q1 .nil R1 go1
    · rw [if_neg hm'] at go1
      exact go1.elim
  | cons a es =>
    refine te_intro (pe_methSD (E := WE W) ho c hm F hr hb hx ha hn hz hbs hl) fun f r H S s e Q R E go => ?_
    refine te_part (k := fun t S1 => if metI S1 t m then (evEs fe ees e S1).bind fun xs S2 => fe i (t :: xs) S2 else .bad) R E go fun r1 t S1 v H1 x1 R1 E1 q1 go1 => ?_
    by_cases hm' : metI S1 t m = true
    · rw [if_pos hm'] at go1
      obtain ⟨b, dx, fs, rfl, hH, hf⟩ := metI_ok R1 q1 hm'
      refine ⟨b, dx, fs, rfl, hH, hf, ?_⟩
      exact ta_part (k := fun xs S2 => fe i (t :: xs) S2) R1 E1 go1 fun r2 ts S2 vs H2 x2 R2 E2 q2 go2 => fin (r1 := r1) (H1 := H1) (S1 := S1) (q1.ext R1 x2) q2 R2 go2
    · rw [if_neg hm'] at go1
      exact go1.elim
theorem isNone_eq {t : T} (h : isNone t = true) : t = .non := by
  unfold isNone at h
  split at h
  · rfl
  · cases h
/-- a new instance -/
theorem pe_makeF {j : Nat} (hK : X.K = G.K) (M : Mk X.K (G.ins 0) fa) (F : FnOk X.prog X.w X.K X.mg X.base (L2N.CX X.prog X.w) j fa fd ps (spOf G (lowE fe) i)) (hr : Room (j + 1) X.A) (hg : Gl X x) (hmg : X.mg x = some (.ref (G.ins 0))) (hb : Binds X.K fd ps []) (tk : ∀ u s', Air X L W u s' → X.xe u s')
    (hn : noStar (a :: es) = true) (hdb : (x == ("__debug__" : Str)) = false) (ha : PA X (a :: es) (TAof G W (evEs fe ees))) :
    PE X (.Call (.Name x p) (a :: es) [] pos) (TEof G W (evE fe (.make i ees))) := by
  have hx : ∀ σ, PassesAt (L2N.CX X.prog X.w) X σ (WE W σ) := fun σ pins H s u s' I c => tk u s' (air_of_call I (fun _ _ _ h => h) c)
  refine te_intro (pe_makeSD (E := WE W) M F hr hg hmg hb hx ha hn hdb) fun f r H S s e Q R E go => ?_
  refine ta_part (k := fun xs S1 => (lowE fe i (.loc S1.length :: xs) (S1 ++ [.ins 0 []])).bind fun v S2 => if isNone v then FC.R.ok (FC.T.loc S1.length) S2 else .bad) R E go fun r1 ts S1 vs H1 x1 R1 E1 q1 go1 => ?_
  intro y dx ny ndx nd
  have R2 : Rl G f r1 (upd H1 dx (.own y)) S1 := R1.fresh ndx
  have ny2 : upd H1 dx (.own y) y = none := by rw [upd_ne (Ne.symm nd)]; exact ny
  have R3 := R2.moreI (dx := dx) ny2
  have X1 : Ext r1 H1 r1 (upd H1 dx (.own y)) := upd_ext ndx r1
  have X2 : Ext r1 (upd H1 dx (.own y)) (r1 ++ [y]) (upd (upd H1 dx (.own y)) y (.ins (G.ins 0) dx [])) := upd_extN ny2 r1
  have X3 := X1.trans X2
  have at_ : (r1 ++ [y])[S1.length]? = some y := by
    rw [← R1.len, List.getElem?_append_right (Nat.le_refl _)]
    simp
  refine ⟨f, r1 ++ [y], S1 ++ [.ins 0 []], .loc S1.length :: ts, R3, .cons (.loc at_) (q1.ext R1 X3), ?_⟩
  have go1 : Go G W f (rT G f) r1 H1 s ((lowE fe i (.loc S1.length :: ts) (S1 ++ [.ins 0 []])).bind fun v S2 => if isNone v then .ok (.loc S1.length) S2 else .bad) Q := go1
  cases hc : lowE fe i (.loc S1.length :: ts) (S1 ++ [.ins 0 []]) with
  | ok v S2 =>
    rw [hc] at go1
    have go1 : Go G W f (rT G f) r1 H1 s (if isNone v then .ok (.loc S1.length) S2 else .bad) Q := go1
    by_cases hv : isNone v = true
    · rw [if_pos hv] at go1
      rw [isNone_eq hv]
      intro r2 w H2 x2 R4 q2
      cases q2
      exact ⟨rfl, go1 r2 (.ref y) H2 (X3.trans x2) R4 (.loc (x2.pre _ _ at_))⟩
    · rw [if_neg hv] at go1
      exact go1.elim
  | exc c S2 =>
    rw [hc] at go1
    exact fun r2 H2 x2 R4 => go1 r2 H2 (X3.trans x2) R4
  | bad => rw [hc] at go1; exact go1.elim
/-- a field is stored -/
theorem ps_stfF (hK : X.K = G.K) (c : Cls X.K (G.ins 0)) (na : NoAttr X.K (G.ins 0) x) (ho : PE X o (TEof G W (evE fe eo))) (ha : PE X a (TEof G W (evE fe ea))) (hs : swapsWith a (some (.Attribute o x apos)) pos.line X.env = pure false) : PS X (.Assign [.Attribute o x apos] a pos) (TSof G W (evC fe n (.stf eo x ea))) := by
  refine ts_intro (ps_fld ho ha hs) fun f r e S D s H R E go => ?_
  refine st_part (k := fun v S1 => (evE fe eo e S1).out fun t S2 => match stfT S2 t x v with | some S3 => .nx e S3 | none => .bad) R E go fun r1 v S1 w H1 x1 R1 E1 q1 go1 => ?_
  refine st_part (k := fun t S2 => match stfT S2 t x v with | some S3 => O.nx e S3 | none => .bad) R1 E1 go1 fun r2 t S2 u H2 x2 R2 E2 q2 go2 => ?_
  cases hf : stfT S2 t x v with
  | none => rw [hf] at go2; exact go2.elim
  | some S3 =>
    rw [hf] at go2
    have go2 : OGo G W f D r2 H2 (.nx e S3) := go2
    cases q2 with
    | @loc b l hl =>
      have hf : (match insOf S2[l]? with | some fs => if decide (fs.length < 1000) then some (S2.set l (.ins 0 (putA x v fs))) else none | none => none) = some S3 := hf
      cases hi : insOf S2[l]? with
      | none => rw [hi] at hf; cases hf
      | some fs =>
        rw [hi] at hf
        have hf : (if decide (fs.length < 1000) = true then some (S2.set l (.ins 0 (putA x v fs))) else none) = some S3 := hf
        split at hf
        · rename_i hlen
          cases hf
          have hlen := of_decide_eq_true hlen
          obtain ⟨l', b', dx, fvs, e0, hl', hs', e3, hH, e1, e2⟩ := fieldsT_ok R2 (.loc hl) (show fieldsT S2 (.loc l) = some fs from hi)
          cases e0
          rw [hl] at hl'
          cases hl'
          have ql := q1.ext R1 x2
          obtain ⟨p1, p2⟩ := put_rel (x := x) ql e1 e2
          have R4 := R2.writeI (dx := dx) hl p1 p2
          have X4 := updo_ext (o := .ins (G.ins 0) dx (putF x w fvs)) R2 (mem_of_at hl)
          have ln : fvs.length < 1000 := by
            have := congrArg List.length e1
            rw [List.length_map, List.length_map] at this
            omega
          exact ⟨b, G.ins 0, dx, fvs, rfl, hH, c, na, ln, go2 r2 _ s X4 R4 (E2.ext R2 X4)⟩
        · cases hf
    | _ => cases hf
def sizeR (v : T) (S : Sto) : R T := match v with
  | .int n => if decide (0 ≤ n) && decide (n < 2 ^ 62) then .ok (.int n) S else .bad
  | _ => .bad
theorem size_one {ea : E} {e : FC.Env} {S : Sto} : evE fe (.size i ea) e S = (evEs fe [ea] e S).bind fun xs S1 => match xs with
    | [t] => if (fieldsT S1 t).isSome then (lowE fe i [t] S1).bind sizeR else .bad
    | _ => .bad := by
  show _ = ((evE fe ea e S).bind fun x S1 => (evEs fe [] e S1).bind fun xs S2 => .ok (x :: xs) S2).bind _
  show (evE fe ea e S).bind _ = _
  cases evE fe ea e S <;> rfl
/-- len of an instance -/
theorem pe_sizeF {j : Nat} (hK : X.K = G.K) (hL : PySem.W.findIn X.K (.ref (G.ins 0)) "__len__" = some (some (.ref fa))) (hf : PySem.W.isFn X.K (.ref fa) = true) (F : FnOk X.prog X.w X.K X.mg X.base (L2N.CX X.prog X.w) j fa fd ps (spOf G (lowE fe) i)) (hr : Room (j + 1) X.A) (hg : Gl X "len") (hmg : X.mg "len" = none) (hb : Binds X.K fd ps []) (tk : ∀ u s', Air X L W u s' → X.xe u s')
    (hn : noStar [a] = true) (ha : PA X [a] (TAof G W (evEs fe [ea]))) : PE X (.Call (.Name "len" p) [a] [] pos) (TEof G W (evE fe (.size i ea))) := by
  have hx : ∀ σ, PassesAt (L2N.CX X.prog X.w) X σ (WE W σ) := fun σ pins H s u s' I c => tk u s' (air_of_call I (fun _ _ _ h => h) c)
  refine te_intro (pe_lenSD (E := WE W) (C := G.ins 0) ha hL hf F hr hg hmg hb hx hn) fun f r H S s e Q R E go => ?_
  rw [size_one] at go
  refine ta_part R E go fun r1 ts S1 vs H1 x1 R1 E1 q1 go1 => ?_
  cases q1 with
  | nil => exact go1.elim
  | @cons t _ v _ q qs =>
    cases qs with
    | cons _ _ => exact go1.elim
    | nil =>
      have go1 : Go G W f (rT G f) r1 H1 s (if (fieldsT S1 t).isSome then (lowE fe i [t] S1).bind sizeR else .bad) Q := go1
      by_cases hs : (fieldsT S1 t).isSome = true
      · rw [if_pos hs] at go1
        obtain ⟨fs, hfs⟩ := Option.isSome_iff_exists.mp hs
        obtain ⟨l, b, dx, fvs, rfl, hl, hs', rfl, hH, e1, e2⟩ := fieldsT_ok R1 q hfs
        refine ⟨b, dx, fvs, rfl, hH, f, r1, S1, [.loc l], R1, .cons q .nil, ?_⟩
        cases hc : lowE fe i [.loc l] S1 with
        | ok w S2 =>
          rw [hc] at go1
          have go1 : Go G W f (rT G f) r1 H1 s (sizeR w S2) Q := go1
          intro r2 u H2 x2 R2 q2
          cases q2 with
          | int n =>
            have go1 : Go G W f (rT G f) r1 H1 s (if (decide (0 ≤ n) && decide (n < 2 ^ 62)) = true then FC.R.ok (FC.T.int n) S2 else .bad) Q := go1
            by_cases hz : (decide (0 ≤ n) && decide (n < 2 ^ 62)) = true
            · rw [if_pos hz] at go1
              obtain ⟨z1, z2⟩ := Bool.and_eq_true_iff.mp hz
              have z1 := of_decide_eq_true z1
              have z2 := of_decide_eq_true z2
              exact ⟨n, rfl, z1, by omega, go1 r2 _ H2 x2 R2 (.int n)⟩
            · rw [if_neg hz] at go1
              exact go1.elim
          | _ => exact go1.elim
        | exc c S2 => rw [hc] at go1; exact go1
        | bad => rw [hc] at go1; exact go1.elim
      · rw [if_neg hs] at go1
        exact go1.elim
/-! ### == of instances, isinstance of their class -/
def rEqo (C : Addr) (sp : Sp) : R2 := fun x y H Q => ∃ a dx fs, x = .ref a ∧ H a = some (.ins C dx fs) ∧ ((∃ i, y = .int i) ∨ ∃ b dx' fs', y = .ref b ∧ H b = some (.ins C dx' fs')) ∧ sp [x, y] H Q (fun _ _ _ => False)
theorem op_eqF (hs : PySem.W.findIn X.K (.ref (G.ins 0)) "__eq__" = some (some (.ref fa))) (hf : PySem.W.isFn X.K (.ref fa) = true) (hn : PySem.W.notFirst X.K (G.ins 0) (.type "int") = true) (F : FnOk X.prog X.w X.K X.mg X.base (L2N.CX X.prog X.w) k fa fd ps (spOf G fe i)) (hr : Room k X.A) (hb : Binds X.K fd ps [])
    (tk : ∀ u s', Air X L W u s' → X.xe u s') : OpR X (compareOp .Eq) (rEqo (G.ins 0) (spOf G fe i)) := by
  intro pins s σ H x y v u Q I rx ry h
  have hx : ∀ σ, PassesAt (L2N.CX X.prog X.w) X σ ((fun _ => fun _ _ _ => False : L2.St → XK) σ) := fun σ pins H s u s' I c => tk u s' (air_of_call I (fun _ _ _ h => h.elim) c)
  obtain ⟨a, dx, fs, rfl, ha, hy, q⟩ := h
  cases (show v = Value.ref a from rx)
  obtain ⟨mA, J, _⟩ := ins_get I.hok ha
  obtain ⟨od, J, _⟩ := J.look
  obtain ⟨m, hF⟩ := I.fr
  have ht : ∃ tb, PySem.W.Looks (model X.prog X.w) s.heap (typeOf u) tb ∧ PySem.W.notFirst X.K (G.ins 0) tb = true := by
    rcases hy with ⟨i, rfl⟩ | ⟨b, dx', fs', rfl, hb'⟩
    · obtain ⟨t, rfl⟩ := (show ∃ t, u = Value.int i t from ry)
      exact ⟨.type "int", PySem.W.Looks.of_pure rfl, hn⟩
    · cases (show u = Value.ref b from ry)
      obtain ⟨mB, J', _⟩ := ins_get I.hok hb'
      obtain ⟨od', J', _⟩ := J'.look
      exact ⟨.ref (G.ins 0), J'.type, by simp [PySem.W.notFirst]⟩
  obtain ⟨tb, lt, nf⟩ := ht
  rw [show compareOp CmpOp.Eq (Value.ref a) u = richCompare CmpOp.Eq (Value.ref a) u from rfl]
  refine PySem.W.cmp_K (op := .Eq) (tb := tb) hr.units0 hF I.ok.mod.kin J lt nf hs hf ?_
  refine wpAny_mono (run_fnSD (us := [.ref a, u]) (vs := [.ref a, y]) (dvs := []) (ds := []) (E := fun _ => fun _ _ _ => False) F hr hb .nil (hx σ) I (.cons rfl (.cons ry .nil)) q) (fun w s' z => ?_) fun _ _ x => x
  obtain ⟨z', H', I', rz, qz⟩ := z
  exact SlX.cmpback rz ⟨z', H', I', rz, qz⟩
theorem eqArg_ok {f : Addr → Prop} {r : List Addr} {H : Hp} {S : Sto} {t : T} {v : V} (R : Rl G f r H S) (q : Rel G.K f r H t v) (h : eqArg S t = true) : (∃ i, v = .int i) ∨ ∃ b dx' fs', v = .ref b ∧ H b = some (.ins (G.ins 0) dx' fs') := by
  unfold eqArg at h
  split at h
  · cases q
    exact .inl ⟨_, rfl⟩
  · obtain ⟨fs, hfs⟩ := Option.isSome_iff_exists.mp h
    obtain ⟨l, b, dx, fvs, rfl, hl, hs', rfl, hH, e1, e2⟩ := fieldsT_ok R q hfs
    exact .inr ⟨b, dx, fvs, rfl, hH⟩
theorem eqo_go {f : Addr → Prop} {r : List Addr} {H : Hp} {s : L2.St} {S2 : Sto} {t u : T} {v w : V} {Q : VK} (R2 : Rl G f r H S2) (q1 : Rel G.K f r H t v) (q2 : Rel G.K f r H u w) (go : Go G W f (rT G f) r H s (if (fieldsT S2 t).isSome && eqArg S2 u then eqR (fe i [t, u] S2) else .bad) Q) :
    rEqo (G.ins 0) (spOf G fe i) v w H Q := by
  by_cases hc : ((fieldsT S2 t).isSome && eqArg S2 u) = true
  · rw [if_pos hc] at go
    obtain ⟨c1, c2⟩ := Bool.and_eq_true_iff.mp hc
    obtain ⟨fs, hfs⟩ := Option.isSome_iff_exists.mp c1
    have ea := eqArg_ok R2 q2 c2
    obtain ⟨l, bq, dx, fvs, rfl, hl, hs', rfl, hH, e1, e2⟩ := fieldsT_ok R2 q1 hfs
    refine ⟨bq, dx, fvs, rfl, hH, ea, f, r, S2, [.loc l, u], R2, .cons q1 (.cons q2 .nil), ?_⟩
    cases hc : fe i [.loc l, u] S2 with
    | ok z S3 =>
      rw [hc] at go
      cases z with
      | bl b => exact go
      | _ => exact go.elim
    | exc c S3 => rw [hc] at go; exact go.elim
    | bad => rw [hc] at go; exact go.elim
  · rw [if_neg hc] at go
    exact go.elim
theorem pe_eqoF {b : Expr} {eb : E} (hs : PySem.W.findIn X.K (.ref (G.ins 0)) "__eq__" = some (some (.ref fa))) (hf : PySem.W.isFn X.K (.ref fa) = true) (hn : PySem.W.notFirst X.K (G.ins 0) (.type "int") = true) (F : FnOk X.prog X.w X.K X.mg X.base (L2N.CX X.prog X.w) k fa fd ps (spOf G fe i)) (hr : Room k X.A) (hb : Binds X.K fd ps [])
    (tk : ∀ u s', Air X L W u s' → X.xe u s') (hm : behindInMarks .Eq b = false) (ha : PE X a (TEof G W (evE fe ea))) (hb2 : PE X b (TEof G W (evE fe eb))) : PE X (.Compare a [.Eq] [b] pos) (TEof G W (evE fe (.eqo i ea eb))) := by
  refine te_intro (pe_cmpR (op_eqF hs hf hn F hr hb tk) ha hb2 hm) fun f r H S s e Q R E go => ?_
  refine te_part (k := fun x S1 => (evE fe eb e S1).bind fun y S2 => if (fieldsT S2 x).isSome && eqArg S2 y then eqR (fe i [x, y] S2) else .bad) R E go fun r1 t S1 v H1 x1 R1 E1 q1 go1 => ?_
  refine te_part (k := fun y S2 => if (fieldsT S2 t).isSome && eqArg S2 y then eqR (fe i [t, y] S2) else .bad) R1 E1 go1 fun r2 u S2 w H2 x2 R2 E2 q2 go2 => ?_
  exact eqo_go R2 (q1.ext R1 x2) q2 go2
theorem pt_eqoF {b : Expr} {eb : E} (hs : PySem.W.findIn X.K (.ref (G.ins 0)) "__eq__" = some (some (.ref fa))) (hf : PySem.W.isFn X.K (.ref fa) = true) (hn : PySem.W.notFirst X.K (G.ins 0) (.type "int") = true) (F : FnOk X.prog X.w X.K X.mg X.base (L2N.CX X.prog X.w) k fa fd ps (spOf G fe i)) (hr : Room k X.A) (hb : Binds X.K fd ps [])
    (tk : ∀ u s', Air X L W u s' → X.xe u s') (hm : behindInMarks .Eq b = false) (ha : PE X a (TEof G W (evE fe ea))) (hb2 : PE X b (TEof G W (evE fe eb))) : PT X (.Compare a [.Eq] [b] pos) (TTof G W (evE fe (.eqo i ea eb))) := by
  refine tt_intro (pt_cmpR (op_eqF hs hf hn F hr hb tk) ha hb2 hm) fun f r H S s e Q R E go => ?_
  refine te_part (k := fun x S1 => (evE fe eb e S1).bind fun y S2 => if (fieldsT S2 x).isSome && eqArg S2 y then eqR (fe i [x, y] S2) else .bad) R E go fun r1 t S1 v H1 x1 R1 E1 q1 go1 => ?_
  refine te_part (k := fun y S2 => if (fieldsT S2 t).isSome && eqArg S2 y then eqR (fe i [t, y] S2) else .bad) R1 E1 go1 fun r2 u S2 w H2 x2 R2 E2 q2 go2 => ?_
  exact eqo_go R2 (q1.ext R1 x2) q2 go2
theorem pe_isFF {p1 p2 : Pos} (c : C8.InsC X.K (G.ins 0)) (hi : PySem.W.kitOne X.K (.type "int") (.ref (G.ins 0)) = some false) (hg : Gl X "isinstance") (hm : X.mg "isinstance" = none) (hgx : Gl X x) (hmx : X.mg x = some (.ref (G.ins 0))) (hd : (x == ("__debug__" : Str)) = false) (hn : noStar [a] = true) (ha : PE X a (TEof G W (evE fe ea))) :
    PE X (.Call (.Name "isinstance" p1) [a, .Name x p2] [] pos) (TEof G W (evE fe (.isF ea))) := by
  have hn2 : noStar [a, .Name x p2] = true := by cases a <;> first | rfl | exact hn
  have hb : PE X (.Name x p2) (tC (.ref (G.ins 0))) := pe_glob hgx hmx rfl hd
  have hA : PA X [a, .Name x p2] (tCons (TEof G W (evE fe ea)) (tCons (tC (.ref (G.ins 0))) tNil)) := pa_cons ha (pa_cons hb pa_nil rfl) (starEach_cons hn2)
  refine te_intro (pe_callB call_isi hg hm (by decide +kernel) hA (by decide +kernel) (by decide +kernel) (starEach_cons hn2) rfl) fun f r H S s e Q R E go => ?_
  refine te_part (k := fun x S1 => FC.ofO ((isFT S1 x).map FC.T.bl) S1) R E go fun r1 t S1 v H1 x1 R1 E1 q1 go1 => ?_
  obtain ⟨z, hz, go2⟩ := go1.ofO
  obtain ⟨k, hk, rfl⟩ := Option.map_eq_some_iff.mp hz
  unfold isFT at hk
  split at hk
  · cases q1
    cases hk
    exact ⟨_, .ref (G.ins 0), .type "int", .ref (G.ins 0), false, rfl, .own _, .base (.int _), hi, Go.ok go2 R1 (.bl _)⟩
  · split at hk
    · rename_i hsm
      cases hk
      obtain ⟨fs, hfs⟩ := Option.isSome_iff_exists.mp hsm
      obtain ⟨l, b, dx, fvs, rfl, hl, hs', rfl, hH, e1, e2⟩ := fieldsT_ok R1 q1 hfs
      exact ⟨.ref b, .ref (G.ins 0), .ref (G.ins 0), .ref (G.ins 0), true, rfl, .own _, .base (.ins hH c.cl c.ha c.hn c.htk c.hm), c.me, Go.ok go2 R1 (.bl _)⟩
    · cases hk
end
end FC
end

section
set_option Elab.async false
set_option linter.all false
set_option maxRecDepth 100000
set_option maxHeartbeats 4000000
/-! FcChk: the given text against the clean one: a Bool, and what it is worth. -/
namespace FC
open PySem PySem.Spec PyProof.Rows L2 LamX

structure Pm where
  fns : List Str
  cs : List (Str × T)
  td : Bool := false
  /-- the class: its name, the place of __init__, the methods' places, the fields -/
  cls : Str := ""
  ini : Nat := 0
  mth : List (Str × Nat) := []
  fld : List Str := []
  /-- the place of __len__ -/
  len : Option Nat := none
  /-- the place of __eq__ -/
  eqi : Option Nat := none
abbrev Pm.low (pm : Pm) : Pm := { pm with td := false }
def noArgs : Arguments → Bool
  | ⟨[], [], none, [], [], none, []⟩ => true
  | _ => false

mutual
def T.same : T → T → Bool
  | .non, .non => true
  | .bl a, .bl b => a == b
  | .int a, .int b => decide (a = b)
  | .str a, .str b => decide (a = b)
  | .tup xs, .tup ys => T.sameL xs ys
  | .lst xs, .lst ys => T.sameL xs ys
  | .fro xs, .fro ys => T.sameL xs ys
  | _, _ => false
def T.sameL : List T → List T → Bool
  | [], [] => true
  | x :: xs, y :: ys => T.same x y && T.sameL xs ys
  | _, _ => false
end
mutual
theorem T.same_eq : ∀ {x y : T}, T.same x y = true → x = y
  | .non, y, h => by cases y <;> first | rfl | cases h
  | .bl a, y, h => by cases y <;> first | (cases h; done) | (rw [eq_of_beq (show (a == _) = true from h)])
  | .int a, y, h => by cases y <;> first | (cases h; done) | (rw [of_decide_eq_true (show decide (a = _) = true from h)])
  | .str a, y, h => by cases y <;> first | (cases h; done) | (rw [of_decide_eq_true (show decide (a = _) = true from h)])
  | .tup xs, y, h => by cases y <;> first | (cases h; done) | (rw [T.sameL_eq (show T.sameL xs _ = true from h)])
  | .lst xs, y, h => by cases y <;> first | (cases h; done) | (rw [T.sameL_eq (show T.sameL xs _ = true from h)])
  | .fro xs, y, h => by cases y <;> first | (cases h; done) | (rw [T.sameL_eq (show T.sameL xs _ = true from h)])
  | .loc l, y, h => by cases y <;> cases h
theorem T.sameL_eq : ∀ {x y : List T}, T.sameL x y = true → x = y
  | [], y, h => by cases y <;> first | rfl | cases h
  | x :: xs, y, h => by
    cases y with
    | nil => cases h
    | cons y ys =>
      have h := Bool.and_eq_true_iff.mp (show (T.same x y && T.sameL xs ys) = true from h)
      rw [T.same_eq h.1, T.sameL_eq h.2]
end

def glB (sc : Scope) (x : Str) : Bool := decide (sc.names.lookup x = some .globalImplicit)
def visB (sc : Scope) (x : Str) : Bool := decide (sc.names.lookup x = some .local) || decide (sc.names.lookup x = some .cell) || decide (sc.names.lookup x = some .free)
def locB (sc : Scope) (x : Str) : Bool := decide (sc.names.lookup x = some .local)
def locC (cl : Str → Bool) (sc : Scope) (x : Str) : Bool := locB sc x || (cl x && decide (sc.names.lookup x = some .cell))
def atB (N : List Str) (i : Nat) (x : Str) : Bool := decide (N[i]? = some x)
def notSl : Expr → Bool | .Slice .. => false | _ => true
def notSet : Expr → Bool | .Set .. => false | _ => true
def isOp (o : Operator) (b : BOp) : Bool := decide (o = binOp b)
def isCo (o : CmpOp) (b : COp) : Bool := decide (o = cmpOp b)
def dbg (x : Str) : Bool := (x == ("__debug__" : Str)) || (x == ("__classdict__" : Str))
def cstB (pm : Pm) (sc : Scope) : T → Expr → Bool
  | t, .Constant (.int i) _ _ => T.same (.int i) t
  | t, .Constant (.str i) _ _ => T.same (.str i) t
  | t, .Constant (.bool i) _ _ => T.same (.bl i) t
  | t, .Constant .none _ _ => T.same .non t
  | t, .Name x _ => glB sc x && !dbg x && (match pm.cs.lookup x with | some u => T.same u t | none => false)
  | _, _ => false
def nonE : E → Bool | .cst .non => true | _ => false
mutual
def chkP (cl : Str → Bool) (N : List Str) (sc : Scope) : P → Expr → Bool
  | .nm i, e => match e with
    | .Name x _ => atB N i x && locC cl sc x
    | _ => false
  | .tp ps, e => match e with
    | .Tuple es _ _ => noStar es && decide (es.length = ps.length) && chkPs cl N sc ps es
    | _ => false
def chkPs (cl : Str → Bool) (N : List Str) (sc : Scope) : List P → List Expr → Bool
  | [], es => match es with | [] => true | _ => false
  | p :: ps, es => match es with
    | e :: es => chkP cl N sc p e && chkPs cl N sc ps es
    | _ => false
end
def ownN (N : List Str) (own : List Nat) : List (Str × Nat) := own.map fun i => (N.getD i "", i)
theorem ownN_snd (N : List Str) (own : List Nat) : (ownN N own).map (·.2) = own := by
  unfold ownN
  rw [List.map_map]
  exact List.map_id' own
def isTup : Expr → Bool | .Tuple .. => true | _ => false
def plainT : Expr → Bool
  | .UnaryOp .Not _ _ => false
  | .BoolOp .. => false
  | .IfExp .. => false
  | .Compare .. => false
  | _ => true

def varB (N : List Str) (i : Nat) (sc : Scope) : Expr → Bool
  | .Name x _ => atB N i x && visB sc x && !dbg x
  | _ => false
mutual
def chkE : Pm → List Str → E → Scope → Expr → Bool
  | pm, N, .var i, sc, e => match e with
    | .Name x _ => atB N i x && visB sc x && !dbg x
    | _ => false
  | pm, N, .cst t, sc, e => cstB pm sc t e
  | pm, N, .bin op _ a b, sc, e => match e with
    | .BinOp x o y _ => isOp o op && chkE pm N a sc x && chkE pm N b sc y
    | _ => false
  | pm, N, .neg a, sc, e => match e with
    | .UnaryOp .USub x _ => chkE pm N a sc x
    | _ => false
  | pm, N, .cmp op a b, sc, e => match e with
    | .Compare x [o] [y] _ => isCo o op && !behindInMarks (cmpOp op) y && chkE pm N a sc x && chkE pm N b sc y
    | _ => false
  | pm, N, .chain o1 o2 a b c, sc, e => match e with
    | .Compare x [p, q] [y, z] _ => isCo p o1 && isCo q o2 && !behindInMarks (cmpOp o2) z && chkE pm N a sc x && chkE pm N b sc y && chkE pm N c sc z
    | _ => false
  | pm, N, .and a b, sc, e => match e with
    | .BoolOp .And [x, y] _ => chkE pm N a sc x && chkE pm N b sc y
    | .BoolOp .And (x :: y :: z :: r) p => chkE pm N a sc x && chkE pm N b sc (.BoolOp .And (y :: z :: r) p)
    | _ => false
  | pm, N, .or a b, sc, e => match e with
    | .BoolOp .Or [x, y] _ => chkE pm N a sc x && chkE pm N b sc y
    | .BoolOp .Or (x :: y :: z :: r) p => chkE pm N a sc x && chkE pm N b sc (.BoolOp .Or (y :: z :: r) p)
    | _ => false
  | pm, N, .not a, sc, e => match e with
    | .UnaryOp .Not x _ => chkE pm N a sc x
    | _ => false
  | pm, N, .ite c a b, sc, e => match e with
    | .IfExp t x y _ => chkT pm N c sc t && chkE pm N a sc x && chkE pm N b sc y
    | _ => false
  | pm, N, .tup es, sc, e => match e with
    | .Tuple xs _ _ => noStar xs && chkEs pm N es sc xs
    | _ => false
  | pm, N, .lst _ es, sc, e => match e with
    | .List xs _ => noStar xs && chkEs pm N es sc xs
    | _ => false
  | pm, N, .idx a b, sc, e => match e with
    | .Subscript x y _ => notSl y && chkE pm N a sc x && chkE pm N b sc y
    | _ => false
  | pm, N, .slc _ a hl hh lo hi, sc, e => match e with
    | .Subscript x (.Slice l h none _) _ => chkE pm N a sc x && (match hl, l with | true, some l => chkE pm N lo sc l | false, none => true | _, _ => false) && (match hh, h with | true, some l => chkE pm N hi sc l | false, none => true | _, _ => false)
    | _ => false
  | pm, N, .bfn f _ es, sc, e => match e with
    | .Call (.Name x _) (y :: ys) [] _ => decide (f = .rng) && (match y, ys with
        | .Call (.Name z _) [w] [] _, [] => decide (x = "list") && glB sc "list" && decide (z = "range") && glB sc "range" && noStar [w] && chkEs pm N es sc [w]
        | _, _ => false) || decide (bfName f ≠ "") && decide (x = bfName f) && glB sc x && noStar (y :: ys) && chkEs pm N es sc (y :: ys)
    | _ => false
  | pm, N, .met f _ o es, sc, e => match e with
    | .Call (.Attribute q x apos) (y :: ys) [] pos => decide (metName f ≠ "") && decide (x = metName f) && noStar (y :: ys) && decide (ys.length < 20) && baseOk q && (apos.endLine == pos.line) && chkE pm N o sc q && chkEs pm N es sc (y :: ys)
    | _ => false
  | pm, N, .isi ty a, sc, e => match e with
    | .Call (.Name x _) [y, .Name z _] [] _ => decide (x = "isinstance") && glB sc "isinstance" && decide (z = Str.ofString (tyName ty)) && glB sc (Str.ofString (tyName ty)) && noStar [y] && chkE pm N a sc y
    | _ => false
  | pm, N, .call _ i es, sc, e => match e with
    | .Call (.Name x _) (y :: ys) [] _ => decide (pm.fns[i]? = some x) && glB sc x && !dbg x && noStar (y :: ys) && chkEs pm N es sc (y :: ys)
    | .Call (.Name x _) [] [] _ => decide (pm.fns[i]? = some x) && glB sc x && !dbg x && chkEs pm N es sc []
    | _ => false
  | pm, N, .comp _ own elt p k i1 i2 hc c, sc, e => match e with
    | .ListComp elt' [⟨tg, iter, ifs, 0⟩] scope _ => blkC N sc scope (ownN N own) && (p.slots.all fun i => decide (i ∈ own)) && chkP (fun x => scope.names.lookup x == some .cell) N (relS scope sc) p tg && notSet iter &&
      (match k, iter with
        | .of, it => nonE i2 && chkE pm N i1 sc it
        | .range1, .Call (.Name x _) [a] [] _ => nonE i2 && decide (x = "range") && glB sc "range" && noStar [a] && chkE pm N i1 sc a
        | .range2, .Call (.Name x _) [a, b] [] _ => decide (x = "range") && glB sc "range" && noStar [a, b] && chkE pm N i1 sc a && chkE pm N i2 sc b
        | .enum, .Call (.Name x _) [a] [] _ => nonE i2 && decide (x = "enumerate") && glB sc "enumerate" && isTup tg && noStar [a] && chkE pm N i1 sc a
        | _, _ => false) &&
      (match hc, ifs with
        | true, [t] => chkT pm N c (relS scope sc) t
        | false, [] => true
        | _, _ => false) && chkE pm N elt (relS scope sc) elt'
    | _ => false
  | pm, N, .told a, sc, e => match e with
    | .Call (.Name x _) [.Lambda params body scope _] [] _ => pm.td && decide (x = "_law_told") && glB sc "_law_told" && noArgs params && lamSB sc scope && chkE pm.low N a scope body
    | _ => false
  | pm, N, .fld a x, sc, e => match e with
    | .Attribute q y _ => decide (pm.cls ≠ "") && decide (y = x) && decide (x ∈ pm.fld) && baseOk q && chkE pm N a sc q
    | _ => false
  | pm, N, .meth i m o es, sc, e => match e with
    | .Call (.Attribute q x apos) ys [] pos => decide (pm.cls ≠ "") && decide (x = m) && decide (pm.mth.lookup m = some i) && noStar ys && decide (ys.length < 20) && baseOk q && (apos.endLine == pos.line) && chkE pm N o sc q && chkEs pm N es sc ys
    | _ => false
  | pm, N, .make i es, sc, e => match e with
    | .Call (.Name x _) (y :: ys) [] _ => decide (pm.cls ≠ "") && decide (x = pm.cls) && decide (i = pm.ini) && glB sc x && !dbg x && noStar (y :: ys) && chkEs pm N es sc (y :: ys)
    | _ => false
  | pm, N, .size i a, sc, e => match e with
    | .Call (.Name x _) [y] [] _ => decide (x = "len") && decide (pm.len = some i) && glB sc "len" && noStar [y] && chkE pm N a sc y
    | _ => false
  | pm, N, .comp2 own p i1 j v, sc, e => match e with
    | .ListComp elt' [⟨tg, iter, [], 0⟩, ⟨tg1, iter1, [], 0⟩] scope _ => blkC N sc scope (ownN N own) && (p.slots.all fun i => decide (i ∈ own)) && decide (v ∈ own) && chkP (fun x => scope.names.lookup x == some .cell) N (relS scope sc) p tg && notSet iter && notSet iter1 &&
      chkE pm N i1 sc iter && varB N j (relS scope sc) iter1 && chkP (fun x => scope.names.lookup x == some .cell) N (relS scope sc) (.nm v) tg1 && varB N v (relS scope sc) elt'
    | _ => false
  | pm, N, .eqo i a b, sc, e => match e with
    | .Compare x [.Eq] [y] _ => decide (pm.eqi = some i) && !behindInMarks .Eq y && chkE pm N a sc x && chkE pm N b sc y
    | _ => false
  | pm, N, .isF a, sc, e => match e with
    | .Call (.Name x _) [y, .Name z _] [] _ => decide (pm.eqi ≠ none) && decide (pm.cls ≠ "") && decide (x = "isinstance") && glB sc "isinstance" && decide (z = pm.cls) && glB sc z && !dbg z && noStar [y] && chkE pm N a sc y
    | _ => false
def chkT : Pm → List Str → E → Scope → Expr → Bool
  | pm, N, .and a b, sc, e => match e with
    | .BoolOp .And [x, y] _ => chkT pm N a sc x && chkT pm N b sc y
    | .BoolOp .And (x :: y :: z :: r) p => chkT pm N a sc x && chkT pm N b sc (.BoolOp .And (y :: z :: r) p)
    | _ => false
  | pm, N, .or a b, sc, e => match e with
    | .BoolOp .Or [x, y] _ => chkT pm N a sc x && chkT pm N b sc y
    | .BoolOp .Or (x :: y :: z :: r) p => chkT pm N a sc x && chkT pm N b sc (.BoolOp .Or (y :: z :: r) p)
    | _ => false
  | pm, N, .not a, sc, e => match e with
    | .UnaryOp .Not x _ => chkT pm N a sc x
    | _ => false
  | pm, N, .cmp op a b, sc, e => match e with
    | .Compare x [o] [y] _ => isCo o op && !behindInMarks (cmpOp op) y && chkE pm N a sc x && chkE pm N b sc y
    | _ => false
  | pm, N, .chain o1 o2 a b c, sc, e => match e with
    | .Compare x [p, q] [y, z] _ => isCo p o1 && isCo q o2 && !behindInMarks (cmpOp o2) z && chkE pm N a sc x && chkE pm N b sc y && chkE pm N c sc z
    | _ => false
  | pm, N, .eqo i a b, sc, e => match e with
    | .Compare x [.Eq] [y] _ => decide (pm.eqi = some i) && !behindInMarks .Eq y && chkE pm N a sc x && chkE pm N b sc y
    | _ => false
  | pm, N, .isF a, sc, e => match e with
    | .Call (.Name x _) [y, .Name z _] [] _ => decide (pm.eqi ≠ none) && decide (pm.cls ≠ "") && decide (x = "isinstance") && glB sc "isinstance" && decide (z = pm.cls) && glB sc z && !dbg z && noStar [y] && chkE pm N a sc y
    | _ => false
  | pm, N, .var i, sc, e => match e with
    | .Name x _ => atB N i x && visB sc x && !dbg x
    | _ => false
  | pm, N, .idx a b, sc, e => match e with
    | .Subscript x y _ => notSl y && chkE pm N a sc x && chkE pm N b sc y
    | _ => false
  | pm, N, .bfn f _ es, sc, e => match e with
    | .Call (.Name x _) (y :: ys) [] _ => decide (bfName f ≠ "") && decide (x = bfName f) && glB sc x && noStar (y :: ys) && chkEs pm N es sc (y :: ys)
    | _ => false
  | pm, N, .isi ty a, sc, e => match e with
    | .Call (.Name x _) [y, .Name z _] [] _ => decide (x = "isinstance") && glB sc "isinstance" && decide (z = Str.ofString (tyName ty)) && glB sc (Str.ofString (tyName ty)) && noStar [y] && chkE pm N a sc y
    | _ => false
  | pm, N, .call _ i es, sc, e => match e with
    | .Call (.Name x _) (y :: ys) [] _ => decide (pm.fns[i]? = some x) && glB sc x && !dbg x && noStar (y :: ys) && chkEs pm N es sc (y :: ys)
    | .Call (.Name x _) [] [] _ => decide (pm.fns[i]? = some x) && glB sc x && !dbg x && chkEs pm N es sc []
    | _ => false
  | _, _, _, _, _ => false
def chkEs : Pm → List Str → List E → Scope → List Expr → Bool
  | pm, N, [], _, xs => match xs with | [] => true | _ => false
  | pm, N, a :: r, sc, xs => match xs with
    | x :: xs => chkE pm N a sc x && chkEs pm N r sc xs
    | _ => false
end

def notComp : Expr → Bool | .ListComp .. => false | .SetComp .. => false | .DictComp .. => false | _ => true
theorem swaps_no {e : Expr} (h : notComp e = true) (t : Option Expr) (l : Nat) (env : PySem.Env) : swapsWith e t l env = pure false := by
  cases e <;> first | rfl | exact absurd (show false = true from h) Bool.false_ne_true
theorem plain_pt {X : Cx} {e : Expr} (h : plainT e = true) : ∀ whole, isTrue e X.env whole = (do let v ← whole; standAt e.pos; holding [v] (truthy v)) := fun w => by
  cases e <;> first
    | rfl
    | exact absurd (show false = true from h) Bool.false_ne_true
    | skip
  rename_i op x p
  cases op <;> first | rfl | exact absurd (show false = true from h) Bool.false_ne_true
/-- what stands around the telling -/
structure TermW (G : Gm) (K : PySem.W.Frag) (mg : Str → Option Value) : Prop where
  isx : ∀ c, c < 6 → ExcC K (G.exc c)
  nm : ∀ c, c < 6 → mg (excName c) = some (.ref (G.exc c))
  kit : ∀ c c', c < 6 → c' < 6 → PySem.W.kitOne K (.ref (G.exc c)) (.ref (G.exc c')) = some (decide (c = c'))
  val : ∀ c, c < 6 → PySem.W.kitOne K (.ref (G.exc c)) (.type "ValueError") = some true
  b1 : mg "isinstance" = none
  b2 : mg "sum" = none
  b3 : mg "int" = none
  b4 : mg "ValueError" = none
def Nt : List Str := ["_law_e", "_law_flags", "_law_kinds", "_law_flag"]
/-- the text of the def's body -/
def isB (sc : Scope) (x : Str) : Expr → Bool
  | .Call (.Name i _) [.Name v _, .Name c _] [] _ => decide (i = "isinstance") && decide (v = "_law_e") && decide (c = x) && glB sc x && glB sc "isinstance" && locB sc "_law_e"
  | _ => false
def is3B (sc : Scope) (x y z : Str) : Expr → Bool
  | .List [a, b, c] _ => isB sc x a && isB sc y b && isB sc z c
  | _ => false
def strB (x : Str) : Expr → Bool
  | .Constant (.str s) _ _ => decide (s = x)
  | _ => false
def t1B (sc : Scope) : Stmt → Bool
  | .Assign [.Name f _] e _ => decide (f = "_law_flags") && locB sc "_law_flags" && is3B sc (excName 0) (excName 1) (excName 2) e
  | _ => false
def t2B (sc : Scope) : Stmt → Bool
  | .Assign [.Name f _] (.BinOp (.Name g _) .Add e _) _ => decide (f = "_law_flags") && decide (g = "_law_flags") && locB sc "_law_flags" && is3B sc (excName 3) (excName 4) (excName 5) e
  | _ => false
def t3B (sc : Scope) : Stmt → Bool
  | .Assign [.Name k _] (.List [a, b, c, d, e, f] _) _ => decide (k = "_law_kinds") && locB sc "_law_kinds" && strB (excName 0) a && strB (excName 1) b && strB (excName 2) c && strB (excName 3) d && strB (excName 4) e && strB (excName 5) f
  | _ => false
def intB (sc : Scope) : Expr → Bool
  | .Call (.Name n _) [.Name g _] [] _ => decide (n = "int") && decide (g = "_law_flag") && glB sc "int" && locB sc "_law_flag"
  | _ => false
def sumB (sc : Scope) : Expr → Bool
  | .Call (.Name u _) [.ListComp elt [⟨.Name g _, .Name f _, [], 0⟩] csc _] [] _ => decide (u = "sum") && decide (g = "_law_flag") && decide (f = "_law_flags") && glB sc "sum" && locB sc "_law_flags" && blkC Nt sc csc [("_law_flag", 3)] && locB (relS csc sc) "_law_flag" && intB (relS csc sc) elt
  | _ => false
def t4B (sc : Scope) : Stmt → Bool
  | .If (.BoolOp .Or [.Compare s [.NotEq] [.Constant (.int one) _ _] _, .UnaryOp .Not i _] _) _ [] _ => sumB sc s && decide (one = 1) && isB sc "ValueError" i
  | _ => false
def idxB (sc : Scope) : Expr → Bool
  | .Call (.Attribute (.Name f _) m ap) [.Constant (.bool true) _ _] [] cp => decide (f = "_law_flags") && decide (m = "index") && (ap.endLine == cp.line) && locB sc "_law_flags"
  | _ => false
def t5B (sc : Scope) : Stmt → Bool
  | .Return (some (.Tuple [e, .Subscript (.Name k _) i _] _ _)) _ => strB "error" e && decide (k = "_law_kinds") && locB sc "_law_kinds" && idxB sc i
  | _ => false
def termB (sc : Scope) : List Stmt → Bool
  | [a, b, c, d, e] => t1B sc a && t2B sc b && t3B sc c && t4B sc d && t5B sc e
  | _ => false
def Nd : List Str := ["_law_deed", "_law_e"]
def toldB (sc : Scope) : List Stmt → Bool
  | [.Try [.Return (some (.Call (.Name a _) [] [] _)) _] [.ExceptHandler (some (.Name e _)) (some n) [.Return (some (.Call (.Name f _) [.Name v _] [] _)) _] _] [] [] _] =>
    decide (a = "_law_deed") && decide (e = "ChainError") && decide (n = "_law_e") && decide (f = "_law_term") && decide (v = "_law_e") && locB sc "_law_deed" && locB sc "_law_e" && glB sc "ChainError" && glB sc "_law_term"
  | _ => false
structure ToldW (G : Gm) (K : PySem.W.Frag) (mg : Str → Option Value) : Prop where
  w : TermW G K mg
  g : ∃ (st : Stmt) (g : Addr) (fd : FuncData), mg "_law_told" = some (.ref g) ∧ L2.Fun K "_law_told" "_law_told" st g fd ∧ L2.Binds K fd ["_law_deed"] [] ∧ FnScope Nd ["_law_deed"] (defScope st) ∧ toldB (defScope st) (defBody st) = true
  t : ∃ (st : Stmt) (g : Addr) (fd : FuncData), mg "_law_term" = some (.ref g) ∧ L2.Fun K "_law_term" "_law_term" st g fd ∧ L2.Binds K fd ["_law_e"] [] ∧ FnScope Nt ["_law_e"] (defScope st) ∧ termB (defScope st) (defBody st) = true
  e : ∃ CS : Addr, mg "ChainError" = some (.ref CS) ∧ ∀ c, c < 6 → PySem.W.exmOne K (.ref (G.exc c)) (.ref CS) = some true

structure LamC (X : Cx) (G : Gm) : Prop where
  ex : ∃ (c Pt : Addr), X.env.code = .ref c ∧ TabB X.base X.mg c Pt ∧ (Pt, X.env.qual ++ "<lambda>") ∈ G.tab ∧ ∀ p ∈ G.tab, p.1 = Pt → p.2 = X.env.qual ++ "<lambda>"
/-! ### the context -/
def blNames : List Str := ["len", "all", "any", "sum", "max", "min", "list", "tuple", "int", "str", "abs", "range", "enumerate", "isinstance", "bool"]
/-- what stands around: own functions, built-ins, constants, exceptions -/
structure Wd (pm : Pm) (G : Gm) (fe : FEnv) (k : Nat) (P : Program) (w : World) (K : PySem.W.Frag) (mg : Str → Option Value) (base : Heap) : Prop where
  fn : ∀ i x, pm.fns[i]? = some x → ∃ fa fd ps, mg x = some (.ref fa) ∧ PySem.W.keepIn K (.ref fa) = true ∧ Binds K fd ps [] ∧ FnOk P w K mg base (L2N.CX P w) k fa fd ps (spOf G fe i)
  bl : ∀ x, x ∈ blNames → mg x = none
  cs : ∀ x t, pm.cs.lookup x = some t → ∃ v u, mg x = some u ∧ RelV v u ∧ ∀ f r H, Rel G.K f r H t v
  mt : ∀ m i, pm.mth.lookup m = some i → ∃ fa fd ps, Meth K (G.ins 0) m fa ∧ Binds K fd ps [] ∧ FnOk P w K mg base (L2N.CX P w) k fa fd ps (spOf G fe i)
  cl : pm.cls ≠ "" → Cls K (G.ins 0) ∧ mg pm.cls = some (.ref (G.ins 0)) ∧ (∀ x ∈ pm.fld, NoAttr K (G.ins 0) x) ∧
    ∃ fa fd ps, Mk K (G.ins 0) fa ∧ Binds K fd ps [] ∧ ((∀ ts S, lowE fe pm.ini ts S = .bad) ∨ ∃ j, j + 1 ≤ k ∧ FnOk P w K mg base (L2N.CX P w) j fa fd ps (spOf G (lowE fe) pm.ini))
  ln : ∀ i, pm.len = some i → ∃ fa fd ps, PySem.W.findIn K (.ref (G.ins 0)) "__len__" = some (some (.ref fa)) ∧ PySem.W.isFn K (.ref fa) = true ∧ Binds K fd ps [] ∧ ((∀ ts S, lowE fe i ts S = .bad) ∨ ∃ j, j + 1 ≤ k ∧ FnOk P w K mg base (L2N.CX P w) j fa fd ps (spOf G (lowE fe) i))
  eq : ∀ i, pm.eqi = some i → C8.InsC K (G.ins 0) ∧ PySem.W.kitOne K (.type "int") (.ref (G.ins 0)) = some false ∧ PySem.W.notFirst K (G.ins 0) (.type "int") = true ∧
    ∃ fa fd ps, PySem.W.findIn K (.ref (G.ins 0)) "__eq__" = some (some (.ref fa)) ∧ PySem.W.isFn K (.ref fa) = true ∧ Binds K fd ps [] ∧ FnOk P w K mg base (L2N.CX P w) k fa fd ps (spOf G fe i)
/-- the context of an expression -/
structure Cxt (pm : Pm) (G : Gm) (fe : FEnv) (k : Nat) (L : Addr) (N : List Str) (X : Cx) (W : WX) (sc : Scope) : Prop where
  hK : X.K = G.K
  hN : X.N = N
  nd : N.Nodup
  hsc : X.env.scope = sc
  fr : Frm X L
  tk : ∀ u s', Air X L W u s' → X.xe u s'
  calm : X.calm = true
  room : Room k X.A
  wd : Wd pm G fe k X.prog X.w X.K X.mg X.base
  lw : pm.td = true → ToldW G X.K X.mg ∧ LamC X G ∧ ∃ j, k = j + 2 ∧ Wd pm.low G (lowE fe) j X.prog X.w X.K X.mg X.base
section
variable {pm : Pm} {G : Gm} {fe : FEnv} {k : Nat} {L : Addr} {N : List Str} {X : Cx} {W : WX} {sc : Scope}
theorem Cxt.gl (c : Cxt pm G fe k L N X W sc) {x : Str} (h : glB sc x = true) : Gl X x := by
  show X.env.scope.names.lookup x = _
  rw [c.hsc]
  exact of_decide_eq_true h
theorem Cxt.vis (c : Cxt pm G fe k L N X W sc) {x : Str} (h : visB sc x = true) : Vis X.env.scope x := by
  rw [c.hsc]
  unfold visB at h
  simp only [Bool.or_eq_true, decide_eq_true_eq] at h
  rcases h with (h | h) | h
  · exact .inl h
  · exact .inr (.inl h)
  · exact .inr (.inr h)
theorem Cxt.loc (c : Cxt pm G fe k L N X W sc) {x : Str} (h : locB sc x = true) : X.env.scope.names.lookup x = some .local := by
  rw [c.hsc]
  exact of_decide_eq_true h
theorem Cxt.locC {cl : Str → Bool} (c : Cxt pm G fe k L N X W sc) (hf : ∀ x, cl x = true → X.fn x = true) {x : Str} (h : FC.locC cl sc x = true) : Loc X.env.scope x ∧ (X.fn x = true ∨ X.env.scope.names.lookup x = some .local) := by
  unfold FC.locC at h
  simp only [Bool.or_eq_true, Bool.and_eq_true, decide_eq_true_eq] at h
  rcases h with h | ⟨h1, h2⟩
  · exact ⟨.inl (c.loc h), .inr (c.loc h)⟩
  · exact ⟨.inr (by rw [c.hsc]; exact h2), .inl (hf x h1)⟩
theorem Cxt.at_ (c : Cxt pm G fe k L N X W sc) {i : Nat} {x : Str} (h : atB N i x = true) : X.N[i]? = some x := by
  rw [c.hN]
  exact of_decide_eq_true h
theorem Cxt.bl (c : Cxt pm G fe k L N X W sc) {x : Str} (h : x ∈ blNames) : X.mg x = none := c.wd.bl x h
theorem Cxt.ndX (c : Cxt pm G fe k L N X W sc) : X.N.Nodup := by rw [c.hN]; exact c.nd
theorem Cxt.units (c : Cxt pm G fe k L N X W sc) : X.A.units + 64 < cLine := c.room.units
/-- within a comprehension -/
theorem Cxt.blk (c : Cxt pm G fe k L N X W sc) (s0 : L2.St) (s : Shared) (H : Hp) (scope : Scope) (C : Addr) (cl : List (Str × Addr)) (fp : List Addr) (xe : Value → Shared → Prop)
    (tk : ∀ u s', Air ((X.blk s H scope (compEnvC scope cl C X.env) fp).wish xe) L (fun cls d _ H' => W cls d s0 H') u s' → xe u s') :
    Cxt pm G fe k L N ((X.blk s H scope (compEnvC scope cl C X.env) fp).wish xe) (fun cls d _ H' => W cls d s0 H') (relS scope sc) :=
  ⟨c.hK, c.hN, c.nd, by rw [← c.hsc]; rfl, ⟨c.fr.st, c.fr.fr⟩, tk, c.calm, c.room, c.wd, fun h => let ⟨a, ⟨c1, p1, b1, b2, b3, b4⟩, d⟩ := c.lw h; ⟨a, ⟨c1, p1, b1, b2, b3, b4⟩, d⟩⟩
mutual
theorem chkP_ok {cl : Str → Bool} (c : Cxt pm G fe k L N X W sc) (hf : ∀ x, cl x = true → X.fn x = true) : ∀ {p : P} {e : Expr}, chkP cl N sc p e = true → PG X e (TGof G p)
  | .nm i, e, h => by
    unfold chkP at h
    split at h
    · have h := Bool.and_eq_true_iff.mp h
      have hl := c.locC hf h.2
      exact pg_nmF c.ndX (c.at_ h.1) hl.1 hl.2
    · cases h
  | .tp ps, e, h => by
    unfold chkP at h
    split at h
    · simp only [Bool.and_eq_true, decide_eq_true_eq] at h
      exact pg_tpF c.hK c.calm h.1.1 h.1.2 (chkPs_ok c hf h.1.1 h.2)
    · cases h
theorem chkPs_ok {cl : Str → Bool} (c : Cxt pm G fe k L N X W sc) (hf : ∀ x, cl x = true → X.fn x = true) : ∀ {p : List P} {e : List Expr}, noStar e = true → chkPs cl N sc p e = true → PGs X e (TGsof G p)
  | [], e, _, h => by
    unfold chkPs at h
    split at h
    · exact pgs_nilF
    · cases h
  | p :: ps, e, n, h => by
    unfold chkPs at h
    split at h
    · have h := Bool.and_eq_true_iff.mp h
      exact pgs_consF n (chkP_ok c hf h.1) (chkPs_ok c hf (noStar_tail n) h.2)
    · cases h
end
theorem cst_ok (c : Cxt pm G fe k L N X W sc) {t : T} {e : Expr} (h : cstB pm sc t e = true) : PE X e (TEof G W (evE fe (.cst t))) := by
  unfold cstB at h
  split at h
  · rw [← T.same_eq h]; exact pe_cstF pe_int fun _ _ _ => .int _
  · rw [← T.same_eq h]; exact pe_cstF pe_str fun _ _ _ => .str _
  · rw [← T.same_eq h]; exact pe_cstF pe_bl fun _ _ _ => .bl _
  · rw [← T.same_eq h]; exact pe_cstF pe_non fun _ _ _ => .non
  · simp only [Bool.and_eq_true] at h
    obtain ⟨⟨h1, h2⟩, h3⟩ := h
    split at h3
    · rename_i u hu
      rw [← T.same_eq h3]
      obtain ⟨v, w, m, r, rel⟩ := c.wd.cs _ _ hu
      have hd : ∀ x : Str, (!dbg x) = true → (x == ("__debug__" : Str)) = false := fun x z => by
        unfold dbg at z
        simp only [Bool.not_eq_true', Bool.or_eq_false_iff] at z
        exact z.1
      exact pe_cstF (pe_glob (c.gl h1) m r (hd _ h2)) rel
    · cases h3
  · cases h
theorem dbg_ok {x : Str} (h : (!dbg x) = true) : (x == ("__debug__" : Str)) = false ∧ (x == ("__classdict__" : Str)) = false := by
  unfold dbg at h
  simp only [Bool.not_eq_true', Bool.or_eq_false_iff] at h
  exact h
theorem chain_reads {o1 o2 : COp} {r1 r2 : R2} {ea eb ec : E} (hK : X.K = G.K)
    (k1 : ∀ f r H S x y u v Q z, Rl G f r H S → Rel G.K f r H x u → Rel G.K f r H y v → cmpT o1 S x y = some z → Q (.bl z) H → r1 u v H Q)
    (k2 : ∀ f r H S x y u v Q z, Rl G f r H S → Rel G.K f r H x u → Rel G.K f r H y v → cmpT o2 S x y = some z → Q (.bl z) H → r2 u v H Q)
    (s : L2.St) (H : Hp) (Q : VK) (h : TEof G W (evE fe (.chain o1 o2 ea eb ec)) s H Q) : tChain r1 r2 (TEof G W (evE fe ea)) (TEof G W (evE fe eb)) (TEof G W (evE fe ec)) s H Q := by
  obtain ⟨f, r, e, S, R, E, go⟩ := h
  refine te_part R E go fun ra t S1 v H1 x1 R1 E1 q1 go1 => ?_
  refine te_part R1 E1 go1 fun rb u S2 w H2 x2 R2 E2 q2 go2 => ?_
  have go2 : Go G W f (rT G f) rb H2 s (match cmpT o1 S2 t u with | some true => (evE fe ec e S2).bind fun z S3 => FC.ofO ((cmpT o2 S3 u z).map .bl) S3 | some false => .ok (.bl false) S2 | none => .bad) Q := go2
  cases hk : cmpT o1 S2 t u with
  | none => rw [hk] at go2; exact go2.elim
  | some k =>
    rw [hk] at go2
    refine k1 f rb H2 S2 t u v w _ k R2 (q1.ext R1 x2) q2 hk ⟨k, rfl, ?_⟩
    cases k with
    | false => exact iteF (Go.ok go2 R2 (.bl _))
    | true =>
      refine iteT ?_
      refine te_part R2 E2 go2 fun rc z S3 y H3 x3 R3 E3 q3 go3 => ?_
      obtain ⟨zz, hz, go4⟩ := go3.ofO
      obtain ⟨k', hk', rfl⟩ := Option.map_eq_some_iff.mp hz
      exact k2 f rc H3 S3 u z w y Q k' R3 (q2.ext R2 x3) q3 hk' (Go.ok go4 R3 (.bl _))
theorem not_true {b : Bool} (h : (!b) = true) : b = false := by simpa using h
theorem folded_ok {e : Expr} (h : notSet e = true) (env : PySem.Env) : ∀ x, foldedSetIterable e env x = pure x := fun x => by
  cases e <;> first | rfl | exact absurd (show false = true from h) Bool.false_ne_true
theorem nonE_eq {e : E} (h : nonE e = true) : e = .cst .non := by
  unfold nonE at h
  split at h
  · rfl
  · cases h
end
end FC
end

section
set_option Elab.async false
set_option linter.all false
set_option maxRecDepth 100000
set_option maxHeartbeats 4000000
/-! FcHot: while an exception is handled: the end of a list's walk, sum, a comprehension over a list. -/
namespace FC
open PySem PySem.Spec PyProof.Rows L2 LamX HotX L2H
section
variable {prog : Program} {w : World} {A : Around} {E : Value → Shared → Prop} {s : Shared}
theorem list_end_hot {it l x1 : Addr} {i : Nat} {items : Array Value} {Q : Option Value → Shared → Prop} (hot : HotAt A x1 s.heap) (ne : x1 ≠ it) (hit : s.heap.IsListIter it l i) (hl : s.heap.IsList l items) (hx : items[i]? = none)
    (hQ : ∀ h', (∀ b o, b ≠ it → s.heap.get? b = some o → h'.get? b = some o) → Q none { s with heap := h' }) : wpAny (model prog w) A (pyNext (.ref it)) Q E s := by
  obtain ⟨hh, o1, vs1, h1, d1, c1⟩ := hot
  obtain ⟨oi, hoi, _, di⟩ := id hit
  obtain ⟨ol, hol, _, nl, dl⟩ := hl
  unfold pyNext
  refine wpAny_bind (wpAny_attempt (wpAny_callSpecial?_slot (name := Str.ofString "__next__") hit.typeIs slot_listiter_next (wpAny_call_entry slot_listiter_next hit.typeIs entry_listiter_next ?_ (args_listiter_next _))))
  show wpAny _ _ (field (.ref it) 0 >>= _) _ _ s
  refine wpAny_bind (wpAny_field hoi di (x := .ref l) rfl ?_)
  show wpAny _ _ (if (Value.ref l == Value.none) = true then _ else _) _ _ s
  rw [if_neg (show ¬ ((Value.ref l == Value.none) = true) from Bool.false_ne_true)]
  show wpAny _ _ (field (.ref it) 1 >>= _) _ _ s
  refine wpAny_bind (wpAny_field hoi di (x := .int i 0) rfl ?_)
  show wpAny _ _ (seqItems? (.ref l) >>= _) _ _ s
  refine wpAny_bind (wpAny_seqItems hol dl ?_)
  simp only [Int.toNat_natCast, hx]
  refine wpAny_bind (wpAny_rule (wpAny_bind (wpAny_setField hoi di (by simp) ?_)))
  show wpAny _ _ (newExc (.type "StopIteration") [] >>= _) _ _ _
  refine wpAny_bind ?_
  simp only [newExc, newTuple]
  refine wpAny_bind (wpAny_newObj_type ?_ (by size_fits))
  refine wpAny_bind (m := firstArgMember _ _) (wpAny_of_eq (a := Value.none) (by first | rfl | (simp only [firstArgMember]; rfl)) ?_)
  refine wpAny_newObj_type ?_ (by size_fits)
  have sb : ∀ {f : Obj → Obj} (b : Addr) (o : Obj), b ≠ it → s.heap.get? b = some o → (s.heap.update it f).get? b = some o := fun {f} b o hb e => (Heap.get?_update_other _ _ (Ne.symm hb)).trans e
  refine raiseNew_hot ⟨hh, o1, vs1, Heap.get?_push_of_some _ (Heap.get?_push_of_some _ (sb x1 o1 ne h1)), d1, c1⟩ (Nat.ne_of_lt (Heap.lt_size (Heap.get?_push_of_some _ (sb x1 o1 ne h1)))) (Heap.get?_push_size _ rfl) rfl (by first | (simp; done) | (simp; omega) | (simp only [Array.size_append]; simp; omega)) ?_
  refine wpAny_bind (wpAny_isInstance (T := "StopIteration") (b := true) ⟨_, Heap.get?_update_self _ (Heap.get?_push_size _ rfl) rfl, rfl⟩ isSubtype_stop ?_)
  refine wpAny_pure (hQ _ fun b o hb e => ?_)
  rw [Heap.get?_update_other _ _ (Nat.ne_of_gt (Heap.lt_size (Heap.get?_push_of_some _ (sb b o hb e))))]
  exact Heap.get?_push_of_some _ (Heap.get?_push_of_some _ (sb b o hb e))
/-- a list's walk -/
theorem walks_hot {it l x1 : Addr} {items : Array Value} {P : Nat → Value → Prop} (hh : A.handled = some (.ref x1)) (ne : x1 ≠ it) (hP : ∀ i (h : i < items.size), P i items[i]) :
    Walks prog w A it [it, l, x1] [it] items.size P (fun i h => h.IsListIter it l i ∧ h.IsList l items ∧ ∃ o vs, h.get? x1 = some o ∧ o.data = .fields vs ∧ vs[2]? = some .none) where
  sub := fun b hb => by simp at hb; simp [hb]
  frame := fun i h h' ⟨a, b, o, vs, c, d, e⟩ k => ⟨a.at fun o e => k it (by simp) o e, by
    obtain ⟨ol, e1, e2, n, e3⟩ := b
    exact ⟨ol, k l (by simp) ol e1, e2, n, e3⟩, o, vs, k x1 (by simp) o c, d, e⟩
  item := fun i s Q E hi ⟨a, b, o, vs, c, d, e⟩ q => by
    refine wpAny_pyNext_list_item a b (x := items[i]) (by simp [hi]) fun h' st' sb => ?_
    have keep : ∀ b o, b ≠ it → s.heap.get? b = some o → h'.get? b = some o := fun b o hb e => (sb.2 b hb).trans e
    have nl : l ≠ it := fun z => by
      obtain ⟨ol, e1, e2, _⟩ := b
      obtain ⟨oi, f1, f2, _⟩ := a
      rw [z, f1] at e1
      cases e1
      rw [f2] at e2
      exact absurd e2 (by decide +kernel)
    refine q items[i] h' s.toks (hP i hi) ⟨st', ?_, o, vs, keep x1 o ne c, d, e⟩ fun b o hb e => keep b o (by simpa using hb) e
    obtain ⟨ol, e1, e2, n, e3⟩ := b
    exact ⟨ol, keep l ol nl e1, e2, n, e3⟩
  done := fun s Q E ⟨a, b, o, vs, c, d, e⟩ q => list_end_hot ⟨hh, o, vs, c, d, e⟩ ne a b (by simp) fun h' k => q h' s.toks fun b o hb e => k b o (by simpa using hb) e
  self := fun i s Q E ⟨a, _, _⟩ q => wpAny_pyIter_listiter a q
theorem sum_hot {l x1 : Addr} {its : List Value} {ns : List Int} {Q : Value → Shared → Prop} (hot : HotAt A x1 s.heap) (hl : s.heap.IsList l its.toArray) (hi : IntsAre its ns) (hs : ∀ n ∈ ns, 0 ≤ n ∧ n ≤ 1) (hz : ns.length ≤ 1000)
    (h : ∀ h' tk t', (∀ b o, s.heap.get? b = some o → h'.get? b = some o) → Q (.int ns.sum t') { s with heap := h', toks := tk }) : wpAny (model prog w) A (call (.builtin "sum") [.ref l]) Q E s := by
  obtain ⟨hh, o1, vs1, h1, d1, c1⟩ := hot
  refine PySem.call_sum_walk ?_
  refine wpAny_pyIter_list hl ?_
  have ne : x1 ≠ s.heap.objs.size := Nat.ne_of_lt (Heap.lt_size h1)
  have len : its.length = ns.length := hi.length
  have pre : ∀ j, j ≤ ns.length → preSum (fun i => ns.getD i 0) j = (ns.take j).sum := fun j => by
    induction j with
    | zero => intro _; rfl
    | succ j ih =>
      intro hj
      show preSum _ j + ns.getD j 0 = _
      rw [ih (by omega), List.take_succ, List.getElem?_eq_getElem (show j < ns.length from by omega), List.getD_eq_getElem?_getD, List.getElem?_eq_getElem (show j < ns.length from by omega)]
      simp only [Option.toList_some, Option.getD_some, List.sum_append, List.sum_cons, List.sum_nil]
      omega
  have bound : ∀ j, j ≤ ns.length → 0 ≤ (ns.take j).sum ∧ (ns.take j).sum ≤ j := fun j => by
    induction j with
    | zero => intro _; simp
    | succ j ih =>
      intro hj
      have b := ih (by omega)
      have m := hs (ns[j]) (List.getElem_mem _)
      rw [List.take_succ, List.getElem?_eq_getElem (show j < ns.length from by omega)]
      simp only [Option.toList_some, List.sum_append, List.sum_cons, List.sum_nil]
      omega
  refine ⟨s.heap.objs.size, _, _, _, fun i v => ∃ t, v = .int (ns.getD i 0) t, _, fun i => ns.getD i 0, rfl, walks_hot (l := l) (items := its.toArray) (x1 := x1) (show A.in1.handled = _ from hh) ne (fun i hi' => ?_), ⟨⟨_, Heap.get?_push_size _ rfl, rfl, rfl⟩, ?_, o1, vs1, Heap.get?_push_of_some _ h1, d1, c1⟩, fun b hb => ?_, fun i v hv => hv, fun j hj => ?_, fun h' tk t' k => ?_⟩
  · have hn : i < ns.length := by rw [← len]; simpa using hi'
    obtain ⟨u, hu, t, hv⟩ := (vals_ints hi).get (i := i) (x := V.int ns[i]) (by rw [List.getElem?_map, List.getElem?_eq_getElem hn]; rfl)
    refine ⟨t, ?_⟩
    rw [List.getElem_toArray]
    rw [List.getElem?_eq_getElem (show i < its.length from by omega)] at hu
    rw [Option.some.inj hu, hv, List.getD_eq_getElem?_getD, List.getElem?_eq_getElem hn]
    rfl
  · obtain ⟨ol, e1, e2, n, e3⟩ := hl
    exact ⟨ol, Heap.get?_push_of_some _ e1, e2, n, e3⟩
  · obtain ⟨ol, e1, _⟩ := hl
    rw [Heap.size_push]
    simp only [List.mem_cons, List.not_mem_nil, or_false] at hb
    rcases hb with rfl | rfl | rfl
    · exact Nat.lt_succ_self _
    · exact Nat.lt_succ_of_lt (Heap.lt_size e1)
    · exact Nat.lt_succ_of_lt (Heap.lt_size h1)
  · have hn : j < ns.length := by rw [← len]; simpa using hj
    have m := hs (ns[j]) (List.getElem_mem _)
    have b := bound (j + 1) (by omega)
    rw [← pre (j + 1) (by omega)] at b
    have e : ns.getD j 0 = ns[j] := by rw [List.getD_eq_getElem?_getD, List.getElem?_eq_getElem hn]; rfl
    refine ⟨?_, ?_⟩
    · show InLong (ns.getD j 0)
      rw [e]
      exact ⟨by omega, by omega⟩
    · exact ⟨by omega, by omega⟩
  · have e : preSum (fun i => ns.getD i 0) its.toArray.size = ns.sum := by
      rw [List.size_toArray, len, pre ns.length (Nat.le_refl _), List.take_length]
    rw [e]
    exact h h' tk t' fun b o hb => k b o (by
      intro z
      have z : b = s.heap.objs.size := by simpa using z
      have q := Heap.lt_size hb
      rw [z] at q
      exact Nat.lt_irrefl _ q) (Heap.get?_push_of_some _ hb)
end
end FC
end

section
set_option Elab.async false
set_option linter.all false
set_option maxRecDepth 100000
set_option maxHeartbeats 4000000
/-! FcHotC: a comprehension over a list while an exception is handled. -/
namespace FC
open PySem PySem.Spec PyProof.Rows L2 LamX HotX L2H
theorem upd_upd {H : Hp} {a : Addr} {o u : HO} : upd (upd H a o) a u = upd H a u := by
  funext b
  by_cases h : b = a
  · rw [h, upd_same, upd_same]
  · rw [upd_ne h, upd_ne h, upd_ne h]
section
variable {X : Cx}
def tLcH (K : PySem.W.Frag) (j : Nat) (t0 te : TE) : TE := fun σ H Q => t0 σ H fun v H1 => ∃ a xs, ∃ val : V → V, v = .ref a ∧ SqL K H1 a xs ∧ xs.length ≤ 1000 ∧
  (∀ z ∈ xs, ∀ (σ' : L2.St) (H' : Hp) (Q' : VK), σ'[j]? = some (some z) → Q' (val z) H' → te σ' H' Q') ∧ ∀ D, H1 D = none → Q (.ref D) (upd H1 D (.lst (xs.map val)))
theorem sq_upd {K : PySem.W.Frag} {H : Hp} {a D : Addr} {o : HO} {xs : List V} (hD : H D = none) (h : SqL K H a xs) : SqL K (upd H D o) a xs := by
  rcases h with (h | ⟨u, h⟩) | h
  · exact .inl (.inl (by rw [upd_ne (ne_of_none h hD)]; exact h))
  · exact .inl (.inr ⟨u, by rw [upd_ne (ne_of_none h hD)]; exact h⟩)
  · exact .inr h
theorem pe_lcH {elt iter : Expr} {x : Str} {p1 pos : Pos} {scope : Scope} {j : Nat} {t0 te : TE} (hot : HotC X) (hN : X.N.Nodup) (ok : BlkOk X.N X.env.scope scope [(x, j)]) (hi : PE X iter t0) (hj : X.N[j]? = some x) (hx : (relS scope X.env.scope).names.lookup x = some .local)
    (he : ∀ (s : Shared) (H : Hp) (C : Addr) (cl : List (Str × Addr)) (fp : List Addr), PE (X.blk s H scope (compEnvC scope cl C X.env) fp) elt te) (hs : ∀ x, foldedSetIterable iter X.env x = pure x) :
    PE X (.ListComp elt [⟨.Name x p1, iter, [], 0⟩] scope pos) (tLcH X.K j t0 te) := by
  refine ⟨fun pins s σ H Q I h => ?_⟩
  rw [eval_ListComp]
  have hfree : ∀ y ∈ scope.names, y.2 = .free → ∃ c, X.env.cells.lookup y.1 = some c := fun y hy e => (ok.free y hy e).elim (fun k => I.ok.has _ (.inl k)) fun k => I.ok.has _ (.inr k)
  refine comprehension_at (use := none) rfl hs (closure_ok hfree) ok.kind (fun y hy e => by rw [ok.uniq y hy, e]) (thn (hi.run pins s σ H _ I h) fun xv s1 hx1 => ?_)
  obtain ⟨v, H1, I1, r1, a, xs, val, rfl, hq, hz, hte, q⟩ := hx1
  cases r1
  obtain ⟨its, rv, pl, hz'⟩ := I1.list hq
  refine wpAny_pyIter_list pl.isList ?_
  generalize hit : s1.heap.objs.size = it
  have fit : FpOk X pins H1 it := by rw [← hit]; exact I1.fpOk (Nat.le_refl _) (I1.hok.fresh (Nat.le_refl _))
  generalize hs2 : ({ s1 with heap := s1.heap.push { cls := .type "list_iterator", data := .fields #[.ref a, .int 0 0] } } : Shared) = s2
  have I2 : Inv X pins σ H1 s2 := by rw [← hs2]; exact I1.kept (t' := s1.toks) fun b o e => Heap.get?_push_of_some _ e
  have st2 : s2.heap.IsListIter it a 0 := by rw [← hs2, ← hit]; exact ⟨_, Heap.get?_push_size _ rfl, rfl, rfl⟩
  refine wpAny_newObj_type (newEnv_comp ?_) (Nat.zero_le _)
  generalize hD : s2.heap.objs.size = D
  have hDn : H1 D = none := I2.hok.fresh (Nat.le_of_eq hD)
  generalize hs3 : ({ s2 with heap := s2.heap.push { cls := .type "list", data := .seq ([] : List Value).toArray } } : Shared) = s3
  have h3 : s3.heap = s2.heap.push { cls := .type "list", data := .seq ([] : List Value).toArray } := by rw [← hs3]
  have I3 : Inv X pins σ (upd H1 D (.lst [])) s3 := by
    rw [← hs3]
    refine I2.laid (t' := s2.toks) (fun b o e => Heap.get?_push_of_some _ e) (Nat.le_of_eq hD) ⟨Nat.zero_le _, [], 0, .nil, ?_⟩
    rw [← hD]
    exact Heap.get?_push_size _ rfl
  have ltit : it < s2.heap.objs.size := by
    obtain ⟨o, e, _⟩ := st2
    exact Heap.lt_size e
  have neD : it ≠ D := by rw [← hD]; exact Nat.ne_of_lt ltit
  have f3 : ∀ b ∈ [it], FpOk X pins (upd H1 D (.lst [])) b ∧ b < s3.heap.objs.size := fun b hb => by
    have e : b = it := by simpa using hb
    subst e
    exact ⟨⟨by rw [upd_ne neD]; exact fit.1, fit.2⟩, by rw [h3, Heap.size_push]; exact Nat.lt_succ_of_lt ltit⟩
  have st3 : s3.heap.IsListIter it a 0 := st2.at fun o e => by rw [h3]; exact Heap.get?_push_of_some _ e
  have I4' := block_start I3 ok hN f3
  have hcL : (compEnvC scope (cellsFrom (s3.heap.objs.size + 1) scope.names (cloFrom X.env.cells scope.names [])) s3.heap.objs.size X.env).locals = s3.heap.objs.size := rfl
  have pe := he s3 (upd H1 D (.lst [])) s3.heap.objs.size (cellsFrom (s3.heap.objs.size + 1) scope.names (cloFrom X.env.cells scope.names [])) [it]
  have hsc : (compEnvC scope (cellsFrom (s3.heap.objs.size + 1) scope.names (cloFrom X.env.cells scope.names [])) s3.heap.objs.size X.env).scope = relS scope X.env.scope := rfl
  show codeAny _ _ (.compStart (.ListComp elt [⟨.Name x p1, iter, [], 0⟩] scope pos) 0 (.ref it) (.ref D) (compEnvC scope (cellsFrom (s3.heap.objs.size + 1) scope.names (cloFrom X.env.cells scope.names [])) s3.heap.objs.size X.env))
    (compEnds (model X.prog X.w) X.A X.xe none (EP X pins σ Q) (.ref D) (compEnvC scope (cellsFrom (s3.heap.objs.size + 1) scope.names (cloFrom X.env.cells scope.names [])) s3.heap.objs.size X.env)) { s3 with heap := pushCells (s3.heap.push { cls := .type "dict", data := .dict #[] }) scope.names }
  generalize compEnvC scope (cellsFrom (s3.heap.objs.size + 1) scope.names (cloFrom X.env.cells scope.names [])) s3.heap.objs.size X.env = ce at I4' pe hcL hsc ⊢
  generalize hH3 : upd H1 D (.lst []) = H3 at I3 I4' pe f3
  generalize hs4 : ({ s3 with heap := pushCells (s3.heap.push { cls := .type "dict", data := .dict #[] }) scope.names } : Shared) = s4 at I4' ⊢
  have k34 : ∀ b o, s3.heap.get? b = some o → s4.heap.get? b = some o := fun b o e => by rw [← hs4]; exact pushCells_keeps _ _ _ _ (Heap.get?_push_of_some _ e)
  have st4 : s4.heap.IsListIter it a 0 := st3.at fun o e => k34 _ _ e
  -- the exception that is handled stands
  obtain ⟨px, ⟨hh, v1, e1, c1⟩, hp⟩ := hot
  have P3 := I3.pin px (List.mem_append_left _ hp)
  have I4 : Inv (X.blk s3 H3 scope ce [it]) [px] (wipe σ [j]) H3 s4 := I4'.pins_of fun p hpp => by
    have e : p = px := by simpa using hpp
    subst e
    refine ⟨k34 _ _ P3.1, P3.2.1, fun z => ?_, fun z => ?_, P3.2.2.2.2⟩
    · have lt := Heap.lt_size P3.1
      rw [show p.1 = s3.heap.objs.size from z.trans hcL] at lt
      exact Nat.lt_irrefl _ lt
    · exact (List.mem_cons.mp (I3.stkSub p.1 z)).elim P3.2.2.1 P3.2.2.2.1
  have nex : px.1 ≠ it := fun z => (f3 it (by simp)).1.2.2.2.2.2 px (List.mem_append_left _ hp) z
  generalize hB : X.blk s3 H3 scope ce [it] = Y at pe I4
  have yp : Y.prog = X.prog := by rw [← hB]
  have yw : Y.w = X.w := by rw [← hB]
  have yA : Y.A = X.A := by rw [← hB]
  have yK : Y.K = X.K := by rw [← hB]
  have yE : Y.env = ce := by rw [← hB]
  have yN : Y.N = X.N := by rw [← hB]
  have stat : ∀ {σ' : L2.St} {H' : Hp} {s' : Shared}, Inv Y [px] σ' H' s' → H' it = none → FpOk Y [px] H' it := fun {σ' H' s'} I' hn => by
    subst hB
    refine ⟨hn, (I'.ok.exf it (by simp)).1, I'.ok.exfs it (by simp), .inl (by simp), fun x c e => (I'.ok.exf it (by simp)).2 x c e, fun p hp => ?_⟩
    have e : p = px := by
      rcases List.mem_append.mp hp with z | z
      · exact absurd (show p ∈ ([] : List (Addr × Obj)) from z) (by simp)
      · simpa using z
    rw [e]
    exact nex
  have sq3 : SqL X.K H3 a xs := by rw [← hH3]; exact sq_upd hDn hq
  have it3 : H3 it = none := (f3 it (by simp)).1.1
  have loop : codeAny (model X.prog X.w) X.A (.compLoop (.ListComp elt [⟨.Name x p1, iter, [], 0⟩] scope pos) 0 (.ref it) (.ref D) ce) (compEnds (model X.prog X.w) X.A X.xe none (EP X pins σ Q) (.ref D) ce) s4 := by
    refine compLoop_any (fun n s' => ∃ i, n = xs.length - i ∧ i ≤ xs.length ∧ Inv Y [px] (wipe σ [j]) (upd H1 D (.lst ((xs.take i).map val))) s' ∧ s'.heap.IsListIter it a i) ?_ xs.length ⟨0, by omega, Nat.zero_le _, by rw [List.take_zero, List.map_nil, hH3]; exact I4, st4⟩
    rintro n s5 ⟨i, rfl, hi', I5, st5⟩
    have sq5 : SqL Y.K (upd H1 D (.lst ((xs.take i).map val))) a xs := by rw [yK]; exact sq_upd hDn hq
    obtain ⟨its5, rv5, pl5, _⟩ := I5.list sq5
    have n5 : upd H1 D (.lst ((xs.take i).map val)) it = none := by rw [upd_ne neD]; exact fit.1
    have l5 := rv5.length
    obtain ⟨f0, f1, f2, f3', f4, f5⟩ := stat I5 n5
    by_cases hlt : i < xs.length
    · obtain ⟨u, hu, ru⟩ := rv5.get (i := i) (x := xs[i]) (List.getElem?_eq_getElem hlt)
      refine wpAny_pyNext_list_item st5 pl5.isList (x := u) (by simpa using hu) fun h' st' sb => ?_
      have I6 : Inv Y [px] (wipe σ [j]) (upd H1 D (.lst ((xs.take i).map val))) { s5 with heap := h' } := I5.turned (t' := s5.toks) (fun b o hb e => (sb.2 b hb).trans e) f0 f1 f3' f4 f5
      obtain ⟨oi, e1', c1', d1'⟩ := id st'
      refine go_of (s := { s5 with heap := h' }) e1' c1' d1' (by decide) ?_
      have hxY : Y.env.scope.names.lookup x = some .local := by rw [yE, hsc]; exact hx
      have I6p := I6.pins_of (pins' := [px, (it, oi)]) fun p hpp => by
        rcases List.mem_cons.mp hpp with z | z
        · rw [z]; exact I6.pin px (List.mem_append_right _ (by simp))
        · have e : p = (it, oi) := by simpa using z
          rw [e]
          exact ⟨e1', n5, f1, f2, fun v z => by rw [d1'] at z; cases z⟩
      have p1' := (pg_name (X := Y) (pos := p1) (by rw [yN]; exact hN) (by rw [yN]; exact hj) (.inl hxY) (.inr hxY)).run _ _ _ _ xs[i] u (fun σ' H' => σ' = (wipe σ [j]).set j (some xs[i]) ∧ H' = upd H1 D (.lst ((xs.take i).map val))) I6p ru ⟨rfl, rfl⟩
      rw [yA, yE, yp, yw] at p1'
      refine wpAny_mono p1' (fun _ s7 ⟨σ7, H7, I7, e7, e8⟩ => ?_) fun _ _ z => ?_
      · subst e7 e8
        refine wpAny_tests_nil ?_
        rw [if_pos rfl]
        have hjl : j < (wipe σ [j]).length := by rw [I5.len, yN]; exact (List.getElem?_eq_some_iff.mp hj).1
        have p2 := pe.run _ s7 _ _ (fun y H' => y = val xs[i] ∧ H' = upd H1 D (.lst ((xs.take i).map val))) I7 (hte xs[i] (List.getElem_mem _) _ _ _ (List.getElem?_set_self hjl) ⟨rfl, rfl⟩)
        rw [yA, yE, yp, yw] at p2
        refine wpAny_mono p2 (fun z s8 ⟨y, H8, I8, r8, e9, e10⟩ => ?_) fun _ _ z => ?_
        · subst e9 e10
          have p3 := app_ok (X := Y) (E := notedBy (model X.prog X.w) X.A ce fun e s' => compEnds (model X.prog X.w) X.A X.xe none (EP X pins σ Q) (.ref D) ce (.error e) s') (Q := fun _ s' => ∃ m, m < xs.length - i ∧ ∃ i, m = xs.length - i ∧ i ≤ xs.length ∧ Inv Y [px] (wipe σ [j]) (upd H1 D (.lst ((xs.take i).map val))) s' ∧ s'.heap.IsListIter it a i) I8 (D := D) upd_same (by rw [List.length_map, List.length_take, sizeLine_eq]; omega) r8 fun s9 I9 => ?_
          · rw [yA, yp, yw] at p3
            exact p3
          · refine ⟨xs.length - (i + 1), by omega, i + 1, rfl, hlt, ?_, ?_⟩
            · rw [upd_upd] at I9
              have e : (xs.take i).map val ++ [val xs[i]] = (xs.take (i + 1)).map val := by
                rw [List.take_succ, List.getElem?_eq_getElem hlt, Option.toList_some, List.map_append, List.map_singleton]
              rw [e] at I9
              have I10 := I9.pins_of (pins' := [px]) fun p hpp => I9.pin p (List.mem_append_right _ (by
                have e : p = px := by simpa using hpp
                rw [e]; simp))
              refine I10.weak (by simp) fun k v e => ?_
              by_cases hk : j = k
              · subst hk
                have w := (wipe_some e).2
                exact absurd (by simp) w
              · rw [List.getElem?_set_ne hk]; exact e
            · exact st'.at fun o e => by
                have P9 := I9.pin (it, oi) (List.mem_append_right _ (by simp))
                rw [e1'] at e
                cases e
                exact P9.1
        · subst hB; exact (show False from z).elim
      · subst hB; exact (show False from z).elim
    · have hie : i = xs.length := by omega
      subst hie
      rw [List.take_length] at I5
      have P5 := I5.pin px (List.mem_append_right _ (by simp))
      have hot5 : HotAt X.A px.1 s5.heap := ⟨hh, px.2, v1, P5.1, e1, c1⟩
      refine list_end_hot hot5 nex st5 pl5.isList (by simp; omega) fun h' k => ?_
      have I6 : Inv Y [px] (wipe σ [j]) (upd H1 D (.lst (xs.map val))) { s5 with heap := h' } := by
        rw [List.take_length] at n5 f0
        exact I5.turned (t' := s5.toks) (fun b o hb e => k b o hb e) f0 f1 f3' f4 f5
      subst hB
      have I7 : Inv X pins σ (upd H1 D (.lst (xs.map val))) { s5 with heap := h' } := I3.call' (ch := [it]) I6.os I6.base I6.hok I6.bare fun b hb => ⟨(f3 b hb).1.2.2.2.1, (f3 b hb).1.2.1, (f3 b hb).1.2.2.2.2.1, (f3 b hb).1.2.2.2.2.2⟩
      have nC : upd H1 D (.lst (xs.map val)) ce.locals = none := I6.free
      obtain ⟨m, hn, _⟩ := I6.loc
      obtain ⟨g0, g1, g2, g3, g4, g5⟩ := I3.fpOk (Nat.le_of_eq hcL.symm) nC
      refine ⟨m, hn, fun h'' sb => ?_⟩
      exact ⟨.ref D, _, I7.turned (t' := s5.toks) (fun b o hb e => (sb.2 b hb).trans e) g0 g1 g3 g4 g5, rfl, q D hDn⟩
  exact codeAny_compStart_list loop (wpAny_pyIter_listiter st4 loop)
end
end FC
end

section
set_option Elab.async false
set_option linter.all false
set_option maxRecDepth 100000
set_option maxHeartbeats 8000000
/-! FcTerm: the def that tells the kind of a handled exception. -/
namespace FC
open PySem PySem.Spec PyProof.Rows L2 LamX HotX L2H
section
variable {X : Cx}
theorem call_isH {p : Addr × Obj} {D : Addr} (C : ExcC X.K D) (hp : p ∈ X.pn) (hz : Zc (.ref D) none p.2) (hf : ∃ vs, p.2.data = .fields vs) : CallR X (.builtin "isinstance") (rIsE X.K D p.1) := by
  intro pins s σ H xs us Q I r h
  obtain ⟨c, cv, b, rfl, hcv, e, q⟩ := h
  obtain ⟨u, us', rfl, ru, rr⟩ : ∃ u us', us = u :: us' ∧ RelV (.ref p.1) u ∧ Vals [c] us' := by cases r with | cons a b => exact ⟨_, _, rfl, a, b⟩
  cases ru
  cases rr with
  | cons rt rr =>
    cases rr
    have ec := hcv _ rt
    subst ec
    obtain ⟨hget, _⟩ := I.pin p (List.mem_append_left _ hp)
    obtain ⟨vs, hv⟩ := hf
    have J : PySem.W.InstAt s.heap p.1 p.2 D none := by
      obtain ⟨a, oc, od, oda, osl⟩ := p
      obtain ⟨h1, h2⟩ := hz
      dsimp only at h1 h2 hv
      subst h1 h2 hv
      exact ⟨hget, rfl, rfl, trivial⟩
    exact PySem.W.kia_one (PySem.W.handS_kitx_exc C.hg C.hk C.hs C.hd C.ha C.hn C.ht C.hm) I.kIn J e (fun z => nomatch z) fun tk => ⟨.bl b, H, I.kept (t' := tk) fun _ _ z => z, rfl, q⟩
theorem call_sumH (hot : HotC X) : CallR X (.builtin "sum") (fun vs H Q => ∃ (a : Addr) (ns : List Int), vs = [V.ref a] ∧ SqL X.K H a (ns.map V.int) ∧ (∀ n ∈ ns, 0 ≤ n ∧ n ≤ 1) ∧ ns.length ≤ 1000 ∧ Q (.int ns.sum) H) := by
  intro pins s σ H vs us Q I r h
  obtain ⟨a, ns, rfl, hs, h1, h2, q⟩ := h
  obtain ⟨its, rv, hl, _⟩ := I.list hs
  rw [Vals.ref1 r]
  obtain ⟨x1, ha⟩ := hot.at I
  exact sum_hot ha hl.isList rv.ints h1 h2 fun h' tk t' hk => ⟨.int _, H, I.kept hk, ⟨_, rfl⟩, q⟩
end
section
variable {X : Cx} {G : Gm} {sc : Scope} {c : Nat} {p : Addr × Obj}
structure TermC (X : Cx) (G : Gm) (sc : Scope) (c : Nat) (p : Addr × Obj) : Prop where
  w : TermW G X.K X.mg
  hc : c < 6
  hN : X.N = Nt
  hsc : X.env.scope = sc
  hot : HotC X
  pn : p ∈ X.pn
  hz : Zc (.ref (G.exc c)) none p.2
  hf : ∃ vs, p.2.data = .fields vs
def tIs (a : Addr) (b : Bool) : TE := fun σ H Q => σ[0]? = some (some (.ref a)) ∧ Q (.bl b) H
theorem pe_is (C : TermC X G sc c p) (h1 : locB sc "_law_e" = true) (h2 : glB sc "isinstance" = true) {e : Expr} {v : V} {cv : Value} {b : Bool} {p1 p2 pos : Pos} (he : PE X e (tC v)) (hv : ∀ u, RelV v u → u = cv) (k : PySem.W.kitOne X.K (.ref (G.exc c)) cv = some b) (hn : noStar [e] = true) :
    PE X (.Call (.Name "isinstance" p1) [.Name "_law_e" p2, e] [] pos) (tIs p.1 b) := by
  have hg : Gl X "isinstance" := by show X.env.scope.names.lookup _ = _; rw [C.hsc]; exact of_decide_eq_true h2
  have hv1 : Vis X.env.scope "_law_e" := by rw [C.hsc]; exact .inl (of_decide_eq_true h1)
  have hn2 : noStar [Expr.Name "_law_e" p2, e] = true := hn
  have hA : PA X [.Name "_law_e" p2, e] (tCons (tVar 0) (tCons (tC v) tNil)) := pa_cons (pe_var (by rw [C.hN]; rfl) hv1) (pa_cons he pa_nil (starEach_cons hn)) (starEach_cons hn2)
  refine peI (pe_callB (call_isH (C.w.isx c C.hc) C.pn C.hz C.hf) hg C.w.b1 (by decide +kernel) hA (by decide +kernel) (by decide +kernel) (starEach_cons hn2) (plain_tail hn2)) fun s H Q ⟨h0, q⟩ => ?_
  exact ⟨_, h0, v, cv, b, rfl, hv, k, q⟩
theorem pe_isx (C : TermC X G sc c p) (h1 : locB sc "_law_e" = true) (h2 : glB sc "isinstance" = true) {c' : Nat} {x : Str} (hc' : c' < 6) (hx : x = excName c') (h3 : glB sc x = true) {p1 p2 p3 pos : Pos} :
    PE X (.Call (.Name "isinstance" p1) [.Name "_law_e" p2, .Name x p3] [] pos) (tIs p.1 (decide (c = c'))) := by
  subst hx
  have hg : Gl X (excName c') := by show X.env.scope.names.lookup _ = _; rw [C.hsc]; exact of_decide_eq_true h3
  refine pe_is C h1 h2 (v := .ref (G.exc c')) (pe_glob hg (C.w.nm c' hc') rfl ?_) (fun u r => r) (C.w.kit c c' C.hc hc') rfl
  have : ∀ n, (excName n == ("__debug__" : Str)) = false := fun n => by
    match n with
    | 0 => decide +kernel
    | 1 => decide +kernel
    | 2 => decide +kernel
    | 3 => decide +kernel
    | 4 => decide +kernel
    | n + 5 => show (("NothingToUndo" : Str) == _) = false; decide +kernel
  exact this c'
/-- the flags -/
def flg (c : Nat) (l : List Nat) : List V := l.map fun c' => V.bl (decide (c = c'))
theorem same_new {H : Hp} {a : Addr} {o : HO} (h : H a = none) : Same H (upd H a o) := fun b u e => by rw [upd_ne (ne_of_none e h)]; exact e
theorem ord_ok (c : Nat) (hc : c < 6) : (flg c [0, 1, 2, 3, 4, 5])[c]? = some (.bl true) ∧ (∀ (m : Nat) (z : V), m < c → (flg c [0, 1, 2, 3, 4, 5])[m]? = some z → eqV z (.bl true) = false) ∧
    ((flg c [0, 1, 2, 3, 4, 5]).map fun v => match v with | .bl b => (if b then 1 else 0 : Int) | _ => 0).sum = 1 ∧ atI [V.str (excName 0), .str (excName 1), .str (excName 2), .str (excName 3), .str (excName 4), .str (excName 5)] (c : Nat) = some (.str (excName c)) := by
  have key : c = 0 ∨ c = 1 ∨ c = 2 ∨ c = 3 ∨ c = 4 ∨ c = 5 := by omega
  refine ⟨?_, fun m z hm hz => ?_, ?_, ?_⟩
  · rcases key with rfl | rfl | rfl | rfl | rfl | rfl <;> rfl
  · have : m = 0 ∨ m = 1 ∨ m = 2 ∨ m = 3 ∨ m = 4 := by omega
    rcases key with rfl | rfl | rfl | rfl | rfl | rfl <;> rcases this with rfl | rfl | rfl | rfl | rfl <;> first | omega | (cases hz; rfl)
  · rcases key with rfl | rfl | rfl | rfl | rfl | rfl <;> rfl
  · rcases key with rfl | rfl | rfl | rfl | rfl | rfl <;> rfl
def bi (v : V) : V := match v with | .bl b => .int (if b then 1 else 0) | v => v
theorem flg_sum (c : Nat) (l : List Nat) : (flg c l).map bi = ((flg c l).map fun v => match v with | .bl b => (if b then 1 else 0 : Int) | _ => 0).map V.int := by
  unfold flg
  simp [bi, List.map_map, Function.comp_def]
theorem iteF0 {A B : Prop} (h : B) : if false = true then A else B := by rw [if_neg Bool.false_ne_true]; exact h
theorem is_of (C : TermC X G sc c p) {c' : Nat} (hc' : c' < 6) {e : Expr} (h : isB sc (excName c') e = true) : PE X e (tIs p.1 (decide (c = c'))) ∧ noStar [e] = true := by
  unfold isB at h
  split at h
  · simp only [Bool.and_eq_true, decide_eq_true_eq] at h
    obtain ⟨⟨⟨⟨⟨rfl, rfl⟩, e3⟩, h4⟩, h5⟩, h6⟩ := h
    exact ⟨pe_isx C h6 h5 hc' e3 (by rw [e3]; exact h4), rfl⟩
  · cases h
theorem is_val (C : TermC X G sc c p) {e : Expr} (h : isB sc "ValueError" e = true) : PE X e (tIs p.1 true) ∧ plainT e = true := by
  unfold isB at h
  split at h
  · simp only [Bool.and_eq_true, decide_eq_true_eq] at h
    obtain ⟨⟨⟨⟨⟨rfl, rfl⟩, rfl⟩, h4⟩, h5⟩, h6⟩ := h
    have hg : Gl X "ValueError" := by show X.env.scope.names.lookup _ = _; rw [C.hsc]; exact of_decide_eq_true h4
    exact ⟨pe_is C h6 h5 (v := .ty "ValueError") (pe_bltn hg C.w.b4 (u := .type "ValueError") (by decide +kernel) rfl (by decide +kernel) (by decide +kernel)) (fun u r => r) (C.w.val c C.hc) rfl, rfl⟩
  · cases h
theorem is3_of (C : TermC X G sc c p) {c1 c2 c3 : Nat} (h1 : c1 < 6) (h2 : c2 < 6) (h3 : c3 < 6) {e : Expr} (h : is3B sc (excName c1) (excName c2) (excName c3) e = true) :
    PE X e (fun σ H Q => σ[0]? = some (some (.ref p.1)) ∧ ∀ a, H a = none → Q (.ref a) (upd H a (.lst (flg c [c1, c2, c3])))) ∧ notComp e = true := by
  unfold is3B at h
  split at h
  · rename_i a b d pos
    simp only [Bool.and_eq_true] at h
    obtain ⟨ea, na⟩ := is_of C h1 h.1.1
    obtain ⟨eb, nb⟩ := is_of C h2 h.1.2
    obtain ⟨ed, nd⟩ := is_of C h3 h.2
    have n1 : noStar [a, b, d] = true := by
      cases a <;> first | (cases na; done) | skip
      all_goals (cases b <;> first | (cases nb; done) | exact nd)
    refine ⟨peI (pe_lst (pa_cons ea (pa_cons eb (pa_cons ed pa_nil (starEach_cons nd)) (starEach_cons (noStar_tail n1))) (starEach_cons n1))) fun s H Q ⟨h0, q⟩ => ?_, rfl⟩
    exact ⟨h0, h0, h0, by rw [sizeLine_eq]; exact (by decide : 3 ≤ 16777216), q⟩
  · cases h
theorem vis_of (C : TermC X G sc c p) {x : Str} (h : locB sc x = true) : X.env.scope.names.lookup x = some .local := by rw [C.hsc]; exact of_decide_eq_true h
theorem str_of {x : Str} {e : Expr} (h : strB x e = true) : PE X e (tC (.str x)) ∧ noStar [e] = true := by
  unfold strB at h
  split at h
  · rw [← of_decide_eq_true h]
    exact ⟨pe_str, rfl⟩
  · cases h
theorem tVar_at {i : Nat} {x : Str} (C : TermC X G sc c p) (hi : Nt[i]? = some x) (h : locB sc x = true) (hd : (x == ("__debug__" : Str)) = false) (hcd : (x == ("__classdict__" : Str)) = false) {pos : Pos} : PE X (.Name x pos) (tVar i) :=
  pe_var (by rw [C.hN]; exact hi) (.inl (vis_of C h)) hd hcd
theorem nd_Nt : Nt.Nodup := by decide +kernel
theorem set_of {i : Nat} {x : Str} (C : TermC X G sc c p) (hi : Nt[i]? = some x) (h : locB sc x = true) {e : Expr} {te : TE} {p1 pos : Pos} (he : PE X e te) (hn : notComp e = true) : PS X (.Assign [.Name x p1] e pos) (tAsg te (gName i)) :=
  ps_set (by rw [C.hN]; exact nd_Nt) (by rw [C.hN]; exact hi) (.inl (vis_of C h)) he (swaps_no hn _ _ _) (.inr (vis_of C h))
theorem int_of {Y : Cx} {sc' : Scope} (hb : Y.mg "int" = none) (hN : Y.N = Nt) (hs : Y.env.scope = sc') {e : Expr} (h : intB sc' e = true) : PE Y e (tCB (fun xs H Q => (∃ i, xs = [.int i] ∧ Q (.int i) H) ∨ ∃ k, xs = [.bl k] ∧ Q (.int (if k then 1 else 0)) H) (tCons (tVar 3) tNil)) := by
  unfold intB at h
  split at h
  · simp only [Bool.and_eq_true, decide_eq_true_eq] at h
    obtain ⟨⟨⟨rfl, rfl⟩, h3⟩, h4⟩ := h
    have hg : Gl Y "int" := by show Y.env.scope.names.lookup _ = _; rw [hs]; exact of_decide_eq_true h3
    have hl : Y.env.scope.names.lookup ("_law_flag" : Str) = some NameKind.local := by rw [hs]; exact of_decide_eq_true h4
    exact pe_callTy call_int1 hg hb boot_int (pa_cons (pe_var (by rw [hN]; rfl) (.inl hl)) pa_nil)
  · cases h
theorem sum_of (C : TermC X G sc c p) {e : Expr} (h : sumB sc e = true) : PE X e (fun σ H Q => ∃ a xs, σ[1]? = some (some (.ref a)) ∧ SqL X.K H a (flg c xs) ∧ xs.length ≤ 1000 ∧
    ∀ D, H D = none → Q (.int ((flg c xs).map fun v => match v with | .bl b => (if b then 1 else 0 : Int) | _ => 0).sum) (upd H D (.lst ((flg c xs).map bi)))) := by
  unfold sumB at h
  split at h
  · rename_i u _ elt g _ f _ csc _ _
    simp only [Bool.and_eq_true, decide_eq_true_eq] at h
    obtain ⟨⟨⟨⟨⟨⟨⟨rfl, rfl⟩, rfl⟩, h4⟩, h5⟩, h6⟩, h7⟩, h8⟩ := h
    have hg : Gl X "sum" := by show X.env.scope.names.lookup _ = _; rw [C.hsc]; exact of_decide_eq_true h4
    refine peI (pe_callB (call_sumH C.hot) hg C.w.b2 (by decide +kernel) (pa_cons (pe_lcH (X := X) (x := "_law_flag") (j := 3) (t0 := tVar 1) C.hot (by rw [C.hN]; exact nd_Nt) (by rw [C.hN, C.hsc]; exact blkOk_by h6) (tVar_at C rfl h5 (by decide +kernel) (by decide +kernel)) (by rw [C.hN]; rfl) (by rw [C.hsc]; exact of_decide_eq_true h7)
      (fun s H Cc cl fp => int_of (Y := X.blk s H csc (compEnvC csc cl Cc X.env) fp) C.w.b3 C.hN (by rw [← C.hsc]; rfl) h8) (fun x => rfl)) pa_nil)) fun s H Q ⟨a, xs, h0, hq, hz, q⟩ => ?_
    refine ⟨.ref a, h0, a, flg c xs, bi, rfl, hq, by unfold flg; rw [List.length_map]; exact hz, fun z hz' σ' H' Q' hs hQ' => ?_, fun D hD => ?_⟩
    · obtain ⟨c', _, rfl⟩ := List.mem_map.mp hz'
      exact ⟨_, hs, .inr ⟨_, rfl, hQ'⟩⟩
    · refine ⟨D, _, rfl, ?_, fun n hn => ?_, ?_, q D hD⟩
      · rw [← flg_sum]
        exact SqL.of upd_same
      · obtain ⟨v, _, rfl⟩ := List.mem_map.mp hn
        split
        · split <;> decide
        · decide
      · rw [List.length_map]; unfold flg; rw [List.length_map]; exact hz
  · cases h
theorem idx_of (C : TermC X G sc c p) {e : Expr} (h : idxB sc e = true) : PE X e (tBM X.K "list" (rIndex X.K) (tVar 1) (tCons (tC (.bl true)) tNil)) ∧ notSl e = true ∧ noStar [e] = true := by
  unfold idxB at h
  split at h
  · simp only [Bool.and_eq_true, decide_eq_true_eq] at h
    obtain ⟨⟨⟨rfl, rfl⟩, h3⟩, h4⟩ := h
    exact ⟨pe_bm F.plainAttrs_list F.slot_list_index F.type_list_index mt_index (tVar_at C rfl h4 (by decide +kernel) (by decide +kernel)) (pa_cons pe_bl pa_nil) rfl rfl h3, rfl, rfl⟩
  · cases h
theorem term_ok (C : TermC X G sc c p) {body : List Stmt} (hB : termB sc body = true) {H : Hp} {Q : VK} (hQ : ∀ H' a, Same H H' → H' a = some (.tup [.str "error", .str (excName c)]) → Q (.ref a) H') :
    ∃ t, PSs X body t ∧ t { nx := fun _ H' => Q .non H', rt := Q } (L2.start Nt [.ref p.1]) H := by
  unfold termB at hB
  split at hB
  case h_2 => cases hB
  rename_i a b d e f
  simp only [Bool.and_eq_true] at hB
  obtain ⟨⟨⟨⟨h1, h2⟩, h3⟩, h4⟩, h5⟩ := hB
  -- the statements
  obtain ⟨u1, s1, k1⟩ : ∃ u, PS X a (tAsg u (gName 1)) ∧ ∀ σ H Q, (σ[0]? = some (some (.ref p.1)) ∧ ∀ a, H a = none → Q (.ref a) (upd H a (.lst (flg c [0, 1, 2])))) → u σ H Q := by
    unfold t1B at h1
    split at h1
    · simp only [Bool.and_eq_true, decide_eq_true_eq] at h1
      obtain ⟨⟨rfl, l1⟩, l2⟩ := h1
      obtain ⟨q1, q2⟩ := is3_of C (by decide) (by decide) (by decide) l2
      exact ⟨_, set_of C rfl l1 q1 q2, fun σ H Q h => h⟩
    · cases h1
  obtain ⟨u2, s2, k2⟩ : ∃ u, PS X b (tAsg u (gName 1)) ∧ ∀ σ H Q, (σ[0]? = some (some (.ref p.1)) ∧ ∃ l, σ[1]? = some (some (.ref l)) ∧ H l = some (.lst (flg c [0, 1, 2])) ∧ ∀ a a2, H a = none → (upd H a (.lst (flg c [3, 4, 5]))) a2 = none → Q (.ref a2) (upd (upd H a (.lst (flg c [3, 4, 5]))) a2 (.lst (flg c [0, 1, 2, 3, 4, 5])))) → u σ H Q := by
    unfold t2B at h2
    split at h2
    · simp only [Bool.and_eq_true, decide_eq_true_eq] at h2
      obtain ⟨⟨⟨rfl, rfl⟩, l1⟩, l2⟩ := h2
      obtain ⟨q1, q2⟩ := is3_of C (by decide) (by decide) (by decide) l2
      refine ⟨_, set_of C rfl l1 (pe_op op_cat (tVar_at (i := 1) C rfl l1 (by decide +kernel) (by decide +kernel)) q1) rfl, fun σ H Q ⟨h0, l, h1, hl, q⟩ => ?_⟩
      refine ⟨_, h1, h0, fun a ha => ?_⟩
      exact ⟨l, a, flg c [0, 1, 2], flg c [3, 4, 5], rfl, rfl, by rw [upd_ne (ne_of_none hl ha)]; exact hl, upd_same, by rw [sizeLine_eq]; exact (by decide : 6 ≤ 16777216), fun a2 ha2 => q a a2 ha ha2⟩
    · cases h2
  obtain ⟨u3, s3, k3⟩ : ∃ u, PS X d (tAsg u (gName 2)) ∧ ∀ σ H Q, (∀ a, H a = none → Q (.ref a) (upd H a (.lst [V.str (excName 0), .str (excName 1), .str (excName 2), .str (excName 3), .str (excName 4), .str (excName 5)]))) → u σ H Q := by
    unfold t3B at h3
    split at h3
    · simp only [Bool.and_eq_true, decide_eq_true_eq] at h3
      obtain ⟨⟨⟨⟨⟨⟨⟨rfl, l1⟩, m0⟩, m1⟩, m2⟩, m3⟩, m4⟩, m5⟩ := h3
      rename_i x0 x1 x2 x3 x4 x5 _ _
      have ns : ∀ {x : Str} {e : Expr} {es : List Expr}, strB x e = true → noStar es = true → noStar (e :: es) = true := fun {x e es} h k => by
        cases e <;> first | exact k | cases h
      have b5 := ns m5 (rfl : noStar [] = true)
      have b4 := ns m4 b5
      have b3 := ns m3 b4
      have b2 := ns m2 b3
      have b1 := ns m1 b2
      have b0 := ns m0 b1
      refine ⟨_, set_of C rfl l1 (pe_lst (pa_cons (str_of m0).1 (pa_cons (str_of m1).1 (pa_cons (str_of m2).1 (pa_cons (str_of m3).1 (pa_cons (str_of m4).1 (pa_cons (str_of m5).1 pa_nil (starEach_cons b5)) (starEach_cons b4)) (starEach_cons b3)) (starEach_cons b2)) (starEach_cons b1)) (starEach_cons b0))) rfl, fun σ H Q q => ?_⟩
      exact ⟨by rw [sizeLine_eq]; decide, q⟩
    · cases h3
  obtain ⟨u4, s4, k4⟩ : ∃ u, PS X e u ∧ ∀ σ H D, (∃ a, σ[0]? = some (some (.ref p.1)) ∧ σ[1]? = some (some (.ref a)) ∧ SqL X.K H a (flg c [0, 1, 2, 3, 4, 5]) ∧ ∀ l, H l = none → D.nx σ (upd H l (.lst ((flg c [0, 1, 2, 3, 4, 5]).map bi)))) → u D σ H := by
    unfold t4B at h4
    split at h4
    · simp only [Bool.and_eq_true, decide_eq_true_eq] at h4
      obtain ⟨⟨l1, rfl⟩, l2⟩ := h4
      obtain ⟨q1, q2⟩ := is_val C l2
      refine ⟨_, ps_if (pw_or (pt_cmpR op_ne (sum_of C l1) pe_int rfl) (pw_or1 (pt_not (pt_val q1 (plain_pt q2))))).pt pss_never pss_nil, fun σ H D ⟨a, g0, g1, g2, q⟩ => ?_⟩
      refine ⟨a, [0, 1, 2, 3, 4, 5], g1, g2, by decide, fun l hl => ?_⟩
      rw [(ord_ok c C.hc).2.2.1]
      refine ⟨rfl, _, rfl, ?_⟩
      have e1 : (!decide (V.int 1 = V.int 1)) = false := by simp
      rw [e1]
      refine FC.iteF0 ⟨g0, true, rfl, ?_⟩
      exact q l hl
    · cases h4
  obtain ⟨u5, s5, k5⟩ : ∃ u, PS X f (tRet u) ∧ ∀ σ H Q, (∃ a l, σ[1]? = some (some (.ref a)) ∧ SqL X.K H a (flg c [0, 1, 2, 3, 4, 5]) ∧ σ[2]? = some (some (.ref l)) ∧ SqL X.K H l [V.str (excName 0), .str (excName 1), .str (excName 2), .str (excName 3), .str (excName 4), .str (excName 5)] ∧
      ∀ t, H t = none → Q (.ref t) (upd H t (.tup [.str "error", .str (excName c)]))) → u σ H Q := by
    unfold t5B at h5
    split at h5
    · rename_i x k _ i _ _ _ _
      simp only [Bool.and_eq_true, decide_eq_true_eq] at h5
      obtain ⟨⟨⟨m0, rfl⟩, l1⟩, l2⟩ := h5
      obtain ⟨q1, q2, q3⟩ := idx_of C l2
      have n0 : ∀ {es : List Expr}, noStar es = true → noStar (x :: es) = true := fun {es} k => by
        cases x <;> first | exact k | cases m0
      refine ⟨_, ps_ret (pe_tup (pa_cons (str_of m0).1 (pa_cons (pe_ix ix_list (tVar_at (i := 2) C rfl l1 (by decide +kernel) (by decide +kernel)) q1 (plainIx q2)) pa_nil rfl) (starEach_cons (n0 rfl)))), fun σ H Q ⟨a, l, g1, g2, g3, g4, q⟩ => ?_⟩
      obtain ⟨o1, o2, o3, o4⟩ := ord_ok c C.hc
      refine ⟨_, g3, _, g1, .inl ⟨rfl, _, g2⟩, a, flg c [0, 1, 2, 3, 4, 5], .bl true, c, .bl true, rfl, rfl, g2, rfl, by rfl, o1, by rfl, o2, ?_⟩
      exact ⟨l, _, (c : Nat), _, rfl, rfl, g4, o4, by rw [sizeLine_eq]; exact (by decide : 2 ≤ 16777216), q⟩
    · cases h5
  refine ⟨_, pss_cons s1 (pss_cons s2 (pss_cons s3 (pss_cons s4 (pss_one s5)))), ?_⟩
  refine k1 _ _ _ ⟨rfl, fun a1 n1 => ?_⟩
  refine k2 _ _ _ ⟨rfl, a1, rfl, upd_same, fun a2 a3 n2 n3 => ?_⟩
  refine k3 _ _ _ fun a4 n4 => ?_
  have sA : SqL X.K (upd (upd (upd (upd H a1 (.lst (flg c [0, 1, 2]))) a2 (.lst (flg c [3, 4, 5]))) a3 (.lst (flg c [0, 1, 2, 3, 4, 5]))) a4 (.lst [V.str (excName 0), .str (excName 1), .str (excName 2), .str (excName 3), .str (excName 4), .str (excName 5)])) a3 (flg c [0, 1, 2, 3, 4, 5]) := sq_upd n4 (SqL.of upd_same)
  refine k4 _ _ _ ⟨a3, rfl, rfl, sA, fun a5 n5 => ?_⟩
  refine k5 _ _ _ ⟨a3, a4, rfl, sq_upd n5 sA, rfl, sq_upd n5 (SqL.of upd_same), fun a6 n6 => ?_⟩
  exact hQ _ a6 (((((same_new n1).trans (same_new n2)).trans (same_new n3)).trans (same_new n4)).trans (same_new n5) |>.trans (same_new n6)) upd_same
end
end FC
end

section
set_option Elab.async false
set_option linter.all false
set_option maxRecDepth 100000
set_option maxHeartbeats 4000000
/-! FcLam: a lambda handed to the def that tells what it gives or what it raises. -/
namespace FC
open PySem PySem.Spec PyProof.Rows L2 LamX HotX L2H
/-! ### the telling def: its text, what stands around -/
/-! ### the kind is told: a call while the exception is handled -/
def kindTup (c : Nat) : HO := .tup [.str "error", .str (excName c)]
section
variable {G : Gm} {P : Program} {w : World} {K : PySem.W.Frag} {mg : Str → Option Value} {base : Heap}
theorem term_run (tw : TermW G K mg) {st : Stmt} {ft : Addr} {fd : FuncData} (F : L2.Fun K "_law_term" "_law_term" st ft fd) (S : FnScope Nt ["_law_e"] (defScope st)) (hB : termB (defScope st) (defBody st) = true) {k c : Nat} (hc : c < 6)
    {A : Around} {outer : List PySem.Env} {s : Shared} {H : Hp} {p : Addr × Obj} {Q : VK} (hr : RoomH (k + 1) A) (hot : Hot1 A p) (hp : PinOk outer H s p) (hz : Zc (.ref (G.exc c)) none p.2) (hf : ∃ vs, p.2.data = .fields vs) (e0 : Env0 P w K mg base A outer s H)
    (hb : BindsTo s fd ⟨[.ref p.1], []⟩ ([("_law_e" : Str)].zip [Value.ref p.1])) (hQ : ∀ H' a, Same H H' → H' a = some (kindTup c) → Q (.ref a) H') :
    codeAny (model P w) A (.call (.ref ft) ⟨[.ref p.1], []⟩) (CR CX0 outer P w H s Q E0) s := by
  obtain ⟨oc, od, kV, doc, pmv, an, cdv, ct, osl, rfl, lk, hcd⟩ := F.ex
  have kept : ∀ b o, base.get? b = some o → s.heap.get? b = some o := fun b o e => (e0.bs b o e).1
  have KX : K.In s.heap := e0.mod.kin.keeps kept
  refine codeAny_call_function hr.depth (KX _ _ lk) rfl S.co S.gen rfl (PySem.W.codeRec_of KX hcd) (hb _ _ _ _ ?_)
  refine wpAny_newFunctionEnv_cells S.kind (fun y hy => ?_) fun env he s1 x => ?_
  · have e : y = (("_law_e" : Str), Value.ref p.1) := by simpa using hy
    subst e
    rcases S.par ("_law_e" : Str) (by simp) with q | q
    · exact .inl q
    · exact .inr ⟨q, PySem.W.cellsFrom_some _ _ _ (.inl q)⟩
  · subst he
    refine ⟨(e0.mod.nolimit.keeps kept).keeps x.toInCall.keep, codeAny_func ?_⟩
    obtain ⟨t, ht, hq⟩ := term_ok (X := cxH CX0 P w K mg base Nt "_law_term" (defScope st) ft cdv A outer s H E0 p) (G := G) (sc := defScope st) (c := c) (p := p) ⟨tw, hc, rfl, rfl, ⟨p, hot, List.mem_singleton.mpr rfl⟩, List.mem_singleton.mpr rfl, hz, hf⟩ hB (H := H) (Q := Q) hQ
    have I : Inv (cxH CX0 P w K mg base Nt "_law_term" (defScope st) ft cdv A outer s H E0 p) [] (L2.start Nt [.ref p.1]) H s1 := inv_startH S hp e0 rfl (.cons rfl .nil) x
    refine wpAny_mono (ht.run [] s1 _ H _ I hq) (fun fl s' hs => ?_) fun e s' hs => hs
    cases fl with
    | ret u => obtain ⟨v, σ', H', J, rv, q⟩ := hs; exact ⟨v, H', J.os, J.bare, J.base, J.hok, rv, q⟩
    | next => obtain ⟨σ', H', J, q⟩ := hs; exact ⟨.non, H', J.os, J.bare, J.base, J.hok, rfl, q⟩
    | brk => obtain ⟨_, _, _, q⟩ := hs; exact q.elim
    | cont => obtain ⟨_, _, _, q⟩ := hs; exact q.elim
end

/-! ### the lambda is called -/
/-- the context of its body; exceptions with their context -/
abbrev lamN (X : Cx) (A : Around) (outer : List PySem.Env) (s : Shared) (H : Hp) (E : XK) (scope : Scope) (f c' : Addr) : Cx :=
  (lamCx X A outer s H E scope f c').wish fun e s' => wpAny (model X.prog X.w) (A.deeper (lamEnv X scope s.heap.objs.size f c')) (leaving (lamEnv X scope s.heap.objs.size f c') e) (fun _ s'' => L2N.CX X.prog X.w outer H s E e s'') (fun e' s'' => L2N.CX X.prog X.w outer H s E e' s'') s'
section
variable {X : Cx} {pins : List (Addr × Obj)} {σ : L2.St} {H : Hp} {s : Shared}
theorem pe_deed {Ng : List Str} {qg : Str} {sg : Scope} {g f c' : Addr} {cdg pmv ctv : Value} {params : Arguments} {body : Expr} {scope : Scope} {k i : Nat} {a : Str} {pn : List (Addr × Obj)} {xe : Value → Shared → Prop} {W : WX} {E : XK} {tb : TE} {p1 p2 : Pos}
    (I : Inv X pins σ H s) (L : LamS X.env.scope scope) (hf : s.heap.get? f = some (PySem.W.kla_obj "<lambda>" (X.env.qual ++ "<lambda>") params body scope (cloFrom X.env.cells scope.names []) pmv c' ctv)) (hfn : H f = none) (hfr : f ∉ frs X.stack)
    (hbind : bindArgs (PySem.W.kla_fn "<lambda>" (X.env.qual ++ "<lambda>") params body scope (cloFrom X.env.cells scope.names []) pmv (.ref c') ctv) ⟨[], []⟩ = pure [])
    (tk : L2N.Takes ((cxOf CX0 X.prog X.w X.K X.mg X.base Ng qg sg g cdg X.A X.stack s H E0).tr pn xe) W) (hW : ∀ cls d σ' H', E cls d H' → W cls d σ' H') (hr : Room (k + 1) (X.A.deeper (envOfC qg sg s.heap.objs.size g cdg)))
    (hbody : ∀ (A : Around) (outer : List PySem.Env) (s : Shared) (H : Hp), Room k (A.deeper (lamEnv X scope s.heap.objs.size f c')) → PE (lamN X A outer s H E scope f c') body tb)
    (hN : Ng[i]? = some a) (hv : Vis sg a) (hd : (a == ("__debug__" : Str)) = false) (hcd : (a == ("__classdict__" : Str)) = false) :
    PE ((cxOf CX0 X.prog X.w X.K X.mg X.base Ng qg sg g cdg X.A X.stack s H E0).tr pn xe) (.Call (.Name a p1) [] [] p2)
      (fun σZ HZ Q => σZ[i]? = some (some (.ref f)) ∧ HZ c' = some (CodeO c' (X.env.qual ++ "<lambda>")) ∧ tb σ HZ Q) := by
  refine ⟨fun pinsZ sZ σZ HZ Q IZ ⟨hs, hc, ht⟩ => ?_⟩
  refine wpAny_Call_Name_kw (thn ((pe_var (pos := p1) (i := i) hN hv hd hcd).run pinsZ sZ σZ HZ (fun v H1 => v = .ref f ∧ H1 = HZ) IZ ⟨.ref f, hs, rfl, rfl⟩) fun u s1 ⟨v, H1, I1, r1, ev, eH⟩ => ?_)
  subst ev eH
  cases r1
  have of1 := I1.base.keep f _ hf hfn hfr (fun z => nomatch (show f ∈ ([] : List Addr) from z))
  refine PySem.W.callWith_F0 ⟨_, _, _, _, of1⟩ ?_
  have un : Un (frs X.stack) [] H H1 s.heap s1.heap := I1.base
  obtain ⟨⟨oc, vs, t, hoc, hdc, hvc⟩, _, _⟩ := I1.hok c' _ hc
  refine wpAny_call (codeAny_mono (R := CR (L2N.CX X.prog X.w) (envOfC qg sg s.heap.objs.size g cdg :: X.stack) X.prog X.w H1 s1 Q E) ?_ fun r s' hq => ?_)
  · refine PySem.W.kla_callFunE hr.depth of1 rfl L.co L.gen rfl ⟨c', oc, vs, t, rfl, hoc, hdc, hvc⟩ ?_
    refine wpAny_of_eq hbind (wpAny_newFunctionEnv (fun y hy => (L.own y hy).2) (fun y hy => absurd hy (by simp)) (fun h₁ hns hsb => ⟨I1.nolimit.fresh _ hsb, ?_⟩) L.kind)
    show codeAny _ _ (.expr body (lamEnv X scope s1.heap.objs.size f c')) _ _
    have kp : ∀ b o, s1.heap.get? b = some o → h₁.get? b = some o := fun b o e => hsb.extBut b o (Nat.ne_of_lt (Heap.lt_size e)) (Heap.get?_push_of_some _ e)
    have J := (lam_start2 (A := X.A.deeper (envOfC qg sg s.heap.objs.size g cdg)) (outer := envOfC qg sg s.heap.objs.size g cdg :: X.stack) (E := E) (f := f) (c' := c') (tk := s1.toks + ([] : List (Str × Value)).length) I L I1.env0 hr.hd un hns kp).wish fun e s' => wpAny (model X.prog X.w) ((X.A.deeper (envOfC qg sg s.heap.objs.size g cdg)).deeper (lamEnv X scope s1.heap.objs.size f c')) (leaving (lamEnv X scope s1.heap.objs.size f c') e) (fun _ s'' => L2N.CX X.prog X.w (envOfC qg sg s.heap.objs.size g cdg :: X.stack) H1 s1 E e s'') (fun e' s'' => L2N.CX X.prog X.w (envOfC qg sg s.heap.objs.size g cdg :: X.stack) H1 s1 E e' s'') s'
    refine PySem.W.kla_codeExpr (wpAny_mono ((hbody _ _ s1 H1 (hr.deeper _)).run [] _ _ H1 Q J ht) (fun v s' hq => ?_) fun e s' hq => hq)
    obtain ⟨w', H', J', rv, q⟩ := hq
    exact ⟨w', H', J'.os, J'.bare, J'.base, J'.hok, rv, q⟩
  · cases r with
    | error e => exact L2N.passes_call tk hW pinsZ σZ H1 s1 e s' I1 hq
    | ok fl =>
      cases fl with
      | ret u => exact I1.after hq
      | next => exact False.elim hq
      | brk => exact False.elim hq
      | cont => exact False.elim hq

/-! ### the whole -/
theorem told_go {G : Gm} {W : WX} {fe : FEnv} {ea : E} {f : Addr → Prop} {r : List Addr} {H H1 : Hp} {e : Env} {S : Sto} {σ : L2.St} {Q : VK} (R : Rl G f r H S) (Ev : EnvR G f r H e σ) (go : Go G W f (rT G f) r H σ (evE fe (.told ea) e S) Q) (eN : ExtN H H1) (T1 : Tabs G.tab H1) :
    TEof G (fun cls d _ H' => ∃ c, c < 6 ∧ cls = .ref (G.exc c) ∧ d = none ∧ ∀ H'' b, Same H' H'' → H'' b = some (kindTup c) → Q (.ref b) H'') (evE (lowE fe) ea) σ H1 Q := by
  have x : Ext r H r H1 := ⟨fun _ _ h => h, fun a o h _ t => eN a o h t, fun a h n => absurd h n, fun a o h t => ⟨o, eN a o h t, t⟩⟩
  have R1 : Rl G f r H1 S := R.stay x (fun a ha => by
      rcases R.kind ha with ⟨vs, q⟩ | ⟨c, dx, fs, q⟩ <;> rw [q] <;> exact eN a _ q fun ps z => by cases z)
    (fun a ha => by
      obtain ⟨vs, q | ⟨c, dx, fs, q⟩⟩ := R.fo a ha <;> rw [q] <;> exact eN a _ q fun ps z => by cases z) T1
  refine ⟨f, r, e, S, R1, Ev.ext R x, ?_⟩
  have go := go.from x
  have go : Go G W f (rT G f) r H1 σ (match evE (lowE fe) ea e S with | .ok t S1 => .ok t S1 | .exc c S1 => if c < 6 then .ok (.tup [.str "error", .str (excName c)]) S1 else .bad | .bad => .bad) Q := go
  cases hc : evE (lowE fe) ea e S with
  | ok t S1 => rw [hc] at go; exact go
  | bad => rw [hc] at go; exact go.elim
  | exc c S1 =>
    rw [hc] at go
    have go : Go G W f (rT G f) r H1 σ (if c < 6 then .ok (.tup [.str "error", .str (excName c)]) S1 else .bad) Q := go
    split at go
    · rename_i hlt
      intro r' H' x' R'
      refine ⟨c, hlt, rfl, rfl, fun H'' b sm hb => ?_⟩
      have x'' : Ext r' H' r' H'' := ⟨fun _ _ h => h, fun a o h _ _ => sm a o h, fun a h n => absurd h n, fun a o h t => ⟨o, sm a o h, t⟩⟩
      have keep : ∀ a, H' a ≠ none → H'' a = H' a := fun a h => by
        cases q : H' a with
        | none => exact absurd q h
        | some o => exact sm a o q
      exact go r' (.ref b) H'' (x'.trans x'') (R'.stay x'' (fun a ha => keep a (R'.there ha)) (fun a ha => keep a (R'.fthere ha)) (R'.tb.ext sm)) (.tup (SqT.of hb) (.cons (.str _) (.cons (.str _) .nil)))
    · exact go.elim
theorem nd_deed : (("_law_deed" : Str) == ("__debug__" : Str)) = false ∧ (("_law_deed" : Str) == ("__classdict__" : Str)) = false ∧ (("_law_e" : Str) == ("__debug__" : Str)) = false ∧ (("_law_e" : Str) == ("__classdict__" : Str)) = false ∧ (("_law_term" : Str) == ("__debug__" : Str)) = false ∧ (("ChainError" : Str) == ("__debug__" : Str)) = false ∧ (("_law_told" : Str) == ("__debug__" : Str)) = false := by decide +kernel
theorem pe_toldF {G : Gm} {W : WX} {fe : FEnv} {ea : E} {j : Nat} {params : Arguments} {body : Expr} {scope : Scope} {p lpos pos : Pos} (tw : ToldW G X.K X.mg) (lc : LamC X G) (hg : Gl X "_law_told") (hr : Room (j + 2) X.A) (Ls : LamS X.env.scope scope) (ha : noArgs params = true)
    (hbody : ∀ (A : Around) (outer : List PySem.Env) (s : Shared) (H : Hp) (E : XK) (f c' : Addr), Room j (A.deeper (lamEnv X scope s.heap.objs.size f c')) → PE (lamN X A outer s H E scope f c') body (TEof G (fun cls d _ H' => E cls d H') (evE (lowE fe) ea))) :
    PE X (.Call (.Name "_law_told" p) [.Lambda params body scope lpos] [] pos) (TEof G W (evE fe (.told ea))) := by
  refine ⟨fun pins s σ H Q I ⟨f0, r, e, S, R, Ev, go⟩ => ?_⟩
  obtain ⟨st, g, fd, mG, F, Bd, Sg, tB⟩ := tw.g
  obtain ⟨stt, ft, fdt, mT, Ft, Bt, St, tT⟩ := tw.t
  obtain ⟨CS, mE, xE⟩ := tw.e
  obtain ⟨c, Pt, hcode, TB, hmT, hu⟩ := lc.ex
  obtain ⟨z1, z2, z3, z4, z5, z6, z7⟩ := nd_deed
  have hdef : defaultsOf params X.env = ([], []) := by
    unfold noArgs at ha
    split at ha
    · rfl
    · cases ha
  have hbind : ∀ (q : Str) (cl : List (Str × Addr)) (pm cv ctv : Value), bindArgs (PySem.W.kla_fn "<lambda>" q params body scope cl pm cv ctv) ⟨[], []⟩ = pure [] := by
    unfold noArgs at ha
    split at ha
    · intro _ _ _ _ _; rfl
    · cases ha
  refine wpAny_Call_Name_kw (ld_glob I hg mG ?_ z7)
  refine PySem.W.callWith_K (h₀ := X.base) I.ok.mod.kin F.kp ?_ (by rfl) (by rfl)
  show wpAny _ _ (spliced ((false, eval (.Lambda params body scope lpos) X.env) :: backTo pos (starEach [] X.env))) _ _ s
  refine Calls.spliced_cons (lam_make2 I TB hcode hmT hu R.tb hdef (Ls.has I.ok) fun fl c' pm' ctv H1 s' I1 eN T1 hf hfn hfr hco => ?_)
  refine Calls.spliced_nil ⟨I1.kIn, ?_⟩
  have run := told_go R Ev go eN T1
  obtain ⟨oc, od, kV, doc, pmv, an, cdv, ct, osl, rfl, lk, hcd⟩ := F.ex
  refine wpAny_call (codeAny_mono (R := CR CX0 X.stack X.prog X.w H1 s' Q E0) ?_ fun r s2 hq => ?_)
  · refine run_ofS (N := Nd) (ps := ["_law_deed"]) (us := [.ref fl]) (vs := [.ref fl]) lk hcd Sg hr I1.env0 (Bd s' [.ref fl] I1.kIn rfl) (.cons rfl .nil) rfl fun hr' => ?_
    unfold toldB at tB
    split at tB
    · rename_i eqb
      rename_i a _ _ _ ex _ n fn _ v _ _ _ _ _
      simp only [Bool.and_eq_true, decide_eq_true_eq] at tB
      obtain ⟨⟨⟨⟨⟨⟨⟨⟨rfl, rfl⟩, rfl⟩, rfl⟩, rfl⟩, l1⟩, l2⟩, l3⟩, l4⟩ := tB
      rw [eqb]
      have hgl : Gl (cxOf CX0 X.prog X.w X.K X.mg X.base Nd "_law_told" (defScope st) g cdv X.A X.stack s' H1 E0) "ChainError" := (of_decide_eq_true l3 : (defScope st).names.lookup ("ChainError" : Str) = some NameKind.globalImplicit)
      have hv0 : Vis (defScope st) "_law_deed" := .inl (of_decide_eq_true l1)
      have hl2 : (defScope st).names.lookup ("_law_e" : Str) = some NameKind.local := of_decide_eq_true l2
      refine ⟨_, pss_one (L2N.ps_try_as (X := cxOf CX0 X.prog X.w X.K X.mg X.base Nd "_law_told" (defScope st) g cdv X.A X.stack s' H1 E0) (i := 1) (c := .ref CS) (Wout := fun _ _ _ _ => False)
        (tb := fun W D σZ HZ => ∃ Ech : XK, (∀ cls d σ' H', Ech cls d H' → W cls d σ' H') ∧ σZ[0]? = some (some (.ref fl)) ∧ HZ c' = some (CodeO c' (X.env.qual ++ "<lambda>")) ∧ TEof G (fun cls d _ H' => Ech cls d H') (evE (lowE fe) ea) σ HZ D.rt)
        (ts := fun a cls d D σZ HZ => ∃ c, c < 6 ∧ cls = .ref (G.exc c) ∧ d = none ∧ (1 < σZ.length → σZ[1]? = some (some (.ref a))) ∧ ∀ H'' b, Same HZ H'' → H'' b = some (kindTup c) → D.rt (.ref b) H'')
        rfl rfl Sg.nd rfl hl2 ⟨hgl, z6, .inl mE⟩ (fun _ _ ⟨_, _, _, _, _, _, _, _, _, _, _, _, _, _, _, _, z⟩ => z.elim) (fun W pn xe tk _ => ⟨fun pinsZ sZ σZ HZ D IZ ⟨Ech, hW, h0, h1, h2⟩ => ?_⟩)
        (fun a oe cls d pn hz hfl => ⟨fun pinsZ sZ σZ HZ D IZ ⟨c, hc, ec, ed, hs, hq⟩ => ?_⟩)), ?_⟩
      · exact (pss_one (ps_ret (pe_deed (i := 0) (k := j) I1 Ls hf hfn hfr (hbind _ _ _ _ _) tk hW hr' (fun A outer s H hr2 => hbody A outer s H Ech fl c' hr2) rfl hv0 z1 z2))).run pinsZ sZ σZ HZ D IZ ⟨h0, h1, h2⟩
      · subst ec ed
        have hgT : Gl ((cxOf CX0 X.prog X.w X.K X.mg X.base Nd "_law_told" (defScope st) g cdv X.A X.stack s' H1 E0).suite a ((a, oe) :: pn)) "_law_term" := (of_decide_eq_true l4 : (defScope st).names.lookup ("_law_term" : Str) = some NameKind.globalImplicit)
        have pt : ∀ {q1 q2 q3 : Pos}, PE ((cxOf CX0 X.prog X.w X.K X.mg X.base Nd "_law_told" (defScope st) g cdv X.A X.stack s' H1 E0).suite a ((a, oe) :: pn)) (.Call (.Name "_law_term" q1) [.Name "_law_e" q2] [] q3)
            (fun σ H Q => σ[1]? = some (some (.ref a)) ∧ ∀ H'' b, Same H H'' → H'' b = some (kindTup c) → Q (.ref b) H'') := fun {q1 q2 q3} => ⟨fun pins2 s2 σ2 H2 Q2 I2 ⟨g1, g2⟩ => by
          refine wpAny_Call_Name_kw (ld_glob I2 hgT mT ?_ z5)
          refine PySem.W.callWith_K (h₀ := X.base) I2.ok.mod.kin Ft.kp (thn ((pa_cons (pe_var (pos := q2) (i := 1) rfl (.inl hl2) z3 z4) pa_nil).run q3 pins2 s2 σ2 H2 (fun vs H3 => vs = [V.ref a] ∧ H2 = H3) I2 ⟨.ref a, g1, rfl, rfl⟩) fun us s3 ⟨vs, H3, I3, r3, ev, eH⟩ => ⟨I3.kIn, ?_⟩) rfl rfl
          subst ev eH
          rw [Vals.ref1 r3]
          have P1 := I3.pin (a, oe) (List.mem_append_left _ List.mem_cons_self)
          obtain ⟨vs1, hd1⟩ := hfl
          refine wpAny_call (codeAny_mono (term_run (k := j) tw.w Ft St tT hc (p := (a, oe)) (Q := Q2) ⟨hr'.dp, hr'.un⟩ ⟨rfl, vs1, hd1, hz.2.2 vs1 hd1⟩ ⟨P1.1, P1.2.1, fun hm => (List.mem_cons.mp (I3.stkSub a hm)).elim P1.2.2.1 P1.2.2.2.1, P1.2.2.2.2⟩ hz.zc ⟨vs1, hd1⟩ I3.env0 (Bt s3 [.ref a] I3.kIn rfl) g2) fun r s4 hq => ?_)
          cases r with
          | error e => exact (show False from hq).elim
          | ok fl =>
            cases fl with
            | ret u => exact I3.after hq
            | next => exact False.elim hq
            | brk => exact False.elim hq
            | cont => exact False.elim hq⟩
        exact (pss_one (ps_ret pt)).run pinsZ sZ σZ HZ D IZ ⟨hs (by rw [IZ.len]; exact (by decide : 1 < Nd.length)), hq⟩
      · refine ⟨fun cls d H' => ∃ c, c < 6 ∧ cls = .ref (G.exc c) ∧ d = none ∧ ∀ H'' b, Same H' H'' → H'' b = some (kindTup c) → Q (.ref b) H'', fun cls d σ' H' ⟨c, hc, ec, ed, hq⟩ => ⟨true, by rw [ec]; exact xE c hc, fun _ a ha => ⟨c, hc, ec, ed, fun hl => ?_, hq⟩, fun z => by cases z⟩, rfl, hco, run⟩
        rw [List.getElem?_set_self (by simpa using hl)]
    · cases tB
  · cases r with
    | error e => exact (show False from hq).elim
    | ok fl =>
      cases fl with
      | ret u => exact I1.after hq
      | next => exact False.elim hq
      | brk => exact False.elim hq
      | cont => exact False.elim hq
end
end FC
end

section
set_option Elab.async false
set_option linter.all false
set_option maxRecDepth 100000
set_option maxHeartbeats 8000000
/-! FcSnd: the checker is sound, for expressions. -/
namespace FC
open PySem PySem.Spec PyProof.Rows L2 LamX
section
variable {pm : Pm} {G : Gm} {fe : FEnv} {k : Nat} {L : Addr} {N : List Str} {sc : Scope}
def isBoolOp : Expr → Bool | .BoolOp .. => true | _ => false
theorem prg_A {X : Cx} {a : Expr} {ta : TA} {p pos : Pos} (hg : Gl X "range") (hm : X.mg "range" = none) (ha : PA X [a] ta) (hs : starEach [a] X.env = [(false, eval a X.env)]) :
    PRg X (.Call (.Name "range" p) [a] [] pos) (fun σ H Q => ta σ H fun vs H1 => ∃ n, vs = [.int n] ∧ Q 0 n H1) := by
  intro pins s σ H Q I h
  refine Call_ (ld_blt I hg hm boot_range (PyProof.Rows.callWith_type1 (thn (ha.run pos pins s σ H _ I h) fun us s1 ⟨vs, H1, I1, r1, q1⟩ => ?_) hs rfl))
  obtain ⟨n, rfl, q⟩ := q1
  cases r1 with
  | cons r rr =>
    cases rr
    obtain ⟨t, rfl⟩ := r
    exact call_range_1 ⟨_, 0, n, _, _, _, H1, rfl, IsRange.new _ _ _ _ _ _ _, I1.kept fun b u e => Heap.get?_push_of_some _ e, q⟩
theorem pe_rngA {X : Cx} {W : WX} {a : Expr} {ees : List E} {al : Bool} {p1 p2 pos pos2 : Pos} (hc : X.calm = true) (hg : Gl X "list") (hm : X.mg "list" = none) (hg2 : Gl X "range") (hm2 : X.mg "range" = none) (hn : noStar [a] = true) (ha : PA X [a] (TAof G W (evEs fe ees))) :
    PE X (.Call (.Name "list" p1) [.Call (.Name "range" p2) [a] [] pos2] [] pos) (TEof G W (evE fe (.bfn .rng al ees))) := by
  refine te_intro (pe_listRg hc hg hm (prg_A hg2 hm2 ha (starEach_cons hn)) rfl) fun f r H S s e Q R E go => ?_
  refine ta_part (k := fun xs S1 => FC.putN al S1 (bfnT .rng S1 xs)) R E go fun r1 ts S1 vs H1 x1 R1 E1 q1 go1 => ?_
  obtain ⟨m, e0, go1⟩ := go1.putS
  obtain ⟨t, v, rfl, rfl, hr, e1⟩ := one_of q1 (k := rngN) e0
  cases hr with
  | int i =>
    have e1 : guard (small62 i && decide (i ≤ 1000000)) (.new (rngL i.toNat 0)) = some m := e1
    obtain ⟨h1, rfl⟩ := guard_some e1
    simp only [Bool.and_eq_true, decide_eq_true_eq] at h1
    obtain ⟨b1, b2⟩ := small62_ok h1.1
    refine ⟨i, rfl, ⟨by decide, by decide, b1, b2, by omega⟩, fun q hq => ?_⟩
    refine Go.put (xs := rngL i.toNat 0) go1 R1 ?_ hq
    have := rng_rel (G := G) (f := f) (r := r1) (H := H1) i.toNat 0
    unfold rgV
    rw [show i - 0 = i from by omega]
    exact this
  | _ => cases e1
def SndT (pm : Pm) (G : Gm) (fe : FEnv) (k : Nat) (L : Addr) (N : List Str) (ce : E) : Prop := ∀ {X : Cx} {W : WX} {sc : Scope}, Cxt pm G fe k L N X W sc → ∀ e, chkT pm N ce sc e = true → PT X e (TTof G W (evE fe ce)) ∧ (isBoolOp e = true → PW X e (TTof G W (evE fe ce)))
def SndE (pm : Pm) (G : Gm) (fe : FEnv) (k : Nat) (L : Addr) (N : List Str) (ce : E) : Prop := ∀ {X : Cx} {W : WX} {sc : Scope}, Cxt pm G fe k L N X W sc → ∀ e, chkE pm N ce sc e = true → PE X e (TEof G W (evE fe ce))
def SndEs (pm : Pm) (G : Gm) (fe : FEnv) (k : Nat) (L : Addr) (N : List Str) (ces : List E) : Prop := ∀ {X : Cx} {W : WX} {sc : Scope}, Cxt pm G fe k L N X W sc → ∀ es, noStar es = true → chkEs pm N ces sc es = true → PA X es (TAof G W (evEs fe ces))
theorem bfName_bl {f : BFn} (h : bfName f ≠ "") : bfName f ∈ blNames := by
  cases f <;> first | exact absurd rfl h | decide +kernel
theorem snd_bfn {ees : List E} {f : BFn} {al : Bool} {X : Cx} {W : WX} (c : Cxt pm G fe k L N X W sc) {x : Str} {y : Expr} {ys : List Expr} {p pos : Pos} (h1 : bfName f ≠ "") (h2 : x = bfName f) (h3 : glB sc x = true) (h4 : noStar (y :: ys) = true) (ih : PA X (y :: ys) (TAof G W (evEs fe ees))) :
    PE X (.Call (.Name x p) (y :: ys) [] pos) (TEof G W (evE fe (.bfn f al ees))) := by
  subst h2
  exact pe_bfnF c.hK c.calm h1 rfl (c.gl h3) (c.bl (bfName_bl h1)) h4 ih
theorem snd_isi {ty : Ty} {ea : E} {X : Cx} {W : WX} (c : Cxt pm G fe k L N X W sc) {x z : Str} {y : Expr} {p p2 pos : Pos} (h1 : x = "isinstance") (h2 : glB sc "isinstance" = true) (h3 : z = Str.ofString (tyName ty)) (h4 : glB sc (Str.ofString (tyName ty)) = true) (h5 : noStar [y] = true) (ih : PE X y (TEof G W (evE fe ea))) :
    PE X (.Call (.Name x p) [y, .Name z p2] [] pos) (TEof G W (evE fe (.isi ty ea))) := by
  subst h1 h3
  exact pe_isiF c.hK (c.gl h2) (c.bl (by decide +kernel)) (c.gl h4) (c.bl (by cases ty <;> decide +kernel)) h5 ih
theorem snd_call {i : Nat} {pu : Bool} {ees : List E} {X : Cx} {W : WX} (c : Cxt pm G fe k L N X W sc) {x : Str} {y : Expr} {ys : List Expr} {p pos : Pos} (h1 : pm.fns[i]? = some x) (h2 : glB sc x = true) (h3 : (!dbg x) = true) (h4 : noStar (y :: ys) = true) (ih : PA X (y :: ys) (TAof G W (evEs fe ees))) :
    PE X (.Call (.Name x p) (y :: ys) [] pos) (TEof G W (evE fe (.call pu i ees))) := by
  obtain ⟨fa, fd, ps, m, kp, b, F⟩ := c.wd.fn i x h1
  exact pe_fnF F c.room (c.gl h2) m kp b c.tk h4 (dbg_ok h3).1 ih
theorem chkEs_nil {pm : Pm} {N : List Str} {sc : Scope} {ces : List E} (h : chkEs pm N ces sc [] = true) : ces = [] := by
  cases ces with
  | nil => rfl
  | cons a r => unfold chkEs at h; cases h
theorem snd_call0 {i : Nat} {pu : Bool} {X : Cx} {W : WX} (c : Cxt pm G fe k L N X W sc) {x : Str} {p pos : Pos} (h1 : pm.fns[i]? = some x) (h2 : glB sc x = true) (h3 : (!dbg x) = true) : PE X (.Call (.Name x p) [] [] pos) (TEof G W (evE fe (.call pu i []))) := by
  obtain ⟨fa, fd, ps, m, kp, b, F⟩ := c.wd.fn i x h1
  exact pe_fn0F F c.room (c.gl h2) m kp b c.tk (dbg_ok h3).1
theorem pe_false {X : Cx} {e : Expr} : PE X e (fun _ _ _ => False) := ⟨fun _ _ _ _ _ _ z => z.elim⟩
theorem snd_fld {ea : E} {X : Cx} {W : WX} (c : Cxt pm G fe k L N X W sc) {x : Str} {q : Expr} {pos : Pos} (h1 : pm.cls ≠ "") (h3 : x ∈ pm.fld) (h4 : baseOk q = true) (ih : PE X q (TEof G W (evE fe ea))) : PE X (.Attribute q x pos) (TEof G W (evE fe (.fld ea x))) := by
  obtain ⟨cl, m, na, _⟩ := c.wd.cl h1
  exact pe_fldF c.hK cl (na x h3) h4 ih
theorem snd_meth {i : Nat} {m : Str} {eo : E} {ees : List E} {X : Cx} {W : WX} (c : Cxt pm G fe k L N X W sc) {q : Expr} {ys : List Expr} {pos apos : Pos} (h1 : pm.cls ≠ "") (h2 : pm.mth.lookup m = some i) (h3 : noStar ys = true) (h4 : ys.length < 20) (h5 : baseOk q = true) (h6 : (apos.endLine == pos.line) = true)
    (iho : PE X q (TEof G W (evE fe eo))) (ih : PA X ys (TAof G W (evEs fe ees))) (h0 : ys = [] → ees = []) : PE X (.Call (.Attribute q m apos) ys [] pos) (TEof G W (evE fe (.meth i m eo ees))) := by
  obtain ⟨cl, _⟩ := c.wd.cl h1
  obtain ⟨fa, fd, ps, hm, hb, F⟩ := c.wd.mt m i h2
  exact pe_methF c.hK cl hm F c.room hb c.tk h3 h4 h5 h6 iho ih h0
theorem snd_make {ees : List E} {X : Cx} {W : WX} (c : Cxt pm G fe k L N X W sc) {y : Expr} {ys : List Expr} {p pos : Pos} (h1 : pm.cls ≠ "") (h2 : glB sc pm.cls = true) (h3 : (!dbg pm.cls) = true) (h4 : noStar (y :: ys) = true) (ih : PA X (y :: ys) (TAof G W (evEs fe ees))) :
    PE X (.Call (.Name pm.cls p) (y :: ys) [] pos) (TEof G W (evE fe (.make pm.ini ees))) := by
  obtain ⟨cl, m, na, fa, fd, ps, M, hb, F⟩ := c.wd.cl h1
  rcases F with F | ⟨j, hj, F⟩
  · refine te_intro (pe_makeNo M (c.gl h2) m ih h4 (dbg_ok h3).1) fun f r H S s e Q R E go => ?_
    refine ta_part (k := fun xs S1 => (lowE fe pm.ini (.loc S1.length :: xs) (S1 ++ [.ins 0 []])).bind fun v S2 => if isNone v then FC.R.ok (FC.T.loc S1.length) S2 else .bad) R E go fun r1 ts S1 vs H1 x1 R1 E1 q1 go1 => ?_
    have go1 : Go G W f (rT G f) r1 H1 s ((lowE fe pm.ini (.loc S1.length :: ts) (S1 ++ [.ins 0 []])).bind fun v S2 => if isNone v then FC.R.ok (FC.T.loc S1.length) S2 else .bad) Q := go1
    rw [F] at go1
    exact go1.elim
  · exact pe_makeF c.hK M F (c.room.mono hj) (c.gl h2) m hb c.tk h4 (dbg_ok h3).1 ih
theorem snd_size {i : Nat} {ea : E} {X : Cx} {W : WX} (c : Cxt pm G fe k L N X W sc) {y : Expr} {p pos : Pos} (h1 : pm.len = some i) (h2 : glB sc "len" = true) (h3 : noStar [y] = true) (ih : PE X y (TEof G W (evE fe ea))) : PE X (.Call (.Name "len" p) [y] [] pos) (TEof G W (evE fe (.size i ea))) := by
  obtain ⟨fa, fd, ps, hL, hf, hb, F⟩ := c.wd.ln i h1
  have hm : X.mg "len" = none := c.bl (by decide +kernel)
  have hA : PA X [y] (TAof G W (evEs fe [ea])) := pa_consF h3 ih pa_nilF
  rcases F with F | ⟨j, hj, F⟩
  · refine te_intro (pe_lenNo hA (c.gl h2) hm h3) fun f r H S s e Q R E go => ?_
    rw [size_one] at go
    refine ta_part R E go fun r1 ts S1 vs H1 x1 R1 E1 q1 go1 => ?_
    cases ts with
    | nil => exact go1.elim
    | cons t ts => cases ts with
      | cons _ _ => exact go1.elim
      | nil =>
        have go1 : Go G W f (rT G f) r1 H1 s (if (fieldsT S1 t).isSome then (lowE fe i [t] S1).bind sizeR else .bad) Q := go1
        rw [F] at go1
        split at go1 <;> exact go1.elim
  · exact pe_sizeF c.hK hL hf F (c.room.mono hj) (c.gl h2) hm hb c.tk h3 hA
theorem snd_eqo {i : Nat} {ea eb : E} {X : Cx} {W : WX} (c : Cxt pm G fe k L N X W sc) {x y : Expr} {pos : Pos} (h1 : pm.eqi = some i) (h2 : behindInMarks .Eq y = false) (iha : PE X x (TEof G W (evE fe ea))) (ihb : PE X y (TEof G W (evE fe eb))) : PE X (.Compare x [.Eq] [y] pos) (TEof G W (evE fe (.eqo i ea eb))) := by
  obtain ⟨_, _, hn, fa, fd, ps, hs, hf, hb, F⟩ := c.wd.eq i h1
  exact pe_eqoF hs hf hn F c.room hb c.tk h2 iha ihb
theorem snd_eqoT {i : Nat} {ea eb : E} {X : Cx} {W : WX} (c : Cxt pm G fe k L N X W sc) {x y : Expr} {pos : Pos} (h1 : pm.eqi = some i) (h2 : behindInMarks .Eq y = false) (iha : PE X x (TEof G W (evE fe ea))) (ihb : PE X y (TEof G W (evE fe eb))) : PT X (.Compare x [.Eq] [y] pos) (TTof G W (evE fe (.eqo i ea eb))) := by
  obtain ⟨_, _, hn, fa, fd, ps, hs, hf, hb, F⟩ := c.wd.eq i h1
  exact pt_eqoF hs hf hn F c.room hb c.tk h2 iha ihb
theorem snd_isF {ea : E} {X : Cx} {W : WX} (c : Cxt pm G fe k L N X W sc) {y : Expr} {p p2 pos : Pos} (h0 : pm.eqi ≠ none) (h1 : pm.cls ≠ "") (h2 : glB sc "isinstance" = true) (h3 : glB sc pm.cls = true) (h4 : (!dbg pm.cls) = true) (h5 : noStar [y] = true) (ih : PE X y (TEof G W (evE fe ea))) :
    PE X (.Call (.Name "isinstance" p) [y, .Name pm.cls p2] [] pos) (TEof G W (evE fe (.isF ea))) := by
  obtain ⟨i, hi⟩ := Option.ne_none_iff_exists'.mp h0
  obtain ⟨ic, ki, _⟩ := c.wd.eq i hi
  obtain ⟨_, m, _⟩ := c.wd.cl h1
  exact pe_isFF ic ki (c.gl h2) (c.bl (by decide +kernel)) (c.gl h3) m (dbg_ok h4).1 h5 ih
theorem varB_ok {X : Cx} {W : WX} {i : Nat} {e : Expr} {sc : Scope} (c : Cxt pm G fe k L N X W sc) (h : varB N i sc e = true) : PE X e (TEof G W (evE fe (.var i))) := by
  unfold varB at h
  split at h
  · simp only [Bool.and_eq_true] at h
    exact pe_varF (c.at_ h.1.1) (c.vis h.1.2) (dbg_ok h.2).1 (dbg_ok h.2).2
  · cases h
theorem Cxt.blk0 {X : Cx} {W : WX} (c : Cxt pm G fe k L N X W sc) (s : Shared) (H : Hp) (scope : Scope) (C : Addr) (cl : List (Str × Addr)) (fp : List Addr) :
    Cxt pm G fe k L N (X.blk s H scope (compEnvC scope cl C X.env) fp) (fun _ _ _ _ => False) (relS scope sc) :=
  ⟨c.hK, c.hN, c.nd, by rw [← c.hsc]; rfl, ⟨c.fr.st, c.fr.fr⟩, fun u s' ⟨_, _, _, _, _, _, _, _, _, _, _, _, _, _, _, _, z⟩ => z.elim, c.calm, c.room, c.wd, fun h => let ⟨a, ⟨c1, p1, b1, b2, b3, b4⟩, d⟩ := c.lw h; ⟨a, ⟨c1, p1, b1, b2, b3, b4⟩, d⟩⟩
theorem snd_comp2 {own : List Nat} {p : P} {i1 : E} {j v : Nat} {X : Cx} {W : WX} (c : Cxt pm G fe k L N X W sc) {elt' tg iter tg1 iter1 : Expr} {scope : Scope} {pos : Pos}
    (h1 : blkC N sc scope (ownN N own) = true) (h2 : (p.slots.all fun i => decide (i ∈ own)) = true) (h3 : v ∈ own) (h4 : chkP (fun x => scope.names.lookup x == some .cell) N (relS scope sc) p tg = true) (h5 : notSet iter = true) (h6 : notSet iter1 = true)
    (ih : PE X iter (TEof G W (evE fe i1))) (h8 : varB N j (relS scope sc) iter1 = true) (h9 : chkP (fun x => scope.names.lookup x == some .cell) N (relS scope sc) (.nm v) tg1 = true) (h10 : varB N v (relS scope sc) elt' = true) :
    PE X (.ListComp elt' [⟨tg, iter, [], 0⟩, ⟨tg1, iter1, [], 0⟩] scope pos) (TEof G W (evE fe (.comp2 own p i1 j v))) := by
  have key := pe_comp2F (W := W) (W2 := fun _ _ _ _ => False) (fe := fe) (own := ownN N own) (p := p) (i1 := i1) (j := j) (v := v) (elt := elt') (tg := tg) (iter := iter) (tg1 := tg1) (iter1 := iter1) (pos := pos) c.calm c.ndX (pi_ofF c.hK ih) (by rw [c.hN, c.hsc]; exact blkOk_by h1)
    (fun i hi => by rw [ownN_snd]; exact of_decide_eq_true (List.all_eq_true.mp h2 i hi)) (by rw [ownN_snd]; exact h3)
    (fun s H C cl fp => chkP_ok (c.blk0 s H scope C cl fp) (fun x z => z) h4)
    (fun s H C cl fp => pi_ofF (c.blk0 s H scope C cl fp).hK (varB_ok (c.blk0 s H scope C cl fp) h8))
    (fun s H C cl fp => chkP_ok (c.blk0 s H scope C cl fp) (fun x z => z) h9)
    (fun s H C cl fp => varB_ok (c.blk0 s H scope C cl fp) h10) (folded_ok h5 _) (fun env x => folded_ok h6 env x)
  rw [ownN_snd] at key
  exact key
theorem comp_ok {X : Cx} {W : WX} (c : Cxt pm G fe k L N X W sc) {own : List Nat} {elt : E} {p : P} {kk : ItK} {i1 i2 : E} {hc : Bool} {cc : E} {elt' tg iter : Expr} {ifs : List Expr} {scope : Scope}
    (h1 : blkC N sc scope (ownN N own) = true) (h2 : (p.slots.all fun i => decide (i ∈ own)) = true) (h3 : chkP (fun x => scope.names.lookup x == some .cell) N (relS scope sc) p tg = true) (h4 : notSet iter = true)
    (hi : PI X tg iter (TIof G W (itR fe kk i1 i2)))
    (ht : ∀ {X : Cx} {W : WX}, Cxt pm G fe k L N X W (relS scope sc) → (match hc, ifs with | true, [t] => PT X t (TTof G W (evE fe cc)) | false, [] => True | _, _ => False))
    (he : ∀ {X : Cx} {W : WX}, Cxt pm G fe k L N X W (relS scope sc) → PE X elt' (TEof G W (evE fe elt))) : CompOk X G W L fe elt' tg iter ifs scope (ownN N own) elt p kk i1 i2 hc cc where
  hi := hi
  ok := by rw [c.hN, c.hsc]; exact blkOk_by h1
  sl := fun i hi => by
    rw [ownN_snd]
    exact of_decide_eq_true (List.all_eq_true.mp h2 i hi)
  hg := fun s H C cl fp xe => chkP_ok (X := (X.blk s H scope (compEnvC scope cl C X.env) fp).wish xe) (W := fun _ _ _ _ => False) (fe := fe) (k := k) (pm := pm) (L := L) (G := G) ⟨c.hK, c.hN, c.nd, by rw [← c.hsc]; rfl, ⟨c.fr.st, c.fr.fr⟩, fun u s' ⟨_, _, _, _, _, _, _, _, _, _, _, _, _, _, _, _, z⟩ => z.elim, c.calm, c.room, c.wd, fun h => let ⟨a, ⟨c1, p1, b1, b2, b3, b4⟩, d⟩ := c.lw h; ⟨a, ⟨c1, p1, b1, b2, b3, b4⟩, d⟩⟩ (fun x z => z) h3
  ht := fun s0 s H C cl fp xe tk => by
    have c' := c.blk s0 s H scope C cl fp xe tk
    have q := ht c'
    cases hc with
    | true =>
      cases ifs with
      | nil => exact q.elim
      | cons t r => cases r with
        | nil => exact pts_one q
        | cons _ _ => exact q.elim
    | false =>
      cases ifs with
      | nil => exact pts_nil
      | cons _ _ => exact q.elim
  he := fun s0 s H C cl fp xe tk => he (c.blk s0 s H scope C cl fp xe tk)
  hs := folded_ok h4 _
theorem iter_ok {X : Cx} {W : WX} (c : Cxt pm G fe k L N X W sc) {kk : ItK} {i1 i2 : E} {tg iter : Expr} (ih1 : ∀ e, chkE pm N i1 sc e = true → PE X e (TEof G W (evE fe i1))) (ih2 : ∀ e, chkE pm N i2 sc e = true → PE X e (TEof G W (evE fe i2)))
    (h : (match kk, iter with
        | .of, it => nonE i2 && chkE pm N i1 sc it
        | .range1, .Call (.Name x _) [a] [] _ => nonE i2 && decide (x = "range") && glB sc "range" && noStar [a] && chkE pm N i1 sc a
        | .range2, .Call (.Name x _) [a, b] [] _ => decide (x = "range") && glB sc "range" && noStar [a, b] && chkE pm N i1 sc a && chkE pm N i2 sc b
        | .enum, .Call (.Name x _) [a] [] _ => nonE i2 && decide (x = "enumerate") && glB sc "enumerate" && isTup tg && noStar [a] && chkE pm N i1 sc a
        | _, _ => false) = true) : PI X tg iter (TIof G W (itR fe kk i1 i2)) := by
  split at h
  · simp only [Bool.and_eq_true] at h
    rw [nonE_eq h.1]
    exact pi_ofF c.hK (ih1 _ h.2)
  · simp only [Bool.and_eq_true, decide_eq_true_eq] at h
    obtain ⟨⟨⟨⟨h1, rfl⟩, h3⟩, h4⟩, h5⟩ := h
    rw [nonE_eq h1]
    exact pi_rng1F (c.gl h3) (c.bl (by decide +kernel)) h4 (ih1 _ h5)
  · simp only [Bool.and_eq_true, decide_eq_true_eq] at h
    obtain ⟨⟨⟨⟨rfl, h3⟩, h4⟩, h5⟩, h6⟩ := h
    exact pi_rng2F (c.gl h3) (c.bl (by decide +kernel)) h4 (ih1 _ h5) (ih2 _ h6)
  · simp only [Bool.and_eq_true, decide_eq_true_eq] at h
    obtain ⟨⟨⟨⟨⟨h1, rfl⟩, h3⟩, h7⟩, h4⟩, h5⟩ := h
    rw [nonE_eq h1]
    cases tg <;> first | exact absurd (show false = true from h7) Bool.false_ne_true | exact pi_enumF c.hK (c.gl h3) (c.bl (by decide +kernel)) h4 (ih1 _ h5)
  · cases h
/-- what the text of a comprehension must bear -/
def compB (pm : Pm) (N : List Str) (own : List Nat) (elt : E) (p : P) (k : ItK) (i1 i2 : E) (hc : Bool) (c : E) (sc : Scope) (elt' tg iter : Expr) (ifs : List Expr) (scope : Scope) : Bool :=
  blkC N sc scope (ownN N own) && (p.slots.all fun i => decide (i ∈ own)) && chkP (fun x => scope.names.lookup x == some .cell) N (relS scope sc) p tg && notSet iter &&
      (match k, iter with
        | .of, it => nonE i2 && chkE pm N i1 sc it
        | .range1, .Call (.Name x _) [a] [] _ => nonE i2 && decide (x = "range") && glB sc "range" && noStar [a] && chkE pm N i1 sc a
        | .range2, .Call (.Name x _) [a, b] [] _ => decide (x = "range") && glB sc "range" && noStar [a, b] && chkE pm N i1 sc a && chkE pm N i2 sc b
        | .enum, .Call (.Name x _) [a] [] _ => nonE i2 && decide (x = "enumerate") && glB sc "enumerate" && isTup tg && noStar [a] && chkE pm N i1 sc a
        | _, _ => false) &&
      (match hc, ifs with
        | true, [t] => chkT pm N c (relS scope sc) t
        | false, [] => true
        | _, _ => false) && chkE pm N elt (relS scope sc) elt'
theorem comp_of {own : List Nat} {elt : E} {p : P} {kk : ItK} {i1 i2 : E} {hc : Bool} {cc : E} (ihe : SndE pm G fe k L N elt) (ih1 : SndE pm G fe k L N i1) (ih2 : SndE pm G fe k L N i2) (ihc : SndT pm G fe k L N cc) {X : Cx} {W : WX} {sc : Scope} (c : Cxt pm G fe k L N X W sc)
    {elt' tg iter : Expr} {ifs : List Expr} {scope : Scope} (h : compB pm N own elt p kk i1 i2 hc cc sc elt' tg iter ifs scope = true) : CompOk X G W L fe elt' tg iter ifs scope (ownN N own) elt p kk i1 i2 hc cc := by
  obtain ⟨h, h7⟩ := Bool.and_eq_true_iff.mp h
  obtain ⟨h, h6⟩ := Bool.and_eq_true_iff.mp h
  obtain ⟨h, h5⟩ := Bool.and_eq_true_iff.mp h
  obtain ⟨h, h4⟩ := Bool.and_eq_true_iff.mp h
  obtain ⟨h, h3⟩ := Bool.and_eq_true_iff.mp h
  obtain ⟨h1, h2⟩ := Bool.and_eq_true_iff.mp h
  refine comp_ok c h1 h2 h3 h4 (iter_ok c (fun e h => ih1 c e h) (fun e h => ih2 c e h) h5) (fun {X W} c' => ?_) (fun {X W} c' => ihe c' _ h7)
  split at h6
  · exact (ihc c' _ h6).1
  · exact trivial
  · cases h6
theorem both {X : Cx} {e : Expr} {t : TT} (q : PW X e t) : PT X e t ∧ (isBoolOp e = true → PW X e t) := ⟨q.pt, fun _ => q⟩
set_option maxHeartbeats 16000000 in
mutual
theorem sndE0 : ∀ (ce : E) (pm : Pm) (fe : FEnv) (k : Nat) (L : Addr), SndE pm G fe k L N ce ∧ SndT pm G fe k L N ce
  | .var i, pm, fe, k, L => by
    have pe : SndE pm G fe k L N (.var i) := fun {X W sc} c e h => by
      unfold chkE at h
      split at h
      · simp only [Bool.and_eq_true] at h
        exact pe_varF (c.at_ h.1.1) (c.vis h.1.2) (dbg_ok h.2).1 (dbg_ok h.2).2
      · cases h
    refine ⟨pe, fun {X W sc} c e h => ?_⟩
    unfold chkT at h
    split at h
    · exact ⟨pt_val (pe c _ (by unfold chkE; exact h)), fun z => absurd (show false = true from z) Bool.false_ne_true⟩
    · cases h
  | .cst t, pm, fe, k, L => ⟨fun {X W sc} c e h => cst_ok c (by unfold chkE at h; exact h), fun {X W sc} c e h => by unfold chkT at h; cases h⟩
  | .bin op al a b, pm, fe, k, L => by
    have iha := sndE0 a pm fe k L
    have ihb := sndE0 b pm fe k L
    refine ⟨fun {X W sc} c e h => ?_, fun {X W sc} c e h => by unfold chkT at h; cases h⟩
    unfold chkE at h
    split at h
    · simp only [Bool.and_eq_true] at h
      rw [of_decide_eq_true (show decide (_ = binOp op) = true from h.1.1)]
      exact pe_binF c.hK op al (iha.1 c _ h.1.2) (ihb.1 c _ h.2)
    · cases h
  | .neg a, pm, fe, k, L => by
    have iha := sndE0 a pm fe k L
    refine ⟨fun {X W sc} c e h => ?_, fun {X W sc} c e h => by unfold chkT at h; cases h⟩
    unfold chkE at h
    split at h
    · exact pe_negF (iha.1 c _ h)
    · cases h
  | .cmp op a b, pm, fe, k, L => by
    have iha := sndE0 a pm fe k L
    have ihb := sndE0 b pm fe k L
    refine ⟨fun {X W sc} c e h => ?_, fun {X W sc} c e h => ?_⟩
    · unfold chkE at h
      split at h
      · simp only [Bool.and_eq_true] at h
        rw [of_decide_eq_true (show decide (_ = cmpOp op) = true from h.1.1.1)]
        exact pe_cmpF c.hK c.units op (not_true h.1.1.2) (iha.1 c _ h.1.2) (ihb.1 c _ h.2)
      · cases h
    · unfold chkT at h
      split at h
      · simp only [Bool.and_eq_true] at h
        rw [of_decide_eq_true (show decide (_ = cmpOp op) = true from h.1.1.1)]
        exact ⟨pt_cmpF c.hK c.units op (not_true h.1.1.2) (iha.1 c _ h.1.2) (ihb.1 c _ h.2), fun z => absurd (show false = true from z) Bool.false_ne_true⟩
      · cases h
  | .chain o1 o2 a b cc, pm, fe, k, L => by
    have iha := sndE0 a pm fe k L
    have ihb := sndE0 b pm fe k L
    have ihc := sndE0 cc pm fe k L
    refine ⟨fun {X W sc} c e h => ?_, fun {X W sc} c e h => ?_⟩
    · unfold chkE at h
      split at h
      · simp only [Bool.and_eq_true] at h
        obtain ⟨⟨⟨⟨⟨h1, h2⟩, h3⟩, h4⟩, h5⟩, h6⟩ := h
        rw [of_decide_eq_true (show decide (_ = cmpOp o1) = true from h1), of_decide_eq_true (show decide (_ = cmpOp o2) = true from h2)]
        exact pe_chainF c.hK c.units o1 o2 (not_true h3) (iha.1 c _ h4) (ihb.1 c _ h5) (ihc.1 c _ h6) fun r r' k1 k2 => pe_chain k1 k2 (iha.1 c _ h4) (ihb.1 c _ h5) (ihc.1 c _ h6) (not_true h3)
      · cases h
    · unfold chkT at h
      split at h
      · simp only [Bool.and_eq_true] at h
        obtain ⟨⟨⟨⟨⟨h1, h2⟩, h3⟩, h4⟩, h5⟩, h6⟩ := h
        rw [of_decide_eq_true (show decide (_ = cmpOp o1) = true from h1), of_decide_eq_true (show decide (_ = cmpOp o2) = true from h2)]
        obtain ⟨r1, k1, l1⟩ := cmp_all (X := X) (G := G) c.hK c.units o1
        obtain ⟨r2, k2, l2⟩ := cmp_all (X := X) (G := G) c.hK c.units o2
        refine ⟨ptI (pt_chain k1 k2 (iha.1 c _ h4) (ihb.1 c _ h5) (ihc.1 c _ h6) (not_true h3)) fun s H Q q => ?_, fun z => absurd (show false = true from z) Bool.false_ne_true⟩
        exact chain_reads c.hK l1 l2 s H _ q
      · cases h
  | .and a b, pm, fe, k, L => by
    have iha := sndE0 a pm fe k L
    have ihb := sndE0 b pm fe k L
    refine ⟨fun {X W sc} c e h => ?_, fun {X W sc} c e h => ?_⟩
    · unfold chkE at h
      split at h
      · simp only [Bool.and_eq_true] at h
        exact pe_andF (iha.1 c _ h.1) (pe_one (ihb.1 c _ h.2))
      · simp only [Bool.and_eq_true] at h
        exact pe_andF (iha.1 c _ h.1) (ihb.1 c _ h.2)
      · cases h
    · unfold chkT at h
      split at h
      · simp only [Bool.and_eq_true] at h
        exact both (pw_andF (rest := []) (iha.2 c _ h.1).1 (pw_and1 (ihb.2 c _ h.2).1))
      · simp only [Bool.and_eq_true] at h
        exact both (pw_andF (iha.2 c _ h.1).1 ((ihb.2 c _ h.2).2 rfl))
      · cases h
  | .or a b, pm, fe, k, L => by
    have iha := sndE0 a pm fe k L
    have ihb := sndE0 b pm fe k L
    refine ⟨fun {X W sc} c e h => ?_, fun {X W sc} c e h => ?_⟩
    · unfold chkE at h
      split at h
      · simp only [Bool.and_eq_true] at h
        exact pe_orF (iha.1 c _ h.1) (pe_one (ihb.1 c _ h.2))
      · simp only [Bool.and_eq_true] at h
        exact pe_orF (iha.1 c _ h.1) (ihb.1 c _ h.2)
      · cases h
    · unfold chkT at h
      split at h
      · simp only [Bool.and_eq_true] at h
        exact both (pw_orF (rest := []) (iha.2 c _ h.1).1 (pw_or1 (ihb.2 c _ h.2).1))
      · simp only [Bool.and_eq_true] at h
        exact both (pw_orF (iha.2 c _ h.1).1 ((ihb.2 c _ h.2).2 rfl))
      · cases h
  | .not a, pm, fe, k, L => by
    have iha := sndE0 a pm fe k L
    refine ⟨fun {X W sc} c e h => ?_, fun {X W sc} c e h => ?_⟩
    · unfold chkE at h
      split at h
      · exact pe_notF (iha.1 c _ h)
      · cases h
    · unfold chkT at h
      split at h
      · exact ⟨pt_notF (iha.2 c _ h).1, fun z => absurd (show false = true from z) Bool.false_ne_true⟩
      · cases h
  | .ite cc a b, pm, fe, k, L => by
    have ihc := sndE0 cc pm fe k L
    have iha := sndE0 a pm fe k L
    have ihb := sndE0 b pm fe k L
    refine ⟨fun {X W sc} c e h => ?_, fun {X W sc} c e h => by unfold chkT at h; cases h⟩
    unfold chkE at h
    split at h
    · simp only [Bool.and_eq_true] at h
      exact pe_iteF (ihc.2 c _ h.1.1).1 (iha.1 c _ h.1.2) (ihb.1 c _ h.2)
    · cases h
  | .tup es, pm, fe, k, L => by
    have ih : SndEs pm G fe k L N es := sndEs0 es pm fe k L
    refine ⟨fun {X W sc} c e h => ?_, fun {X W sc} c e h => by unfold chkT at h; cases h⟩
    unfold chkE at h
    split at h
    · simp only [Bool.and_eq_true] at h
      exact pe_tupF (ih c _ h.1 h.2)
    · cases h
  | .lst al es, pm, fe, k, L => by
    have ih : SndEs pm G fe k L N es := sndEs0 es pm fe k L
    refine ⟨fun {X W sc} c e h => ?_, fun {X W sc} c e h => by unfold chkT at h; cases h⟩
    unfold chkE at h
    split at h
    · simp only [Bool.and_eq_true] at h
      exact pe_lstF (ih c _ h.1 h.2)
    · cases h
  | .idx a b, pm, fe, k, L => by
    have iha := sndE0 a pm fe k L
    have ihb := sndE0 b pm fe k L
    have key : ∀ {X : Cx} {W : WX} {sc : Scope}, Cxt pm G fe k L N X W sc → ∀ {x y : Expr} {p : Pos}, (notSl y && chkE pm N a sc x && chkE pm N b sc y) = true → PE X (.Subscript x y p) (TEof G W (evE fe (.idx a b))) := fun {X W sc} c x y p h => by
      simp only [Bool.and_eq_true] at h
      exact pe_idxF c.hK h.1.1 (iha.1 c _ h.1.2) (ihb.1 c _ h.2)
    refine ⟨fun {X W sc} c e h => ?_, fun {X W sc} c e h => ?_⟩
    · unfold chkE at h
      split at h
      · exact key c h
      · cases h
    · unfold chkT at h
      split at h
      · exact ⟨pt_val (key c h), fun z => absurd (show false = true from z) Bool.false_ne_true⟩
      · cases h
  | .slc al a hl hh lo hi, pm, fe, k, L => by
    have iha := sndE0 a pm fe k L
    have ihl := sndE0 lo pm fe k L
    have ihh := sndE0 hi pm fe k L
    refine ⟨fun {X W sc} c e h => ?_, fun {X W sc} c e h => by unfold chkT at h; cases h⟩
    unfold chkE at h
    split at h
    · simp only [Bool.and_eq_true] at h
      obtain ⟨⟨h1, h2⟩, h3⟩ := h
      refine pe_slcF c.hK (iha.1 c _ h1) ?_ ?_
      · split at h2
        · exact po_someF (ihl.1 c _ h2)
        · exact po_noneF
        · cases h2
      · split at h3
        · exact po_someF (ihh.1 c _ h3)
        · exact po_noneF
        · cases h3
    · cases h
  | .bfn f al es, pm, fe, k, L => by
    have ih : SndEs pm G fe k L N es := sndEs0 es pm fe k L
    refine ⟨fun {X W sc} c e h => ?_, fun {X W sc} c e h => ?_⟩
    · unfold chkE at h
      split at h
      · rcases Bool.or_eq_true_iff.mp h with h | h
        · obtain ⟨h0, hh⟩ := Bool.and_eq_true_iff.mp h
          clear h
          have h0 := of_decide_eq_true h0
          subst h0
          split at hh
          · simp only [Bool.and_eq_true, decide_eq_true_eq] at hh
            obtain ⟨⟨⟨⟨⟨e1, h2⟩, e3⟩, h4⟩, h5⟩, h6⟩ := hh
            rw [e1, e3]
            exact pe_rngA c.calm (c.gl h2) (c.bl (by decide +kernel)) (c.gl h4) (c.bl (by decide +kernel)) h5 (ih c _ h5 h6)
          · cases hh
        · simp only [Bool.and_eq_true, decide_eq_true_eq] at h
          obtain ⟨⟨⟨⟨h1, h2⟩, h3⟩, h4⟩, h5⟩ := h
          exact snd_bfn c h1 h2 h3 h4 (ih c _ h4 h5)
      · cases h
    · unfold chkT at h
      split at h
      · simp only [Bool.and_eq_true, decide_eq_true_eq] at h
        obtain ⟨⟨⟨⟨h1, h2⟩, h3⟩, h4⟩, h5⟩ := h
        exact ⟨pt_val (snd_bfn c h1 h2 h3 h4 (ih c _ h4 h5)), fun z => absurd (show false = true from z) Bool.false_ne_true⟩
      · cases h
  | .met f al o es, pm, fe, k, L => by
    have iho := sndE0 o pm fe k L
    have ih : SndEs pm G fe k L N es := sndEs0 es pm fe k L
    refine ⟨fun {X W sc} c e h => ?_, fun {X W sc} c e h => by unfold chkT at h; cases h⟩
    unfold chkE at h
    split at h
    · simp only [Bool.and_eq_true, decide_eq_true_eq] at h
      obtain ⟨⟨⟨⟨⟨⟨⟨h1, h2⟩, h3⟩, h4⟩, h5⟩, h6⟩, h7⟩, h8⟩ := h
      exact pe_metF c.hK h1 h2 h3 h4 h5 h6 (iho.1 c _ h7) (ih c _ h3 h8)
    · cases h
  | .isi ty a, pm, fe, k, L => by
    have iha := sndE0 a pm fe k L
    refine ⟨fun {X W sc} c e h => ?_, fun {X W sc} c e h => ?_⟩
    · unfold chkE at h
      split at h
      · simp only [Bool.and_eq_true, decide_eq_true_eq] at h
        obtain ⟨⟨⟨⟨⟨h1, h2⟩, h3⟩, h4⟩, h5⟩, h6⟩ := h
        exact snd_isi c h1 h2 h3 h4 h5 (iha.1 c _ h6)
      · cases h
    · unfold chkT at h
      split at h
      · simp only [Bool.and_eq_true, decide_eq_true_eq] at h
        obtain ⟨⟨⟨⟨⟨h1, h2⟩, h3⟩, h4⟩, h5⟩, h6⟩ := h
        exact ⟨pt_val (snd_isi c h1 h2 h3 h4 h5 (iha.1 c _ h6)), fun z => absurd (show false = true from z) Bool.false_ne_true⟩
      · cases h
  | .call pu i es, pm, fe, k, L => by
    have ih : SndEs pm G fe k L N es := sndEs0 es pm fe k L
    refine ⟨fun {X W sc} c e h => ?_, fun {X W sc} c e h => ?_⟩
    · unfold chkE at h
      split at h
      · simp only [Bool.and_eq_true, decide_eq_true_eq] at h
        obtain ⟨⟨⟨⟨h1, h2⟩, h3⟩, h4⟩, h5⟩ := h
        exact snd_call c h1 h2 h3 h4 (ih c _ h4 h5)
      · simp only [Bool.and_eq_true, decide_eq_true_eq] at h
        obtain ⟨⟨⟨h1, h2⟩, h3⟩, h4⟩ := h
        rw [chkEs_nil h4]
        exact snd_call0 c h1 h2 h3
      · cases h
    · unfold chkT at h
      split at h
      · simp only [Bool.and_eq_true, decide_eq_true_eq] at h
        obtain ⟨⟨⟨⟨h1, h2⟩, h3⟩, h4⟩, h5⟩ := h
        exact ⟨pt_val (snd_call c h1 h2 h3 h4 (ih c _ h4 h5)), fun z => absurd (show false = true from z) Bool.false_ne_true⟩
      · simp only [Bool.and_eq_true, decide_eq_true_eq] at h
        obtain ⟨⟨⟨h1, h2⟩, h3⟩, h4⟩ := h
        rw [chkEs_nil h4]
        exact ⟨pt_val (snd_call0 c h1 h2 h3), fun z => absurd (show false = true from z) Bool.false_ne_true⟩
      · cases h
  | .comp al own elt p kk i1 i2 hc cc, pm, fe, k, L => by
    have ihe := sndE0 elt pm fe k L
    have ih1 := sndE0 i1 pm fe k L
    have ih2 := sndE0 i2 pm fe k L
    have ihc := sndE0 cc pm fe k L
    refine ⟨fun {X W sc} c e h => ?_, fun {X W sc} c e h => by unfold chkT at h; cases h⟩
    unfold chkE at h
    split at h
    · exact Eq.mp (congrArg (fun o => PE X _ (TEof G W (evE fe (FC.E.comp al o elt p kk i1 i2 hc cc)))) (ownN_snd N own)) (pe_compF c.calm c.ndX c.fr c.tk (comp_of ihe.1 ih1.1 ih2.1 ihc.2 c h))
    · cases h
  | .told a, pm, fe, k, L => by
    have iha : ∀ (pm : Pm) (fe : FEnv) (k : Nat) (L : Addr), SndE pm G fe k L N a := fun pm fe k L => (sndE0 a pm fe k L).1
    refine ⟨fun {X W sc} c e h => ?_, fun {X W sc} c e h => by unfold chkT at h; cases h⟩
    unfold chkE at h
    split at h
    · simp only [Bool.and_eq_true, decide_eq_true_eq] at h
      obtain ⟨⟨⟨⟨⟨h1, h2⟩, h3⟩, h4⟩, h5⟩, h6⟩ := h
      obtain ⟨tw, lc, j, ek, wd⟩ := c.lw h1
      subst h2 ek
      rename_i params body scope _ _
      have Ls : LamS X.env.scope scope := by rw [c.hsc]; exact lamS_by h5
      refine pe_toldF tw lc (c.gl h3) c.room Ls h4 fun A outer s H E f c' hr => ?_
      refine iha pm.low (lowE fe) j (lamN X A outer s H E scope f c').env.locals (X := lamN X A outer s H E scope f c') ⟨c.hK, c.hN, c.nd, rfl, ⟨⟨_, _, rfl, rfl⟩, rfl⟩, fun u s' x => ?_, rfl, hr, wd, fun z => by cases z⟩ _ h6
      exact L2N.takes_of (X := lamN X A outer s H E scope f c') rfl rfl rfl rfl u s' (XE_of_air rfl x)
    · cases h
  | .fld a x, pm, fe, k, L => by
    have iha := sndE0 a pm fe k L
    refine ⟨fun {X W sc} c e h => ?_, fun {X W sc} c e h => by unfold chkT at h; cases h⟩
    unfold chkE at h
    split at h
    · simp only [Bool.and_eq_true, decide_eq_true_eq] at h
      obtain ⟨⟨⟨⟨h1, h2⟩, h3⟩, h4⟩, h5⟩ := h
      subst h2
      exact snd_fld c h1 h3 h4 (iha.1 c _ h5)
    · cases h
  | .meth i m o es, pm, fe, k, L => by
    have iho := sndE0 o pm fe k L
    have ih : SndEs pm G fe k L N es := sndEs0 es pm fe k L
    refine ⟨fun {X W sc} c e h => ?_, fun {X W sc} c e h => by unfold chkT at h; cases h⟩
    unfold chkE at h
    split at h
    · simp only [Bool.and_eq_true, decide_eq_true_eq] at h
      obtain ⟨⟨⟨⟨⟨⟨⟨⟨h1, h2⟩, h3⟩, h4⟩, h5⟩, h6⟩, h7⟩, h8⟩, h9⟩ := h
      subst h2
      exact snd_meth c h1 h3 h4 h5 h6 h7 (iho.1 c _ h8) (ih c _ h4 h9) fun z => by subst z; exact chkEs_nil h9
    · cases h
  | .make i es, pm, fe, k, L => by
    have ih : SndEs pm G fe k L N es := sndEs0 es pm fe k L
    refine ⟨fun {X W sc} c e h => ?_, fun {X W sc} c e h => by unfold chkT at h; cases h⟩
    unfold chkE at h
    split at h
    · simp only [Bool.and_eq_true, decide_eq_true_eq] at h
      obtain ⟨⟨⟨⟨⟨⟨h1, h2⟩, h3⟩, h4⟩, h5⟩, h6⟩, h7⟩ := h
      subst h2 h3
      exact snd_make c h1 h4 h5 h6 (ih c _ h6 h7)
    · cases h
  | .size i a, pm, fe, k, L => by
    have iha := sndE0 a pm fe k L
    refine ⟨fun {X W sc} c e h => ?_, fun {X W sc} c e h => by unfold chkT at h; cases h⟩
    unfold chkE at h
    split at h
    · simp only [Bool.and_eq_true, decide_eq_true_eq] at h
      obtain ⟨⟨⟨⟨h1, h2⟩, h3⟩, h4⟩, h5⟩ := h
      subst h1
      exact snd_size c h2 h3 h4 (iha.1 c _ h5)
    · cases h
  | .eqo i a b, pm, fe, k, L => by
    have iha := sndE0 a pm fe k L
    have ihb := sndE0 b pm fe k L
    refine ⟨fun {X W sc} c e h => ?_, fun {X W sc} c e h => ?_⟩
    · unfold chkE at h
      split at h
      · simp only [Bool.and_eq_true, decide_eq_true_eq] at h
        obtain ⟨⟨⟨h1, h2⟩, h3⟩, h4⟩ := h
        exact snd_eqo c h1 (not_true h2) (iha.1 c _ h3) (ihb.1 c _ h4)
      · cases h
    · unfold chkT at h
      split at h
      · simp only [Bool.and_eq_true, decide_eq_true_eq] at h
        obtain ⟨⟨⟨h1, h2⟩, h3⟩, h4⟩ := h
        exact ⟨snd_eqoT c h1 (not_true h2) (iha.1 c _ h3) (ihb.1 c _ h4), fun z => absurd (show false = true from z) Bool.false_ne_true⟩
      · cases h
  | .isF a, pm, fe, k, L => by
    have iha := sndE0 a pm fe k L
    refine ⟨fun {X W sc} c e h => ?_, fun {X W sc} c e h => ?_⟩
    · unfold chkE at h
      split at h
      · simp only [Bool.and_eq_true, decide_eq_true_eq] at h
        obtain ⟨⟨⟨⟨⟨⟨⟨⟨h0, h1⟩, h2⟩, h3⟩, h4⟩, h5⟩, h6⟩, h7⟩, h8⟩ := h
        subst h2 h4
        exact snd_isF c h0 h1 h3 h5 h6 h7 (iha.1 c _ h8)
      · cases h
    · unfold chkT at h
      split at h
      · simp only [Bool.and_eq_true, decide_eq_true_eq] at h
        obtain ⟨⟨⟨⟨⟨⟨⟨⟨h0, h1⟩, h2⟩, h3⟩, h4⟩, h5⟩, h6⟩, h7⟩, h8⟩ := h
        subst h2 h4
        exact ⟨pt_val (snd_isF c h0 h1 h3 h5 h6 h7 (iha.1 c _ h8)), fun z => absurd (show false = true from z) Bool.false_ne_true⟩
      · cases h
  | .comp2 own p i1 j v, pm, fe, k, L => by
    have ih1 := sndE0 i1 pm fe k L
    refine ⟨fun {X W sc} c e h => ?_, fun {X W sc} c e h => by unfold chkT at h; cases h⟩
    unfold chkE at h
    split at h
    · simp only [Bool.and_eq_true, decide_eq_true_eq] at h
      obtain ⟨⟨⟨⟨⟨⟨⟨⟨⟨h1, h2⟩, h3⟩, h4⟩, h5⟩, h6⟩, h7⟩, h8⟩, h9⟩, h10⟩ := h
      exact snd_comp2 c h1 h2 h3 h4 h5 h6 (ih1.1 c _ h7) h8 h9 h10
    · cases h
theorem sndEs0 : ∀ (ces : List E) (pm : Pm) (fe : FEnv) (k : Nat) (L : Addr), SndEs pm G fe k L N ces
  | [], pm, fe, k, L => by
    intro c es n h
    unfold chkEs at h
    split at h
    · exact pa_nilF
    · cases h
  | a :: r, pm, fe, k, L => by
    have iha := sndE0 a pm fe k L
    have ih : SndEs pm G fe k L N r := sndEs0 r pm fe k L
    intro c es n h
    unfold chkEs at h
    split at h
    · simp only [Bool.and_eq_true] at h
      exact pa_consF n (iha.1 c _ h.1) (ih c _ (noStar_tail n) h.2)
    · cases h
end
theorem sndE (ce : E) : SndE pm G fe k L N ce ∧ SndT pm G fe k L N ce := sndE0 ce pm fe k L
theorem sndEs (ces : List E) : SndEs pm G fe k L N ces := sndEs0 ces pm fe k L
end
end FC
end

section
set_option Elab.async false
set_option linter.all false
set_option maxRecDepth 100000
set_option maxHeartbeats 8000000
/-! FcSndC: the checker for statements, and what it is worth. -/
namespace FC
open PySem PySem.Spec PyProof.Rows L2 LamX

/-! ### what a store does with its value -/
/-- a comprehension goes to its name by itself -/
def swC (sc : Scope) (names : List (Str × NameKind)) (l : Nat) (y : Str) (pl : Nat) : Bool :=
  decide (sc.names.lookup y = some .local) && (pl == l) && !(names.any fun (n, k) => n == y && (k == .local || k == .cell))
theorem swaps_comp {elt : Expr} {gs : List Comprehension} {scope : Scope} {pos py : Pos} {y : Str} {l : Nat} {env : PySem.Env} (hk : env.scope.kind = .function) :
    swapsWith (.ListComp elt gs scope pos) (some (.Name y py)) l env = pure (swC env.scope scope.names pos.line y py.line) := by
  have hb : env.blockKind = .function := by unfold Env.blockKind; rw [hk]; rfl
  unfold swapsWith
  simp only [hb]
  show (pure ((ScopeKind.function == ScopeKind.function) && (env.kindOf y == some .local) && (py.line == pos.line) && !(scope.names.any fun (n, k) => n == y && (k == .local || k == .cell))) : Sem Bool) = _
  congr 1
  have e1 : (env.kindOf y == some NameKind.local) = decide (env.scope.names.lookup y = some NameKind.local) := by
    rw [Bool.eq_iff_iff]
    simp [Env.kindOf]
  rw [e1]
  rfl
/-- several names at once: stored as they stand -/
def swNames (sc : Scope) (line : Nat) (ts : List Expr) : List Str := ts.filterMap fun
    | .Name id pos => if sc.names.lookup id == some .local && pos.line == line then some id else none
    | _ => none
def isStar : Expr → Bool | .Starred .. => true | _ => false
def swN (sc : Scope) (ts vs : List Expr) : Option (Option (List Str)) :=
  if !(ts.length == 2 || ts.length == 3) || vs.length != ts.length then some none
  else if vs.any fun | .Starred .. => true | _ => false then some none
  else
    let names := swNames sc ((ts.head?.map (·.pos.line)).getD 0) ts
    if names.length != ts.length || names.eraseDups.length != names.length then some none
    else if vs.all (foldedForSure 8) then some none
    else if vs.all (constantsAlone 8) then none
    else some (some names)
theorem swN_ok {sc : Scope} {env : PySem.Env} {ts vs : List Expr} {k k2 : Nat} {p p2 : Pos} {o : Option (List Str)} (hs : env.scope = sc) (hk : sc.kind = .function) (h : swN sc ts vs = some o) :
    swappedStores [.Tuple ts k p] (.Tuple vs k2 p2) env = pure o := by
  subst hs
  have hb : env.blockKind = .function := by unfold Env.blockKind; rw [hk]; rfl
  unfold swN at h
  unfold swappedStores
  have e0 : ((!(ts.length == 2 || ts.length == 3) || vs.length != ts.length) || (env.blockKind != .function)) = (!(ts.length == 2 || ts.length == 3) || vs.length != ts.length) := by
    rw [hb]; simp
  by_cases c1 : (!(ts.length == 2 || ts.length == 3) || vs.length != ts.length) = true
  · rw [if_pos c1] at h
    cases h
    show (if ((!(ts.length == 2 || ts.length == 3) || vs.length != ts.length) || (env.blockKind != .function)) = true then pure none else _) = _
    rw [e0, if_pos c1]
  · rw [if_neg c1] at h
    show (if ((!(ts.length == 2 || ts.length == 3) || vs.length != ts.length) || (env.blockKind != .function)) = true then pure none else _) = _
    rw [e0, if_neg c1]
    by_cases c2 : (vs.any fun | .Starred .. => true | _ => false) = true
    · rw [if_pos c2] at h
      cases h
      show (if (vs.any fun | .Starred .. => true | _ => false) = true then pure none else _) = _
      rw [if_pos c2]
    · rw [if_neg c2] at h
      show (if (vs.any fun | .Starred .. => true | _ => false) = true then pure none else _) = _
      rw [if_neg c2]
      by_cases c3 : ((swNames env.scope ((ts.head?.map (·.pos.line)).getD 0) ts).length != ts.length || (swNames env.scope ((ts.head?.map (·.pos.line)).getD 0) ts).eraseDups.length != (swNames env.scope ((ts.head?.map (·.pos.line)).getD 0) ts).length) = true
      · rw [if_pos c3] at h
        cases h
        show (if ((swNames env.scope ((ts.head?.map (·.pos.line)).getD 0) ts).length != ts.length || (swNames env.scope ((ts.head?.map (·.pos.line)).getD 0) ts).eraseDups.length != (swNames env.scope ((ts.head?.map (·.pos.line)).getD 0) ts).length) = true then pure none else _) = _
        rw [if_pos c3]
      · rw [if_neg c3] at h
        show (if ((swNames env.scope ((ts.head?.map (·.pos.line)).getD 0) ts).length != ts.length || (swNames env.scope ((ts.head?.map (·.pos.line)).getD 0) ts).eraseDups.length != (swNames env.scope ((ts.head?.map (·.pos.line)).getD 0) ts).length) = true then pure none else _) = _
        rw [if_neg c3]
        by_cases c4 : (vs.all (foldedForSure 8)) = true
        · rw [if_pos c4] at h
          cases h
          show (if (vs.all (foldedForSure 8)) = true then pure none else _) = _
          rw [if_pos c4]
        · rw [if_neg c4] at h
          show (if (vs.all (foldedForSure 8)) = true then pure none else _) = _
          rw [if_neg c4]
          by_cases c5 : (vs.all (constantsAlone 8)) = true
          · rw [if_pos c5] at h
            cases h
          · rw [if_neg c5] at h
            cases h
            show (if (vs.all (constantsAlone 8)) = true then _ else _) = _
            rw [if_neg c5]
            rfl
def isLT : Expr → Bool | .Tuple .. => true | .List .. => true | _ => false
theorem sw_plain {tg e : Expr} {env : PySem.Env} (h : (isLT tg && isTup e) = false) : swappedStores [tg] e env = pure none := by
  cases tg <;> first
    | rfl
    | (cases e <;> first | rfl | (exact absurd (show true = false from h) (fun z => by cases z)))
/-- nothing swapped -/
def swO (sc : Scope) : Expr → Expr → Bool
  | .Tuple ts _ _, .Tuple vs _ _ => decide (swN sc ts vs = some none)
  | tg, e => !(isLT tg && isTup e)
theorem swO_ok {sc : Scope} {env : PySem.Env} {tg e : Expr} (hs : env.scope = sc) (hk : sc.kind = .function) (h : swO sc tg e = true) : swappedStores [tg] e env = pure none := by
  unfold swO at h
  split at h
  · exact swN_ok hs hk (of_decide_eq_true h)
  · exact sw_plain (not_true h)

/-! ### the checker -/
mutual
def chkG (pm : Pm) (N : List Str) (sc : Scope) : Tg → Expr → Bool
  | .name i, e => match e with
    | .Name x _ => atB N i x && locC (fun _ => true) sc x
    | _ => false
  | .tup ts, e => match e with
    | .Tuple es _ _ => noStar es && decide (es.length = ts.length) && chkGs pm N sc ts es
    | _ => false
  | .sub o i, e => match e with
    | .Subscript x y _ => notSl y && chkE pm N o sc x && chkE pm N i sc y
    | _ => false
def chkGs (pm : Pm) (N : List Str) (sc : Scope) : List Tg → List Expr → Bool
  | [], es => match es with | [] => true | _ => false
  | p :: ps, es => match es with
    | e :: es => chkG pm N sc p e && chkGs pm N sc ps es
    | _ => false
end
/-- a comprehension, a name: stored by itself -/
def swSelf (sc : Scope) : Expr → Expr → Bool
  | .Name y py, .ListComp _ _ scope pos => swC sc scope.names pos.line y py.line
  | _, _ => false
def chkA (pm : Pm) (N : List Str) (sc : Scope) (t : Tg) (a : E) (tg e : Expr) : Bool :=
  match t, a, tg, e with
  | .name i, .comp _ own elt p k i1 i2 hc c, .Name y py, .ListComp elt' [⟨tg', iter, ifs, 0⟩] scope pos =>
    atB N i y && (if swC sc scope.names pos.line y py.line then locB sc y && compB pm N own elt p k i1 i2 hc c sc elt' tg' iter ifs scope else locC (fun _ => true) sc y && compB pm N own elt p k i1 i2 hc c sc elt' tg' iter ifs scope)
  | .tup [.name i, .name j], .tup [a, b], .Tuple [.Name x px, .Name y py] _ _, .Tuple [v, w] _ _ => 
    (match swN sc [.Name x px, .Name y py] [v, w] with
      | some (some names) => decide (names = [x, y]) && locB sc x && locB sc y && decide (i ≠ j)
      | some none => locC (fun _ => true) sc x && locC (fun _ => true) sc y
      | none => false) && atB N i x && atB N j y && noStar [v, w] && chkE pm N a sc v && chkE pm N b sc w
  | .tup [.name i, .name j, .name l], .tup [a, b, c], .Tuple [.Name x px, .Name y py, .Name z pz] _ _, .Tuple [v, w, u] _ _ => 
    (match swN sc [.Name x px, .Name y py, .Name z pz] [v, w, u] with
      | some (some names) => decide (names = [x, y, z]) && locB sc x && locB sc y && locB sc z && decide (i ≠ j) && decide (i ≠ l) && decide (j ≠ l)
      | some none => locC (fun _ => true) sc x && locC (fun _ => true) sc y && locC (fun _ => true) sc z
      | none => false) && atB N i x && atB N j y && atB N l z && noStar [v, w, u] && chkE pm N a sc v && chkE pm N b sc w && chkE pm N c sc u
  | t, a, tg, e => notComp e && swO sc tg e && noStar [tg] && chkG pm N sc t tg && chkE pm N a sc e
def isNever : C → Bool | .never => true | _ => false
mutual
def chkC (pm : Pm) (exs : List Nat) (N : List Str) (sc : Scope) : C → Stmt → Bool
  | .expr a, st => match st with
    | .Expr e _ => notComp e && chkE pm N a sc e
    | _ => false
  | .ret a, st => match st with
    | .Return (some e) _ => chkE pm N a sc e
    | _ => false
  | .asg t a, st => match st with
    | .Assign [tg] e _ => chkA pm N sc t a tg e
    | _ => false
  | .ite c a b, st => match st with
    | .If t x y _ => chkT pm N c sc t && chkCs pm exs N sc a x && chkCs pm exs N sc b y
    | _ => false
  | .loop p k i1 i2 b, st => match st with
    | .For tg iter x [] _ => chkP (fun _ => true) N sc p tg && notSet iter && (match k, iter with
        | .of, it => nonE i2 && chkE pm N i1 sc it
        | .range1, .Call (.Name x _) [a] [] _ => nonE i2 && decide (x = "range") && glB sc "range" && noStar [a] && chkE pm N i1 sc a
        | .range2, .Call (.Name x _) [a, b] [] _ => decide (x = "range") && glB sc "range" && noStar [a, b] && chkE pm N i1 sc a && chkE pm N i2 sc b
        | .enum, .Call (.Name x _) [a] [] _ => nonE i2 && decide (x = "enumerate") && glB sc "enumerate" && isTup tg && noStar [a] && chkE pm N i1 sc a
        | _, _ => false) && chkCs pm exs N sc b x
    | _ => false
  | .while c b, st => match st with
    | .While t x [] _ => chkT pm N c sc t && chkCs pm exs N sc b x
    | _ => false
  | .raise c, st => match st with
    | .Raise (some (.Call (.Name x _) [.Constant (.str _) _ _] [] _)) none _ => decide (x = excName c) && decide (c ∈ exs) && glB sc x && !dbg x
    | _ => false
  | .app o a, st => match st with
    | .Expr (.Call (.Attribute q x apos) [y] [] cpos) _ => decide (x = "append") && baseOk q && noStar [y] && (apos.endLine == cpos.line) && chkE pm N o sc q && chkE pm N a sc y
    | _ => false
  | .stf o x a, st => match st with
    | .Assign [.Attribute q y _] e _ => decide (pm.cls ≠ "") && decide (y = x) && decide (x ∈ pm.fld) && notComp e && chkE pm N o sc q && chkE pm N a sc e
    | _ => false
  | .pass, st => match st with
    | .Pass _ => true
    | _ => false
  | .never, _ => false
def chkCs (pm : Pm) (exs : List Nat) (N : List Str) (sc : Scope) : List C → List Stmt → Bool
  | [], sts => match sts with | [] => true | _ => false
  | c :: cs, sts => isNever c || match sts with
    | st :: sts => chkC pm exs N sc c st && chkCs pm exs N sc cs sts
    | _ => false
end

/-! ### what it is worth -/
/-- an own exception class -/
def ExW (G : Gm) (K : PySem.W.Frag) (mg : Str → Option Value) (c : Nat) : Prop :=
  ∃ (B newId initId : String) (bmB : List Value), ExcBaseFacts B newId initId bmB ∧ PySem.W.excIn K (G.exc c) bmB newId = true ∧ mg (excName c) = some (.ref (G.exc c)) ∧ PySem.W.keepIn K (.ref (G.exc c)) = true ∧
    ∀ (M : Model) (h : Heap), K.In h → PySem.W.Looks M h (isSubtype (.ref (G.exc c)) (.type "BaseException")) true ∧ PySem.W.Looks M h (typeOf (.ref (G.exc c))) (.type "type")
structure Cxs (pm : Pm) (exs : List Nat) (G : Gm) (fe : FEnv) (k : Nat) (L : Addr) (N : List Str) (X : Cx) (W : WX) (sc : Scope) : Prop where
  cx : Cxt pm G fe k L N X W sc
  fn : ∀ x, X.fn x = true
  po : PassesOwn (model X.prog X.w) X.A X.env X.xe
  loc : X.env.locals = L
  kind : sc.kind = .function
  ex : ∀ c ∈ exs, ExW G X.K X.mg c
section
variable {pm : Pm} {exs : List Nat} {G : Gm} {fe : FEnv} {k n : Nat} {L : Addr} {N : List Str} {X : Cx} {W : WX} {sc : Scope}
theorem Cxs.takes (c : Cxs pm exs G fe k L N X W sc) : L2N.Takes X W := fun u s' x => c.cx.tk u s' (air_of_XE c.loc x)
mutual
theorem sndG (c : Cxs pm exs G fe k L N X W sc) : ∀ (t : Tg) (e : Expr), chkG pm N sc t e = true → PG X e (TG2 G W (asgT fe t))
  | .name i, e, h => by
    unfold chkG at h
    split at h
    · have h := Bool.and_eq_true_iff.mp h
      have hl := c.cx.locC (fun x _ => c.fn x) h.2
      exact pg_nameF c.cx.ndX (c.cx.at_ h.1) hl.1 hl.2
    · cases h
  | .tup ts, e, h => by
    unfold chkG at h
    split at h
    · simp only [Bool.and_eq_true, decide_eq_true_eq] at h
      exact pg_tup2 c.cx.hK c.cx.calm h.1.1 h.1.2 (sndGs c ts _ h.1.1 h.2)
    · cases h
  | .sub o i, e, h => by
    unfold chkG at h
    split at h
    · simp only [Bool.and_eq_true] at h
      exact pg_subF h.1.1 ((sndE o).1 c.cx _ h.1.2) ((sndE i).1 c.cx _ h.2)
    · cases h
theorem sndGs (c : Cxs pm exs G fe k L N X W sc) : ∀ (ts : List Tg) (es : List Expr), noStar es = true → chkGs pm N sc ts es = true → PGs X es (TG2s G W (asgTs fe ts))
  | [], es, _, h => by
    unfold chkGs at h
    split at h
    · exact pgs_nil2
    · cases h
  | t :: ts, es, n, h => by
    unfold chkGs at h
    split at h
    · have h := Bool.and_eq_true_iff.mp h
      exact pgs_cons2 n (sndG c t _ h.1) (sndGs c ts _ (noStar_tail n) h.2)
    · cases h
end
theorem two_es {X : Cx} {W : WX} (c : Cxt pm G fe k L N X W sc) {a b : E} {v w : Expr} (hn : noStar [v, w] = true) (h1 : chkE pm N a sc v = true) (h2 : chkE pm N b sc w = true) : PA X [v, w] (TAof G W (evEs fe [a, b])) :=
  pa_consF hn ((sndE a).1 c _ h1) (pa_consF (noStar_tail hn) ((sndE b).1 c _ h2) pa_nilF)
theorem three_es {X : Cx} {W : WX} (c : Cxt pm G fe k L N X W sc) {a b d : E} {v w u : Expr} (hn : noStar [v, w, u] = true) (h1 : chkE pm N a sc v = true) (h2 : chkE pm N b sc w = true) (h3 : chkE pm N d sc u = true) : PA X [v, w, u] (TAof G W (evEs fe [a, b, d])) :=
  pa_consF hn ((sndE a).1 c _ h1) (pa_consF (noStar_tail hn) ((sndE b).1 c _ h2) (pa_consF (noStar_tail (noStar_tail hn)) ((sndE d).1 c _ h3) pa_nilF))
theorem name_g (c : Cxs pm exs G fe k L N X W sc) {i : Nat} {x : Str} {p : Pos} (h1 : atB N i x = true) (h2 : locC (fun _ => true) sc x = true) : PG X (.Name x p) (TG2 G W (asgT fe (.name i))) :=
  let hl := c.cx.locC (fun x _ => c.fn x) h2
  pg_nameF c.cx.ndX (c.cx.at_ h1) hl.1 hl.2
theorem sndA (c : Cxs pm exs G fe k L N X W sc) {t : Tg} {a : E} {tg e : Expr} {pos : Pos} (h : chkA pm N sc t a tg e = true) : PS X (.Assign [tg] e pos) (TSof G W (evC fe n (.asg t a))) := by
  have hsc := c.cx.hsc
  have hk : X.env.scope.kind = .function := by rw [hsc]; exact c.kind
  unfold chkA at h
  split at h
  · rename_i i al own elt p kk i1 i2 hc cc y py elt' tg' iter ifs scope pos'
    obtain ⟨h0, h⟩ := Bool.and_eq_true_iff.mp h
    have sw := @swaps_comp elt' [⟨tg', iter, ifs, 0⟩] scope pos' py y pos.line X.env hk
    rw [hsc] at sw
    split at h
    · rename_i hw
      obtain ⟨h1, h2⟩ := Bool.and_eq_true_iff.mp h
      rw [hw] at sw
      exact Eq.mp (congrArg (fun o => PS X _ (TSof G W (evC fe n (.asg (.name i) (FC.E.comp al o elt p kk i1 i2 hc cc))))) (ownN_snd N own)) (ps_setCompF c.cx.calm c.cx.ndX c.cx.fr c.cx.tk (c.cx.at_ h0) (c.cx.loc h1) sw (comp_of (sndE elt).1 (sndE i1).1 (sndE i2).1 (sndE cc).2 c.cx h2))
    · rename_i hw
      obtain ⟨h1, h2⟩ := Bool.and_eq_true_iff.mp h
      rw [show swC sc scope.names pos'.line y py.line = false from by simpa using hw] at sw
      exact Eq.mp (congrArg (fun o => PS X _ (TSof G W (evC fe n (.asg (.name i) (FC.E.comp al o elt p kk i1 i2 hc cc))))) (ownN_snd N own)) (ps_asgF (pe_compF c.cx.calm c.cx.ndX c.cx.fr c.cx.tk (comp_of (sndE elt).1 (sndE i1).1 (sndE i2).1 (sndE cc).2 c.cx h2)) (name_g c h0 h1) sw (sw_plain rfl) rfl)
  · rename_i i j a b x px y py k1 p1 v w k2 p2
    simp only [Bool.and_eq_true] at h
    obtain ⟨⟨⟨⟨⟨h1, h2⟩, h3⟩, h4⟩, h5⟩, h6⟩ := h
    have hA := two_es (W := W) c.cx h4 h5 h6
    split at h1
    · rename_i names hn
      simp only [Bool.and_eq_true, decide_eq_true_eq] at h1
      obtain ⟨⟨⟨e1, l1⟩, l2⟩, ne⟩ := h1
      subst e1
      exact ps_par2F c.cx.calm c.cx.ndX (c.cx.at_ h2) (c.cx.at_ h3) ne (c.cx.loc l1) (c.cx.loc l2) hA (swN_ok hsc c.kind hn)
    · rename_i hn
      obtain ⟨l1, l2⟩ := Bool.and_eq_true_iff.mp h1
      exact ps_asgF (pe_tupF hA) (pg_tup2 c.cx.hK c.cx.calm rfl rfl (pgs_cons2 rfl (name_g c h2 l1) (pgs_cons2 rfl (name_g c h3 l2) pgs_nil2))) rfl (swN_ok hsc c.kind hn) rfl
    · cases h1
  · rename_i i j l a b d x px y py z pz k1 p1 v w u k2 p2
    simp only [Bool.and_eq_true] at h
    obtain ⟨⟨⟨⟨⟨⟨⟨h1, h2⟩, h3⟩, h3'⟩, h4⟩, h5⟩, h6⟩, h7⟩ := h
    have hA := three_es (W := W) c.cx h4 h5 h6 h7
    split at h1
    · rename_i names hn
      simp only [Bool.and_eq_true, decide_eq_true_eq] at h1
      obtain ⟨⟨⟨⟨⟨⟨e1, l1⟩, l2⟩, l3⟩, n1⟩, n2⟩, n3⟩ := h1
      subst e1
      exact ps_par3F c.cx.calm c.cx.ndX (c.cx.at_ h2) (c.cx.at_ h3) (c.cx.at_ h3') n1 n2 n3 (c.cx.loc l1) (c.cx.loc l2) (c.cx.loc l3) hA (swN_ok hsc c.kind hn)
    · rename_i hn
      simp only [Bool.and_eq_true] at h1
      obtain ⟨⟨l1, l2⟩, l3⟩ := h1
      exact ps_asgF (pe_tupF hA) (pg_tup2 c.cx.hK c.cx.calm rfl rfl (pgs_cons2 rfl (name_g c h2 l1) (pgs_cons2 rfl (name_g c h3 l2) (pgs_cons2 rfl (name_g c h3' l3) pgs_nil2)))) rfl (swN_ok hsc c.kind hn) rfl
    · cases h1
  · simp only [Bool.and_eq_true] at h
    obtain ⟨⟨⟨⟨h1, h2⟩, h3⟩, h4⟩, h5⟩ := h
    exact ps_asgF ((sndE a).1 c.cx _ h5) (sndG c t _ h4) (swaps_no h1 _ _ _) (swO_ok hsc c.kind h2) h3
mutual
theorem sndC (c : Cxs pm exs G fe k L N X W sc) : ∀ (cc : C) (st : Stmt), chkC pm exs N sc cc st = true → PS X st (TSof G W (evC fe n cc))
  | .expr a, st, h => by
    unfold chkC at h
    split at h
    · have h := Bool.and_eq_true_iff.mp h
      exact ps_exprF ((sndE a).1 c.cx _ h.2) (swaps_no h.1 _ _ _)
    · cases h
  | .ret a, st, h => by
    unfold chkC at h
    split at h
    · exact ps_retF ((sndE a).1 c.cx _ h)
    · cases h
  | .asg t a, st, h => by
    unfold chkC at h
    split at h
    · exact sndA c h
    · cases h
  | .ite cc a b, st, h => by
    unfold chkC at h
    split at h
    · simp only [Bool.and_eq_true] at h
      exact ps_iteF ((sndE cc).2 c.cx _ h.1.1).1 (sndCs c a _ h.1.2) (sndCs c b _ h.2)
    · cases h
  | .loop p kk i1 i2 b, st, h => by
    unfold chkC at h
    split at h
    · obtain ⟨h, h4⟩ := Bool.and_eq_true_iff.mp h
      obtain ⟨h, h3⟩ := Bool.and_eq_true_iff.mp h
      obtain ⟨h1, h2⟩ := Bool.and_eq_true_iff.mp h
      exact ps_loopF c.po c.cx.calm (iter_ok c.cx (fun e h => (sndE i1).1 c.cx e h) (fun e h => (sndE i2).1 c.cx e h) h3) (chkP_ok c.cx (fun x _ => c.fn x) h1) (sndCs c b _ h4) (folded_ok h2 _)
    · cases h
  | .while cc b, st, h => by
    unfold chkC at h
    split at h
    · have h := Bool.and_eq_true_iff.mp h
      exact ps_whileF c.po ((sndE cc).2 c.cx _ h.1).1 (sndCs c b _ h.2)
    · cases h
  | .raise e, st, h => by
    unfold chkC at h
    split at h
    · simp only [Bool.and_eq_true, decide_eq_true_eq] at h
      obtain ⟨⟨⟨h1, h2⟩, h3⟩, h4⟩ := h
      obtain ⟨B, ni, ii, bm, F, q, m, kp, rs⟩ := c.ex e h2
      subst h1
      exact ps_raiseF c.cx.calm c.takes F q m kp rs (c.cx.gl h3) (dbg_ok h4).1
    · cases h
  | .app o a, st, h => by
    unfold chkC at h
    split at h
    · simp only [Bool.and_eq_true, decide_eq_true_eq] at h
      obtain ⟨⟨⟨⟨⟨h1, h2⟩, h3⟩, h4⟩, h5⟩, h6⟩ := h
      subst h1
      exact ps_appF c.cx.hK ((sndE o).1 c.cx _ h5) ((sndE a).1 c.cx _ h6) h2 h3 h4
    · cases h
  | .stf o x a, st, h => by
    unfold chkC at h
    split at h
    · simp only [Bool.and_eq_true, decide_eq_true_eq] at h
      obtain ⟨⟨⟨⟨⟨h1, h2⟩, h3⟩, h4⟩, h5⟩, h6⟩ := h
      subst h2
      obtain ⟨cl, m, na, _⟩ := c.cx.wd.cl h1
      exact ps_stfF c.cx.hK cl (na _ h3) ((sndE o).1 c.cx _ h5) ((sndE a).1 c.cx _ h6) (swaps_no h4 _ _ _)
    · cases h
  | .pass, st, h => by
    unfold chkC at h
    split at h
    · exact ps_passF
    · cases h
  | .never, st, h => by unfold chkC at h; cases h
theorem sndCs (c : Cxs pm exs G fe k L N X W sc) : ∀ (cs : List C) (sts : List Stmt), chkCs pm exs N sc cs sts = true → PSs X sts (TSof G W (evCs fe n cs))
  | [], sts, h => by
    unfold chkCs at h
    split at h
    · exact pss_nilF
    · cases h
  | cc :: cs, sts, h => by
    unfold chkCs at h
    rcases Bool.or_eq_true_iff.mp h with h | h
    · cases cc <;> first
        | (cases h; done)
        | exact pssI pss_never fun D s H ⟨f, r, e, S, R, E, go⟩ => (go : False)
    · split at h
      · have h := Bool.and_eq_true_iff.mp h
        exact pss_consF (sndC c cc _ h.1) (sndCs c cs _ h.2)
      · cases h
end
end
end FC
end

section
set_option Elab.async false
set_option linter.all false
set_option maxRecDepth 100000
set_option maxHeartbeats 8000000
/-! FcFun: a function of the text keeps what the interpreter says of it; all of them. -/
namespace FC
open PySem PySem.Spec PyProof.Rows L2 LamX
section
variable {pm : Pm} {exs : List Nat} {G : Gm} {fe : FEnv} {k n : Nat} {P : Program} {w : World} {K : PySem.W.Frag} {mg : Str → Option Value} {base : Heap}
theorem start_env {f : Addr → Prop} {r : List Addr} {H : Hp} {N : List Str} {np nl : Nat} {ts : List T} {vs : List V} (hl : N.length = nl) (h : RelL G.K f r H ts vs) : EnvR G f r H (FC.start np nl ts) (L2.start N vs) := by
  have e := h.length
  refine ⟨by unfold FC.start L2.start; simp [e, hl], fun i t q => ?_⟩
  unfold FC.start at q
  unfold L2.start
  by_cases hi : i < ts.length
  · rw [List.getElem?_append_left (by simpa using hi), List.getElem?_map] at q
    obtain ⟨u, hu, e2⟩ := Option.map_eq_some_iff.mp q
    cases e2
    obtain ⟨v, h1, h2⟩ := h.get hu
    refine ⟨v, ?_, h2⟩
    rw [List.getElem?_append_left (by simp; omega), List.getElem?_map, h1]
    rfl
  · rw [List.getElem?_append_right (by simp; omega), List.getElem?_replicate] at q
    split at q <;> cases q
theorem run_go {W : WX} {f : Addr → Prop} {r : List Addr} {H : Hp} {s : L2.St} {d : Fd} {ts : List T} {S : Sto} {Q : VK} (hW : ∀ c d' s1 s2 H, W c d' s1 H → W c d' s2 H) (h : Go G W f (rT G f) r H s (runFd fe n d ts S) Q) :
    ts.length = d.np ∧ OGo G W f { nx := fun _ H' => Q .non H', rt := Q } r H (evCs fe n d.body (FC.start d.np d.nl ts) S) := by
  unfold runFd at h
  by_cases hz : (ts.length == d.np) = true
  · rw [if_pos hz] at h
    refine ⟨by simpa using hz, ?_⟩
    cases ho : evCs fe n d.body (FC.start d.np d.nl ts) S with
    | nx e S' => rw [ho] at h; exact fun r' H' s' x R E => h r' .non H' x R .non
    | rt t S' => rw [ho] at h; exact fun r' H' v x R q => h r' v H' x R q
    | exc c S' => rw [ho] at h; exact fun r' H' s' x R => hW _ _ _ _ _ (h r' H' x R)
    | bad => rw [ho] at h; exact h
  · rw [if_neg hz] at h
    exact h.elim
theorem fn_okL {x qual : Str} {st : Stmt} {fa : Addr} {oc : Value} {od an : Option Addr} {kV doc pmv cdv ct : Value} {osl : Array (Option Value)} {N ps : List Str} {d : Fd} {i : Nat} {fe' : FEnv}
    (lk : K.lookup fa = some ⟨oc, od, .func (PySem.W.fnOf x qual (defArgs st) (defBody st) (defScope st) .none kV doc pmv an cdv ct), osl⟩) (hcd : PySem.W.codeIn K cdv qual = true) (S : FnScope N ps (defScope st)) (hp : ps.length = d.np) (hl : N.length = d.nl) (hK : K = G.K)
    (hfe : ∀ ts S, fe' i ts S = runFd fe n d ts S) (wd : Wd pm G fe k P w K mg base) (ex : ∀ c ∈ exs, ExW G K mg c) (ck : chkCs pm exs N (defScope st) d.body (defBody st) = true)
    (hlw : pm.td = true → ToldW G K mg ∧ (∃ c Pt, cdv = .ref c ∧ TabB base mg c Pt ∧ (Pt, qual ++ ".<locals>." ++ "<lambda>") ∈ G.tab ∧ ∀ p ∈ G.tab, p.1 = Pt → p.2 = qual ++ ".<locals>." ++ "<lambda>") ∧ ∃ j, k = j + 2 ∧ Wd pm.low G (lowE fe) j P w K mg base) :
    FnOk P w K mg base (L2N.CX P w) (k + 1) fa (PySem.W.fnOf x qual (defArgs st) (defBody st) (defScope st) .none kV doc pmv an cdv ct) ps (spOf G fe' i) := by
  refine fn_of lk hcd S (fun vs H Q E ⟨f, r, S0, ts, R, q, go⟩ => ?_) fun A outer s H vs Q E hr ⟨f, r, S0, ts, R, q, go⟩ => ?_
  · rw [hfe] at go
    rw [← q.length, hp]
    exact (run_go (fun _ _ _ _ _ z => z) go).1
  · rw [hfe] at go
    refine ⟨TSof G (fun cls d _ H' => E cls d H') (evCs fe n d.body), sndCs (L := (cxOf (L2N.CX P w) P w K mg base N qual (defScope st) fa cdv A outer s H E).env.locals) (k := k) (exs := exs) (sc := defScope st) ⟨⟨hK, rfl, S.nd, rfl, ⟨⟨_, _, rfl, rfl⟩, rfl⟩, fun u s' x => ?_, rfl, hr, wd, fun z => ?_⟩, fun _ => rfl, passes_of rfl, rfl, S.kind, ex⟩ _ _ ck, ?_⟩
    · exact L2N.takes_of (X := cxOf (L2N.CX P w) P w K mg base N qual (defScope st) fa cdv A outer s H E) rfl rfl rfl rfl u s' (XE_of_air rfl x)
    · obtain ⟨h1, ⟨c, Pt, h2, h3, h4, h5⟩, h6⟩ := hlw z
      exact ⟨h1, ⟨c, Pt, h2, h3, h4, h5⟩, h6⟩
    · exact ⟨f, r, FC.start d.np d.nl ts, S0, R, start_env hl q, (run_go (fun _ _ _ _ _ z => z) go).2⟩
theorem fn_ok {x qual : Str} {st : Stmt} {fa : Addr} {fd : FuncData} {N ps : List Str} {d : Fd} {i : Nat} {fe' : FEnv} (F : L2.Fun K x qual st fa fd) (S : FnScope N ps (defScope st)) (hp : ps.length = d.np) (hl : N.length = d.nl) (hK : K = G.K) (ht : pm.td = false)
    (hfe : ∀ ts S, fe' i ts S = runFd fe n d ts S) (wd : Wd pm G fe k P w K mg base) (ex : ∀ c ∈ exs, ExW G K mg c) (ck : chkCs pm exs N (defScope st) d.body (defBody st) = true) :
    FnOk P w K mg base (L2N.CX P w) (k + 1) fa fd ps (spOf G fe' i) := by
  obtain ⟨oc, od, kV, doc, pmv, an, cdv, ct, osl, rfl, lk, hcd⟩ := F.ex
  exact fn_okL lk hcd S hp hl hK hfe wd ex ck fun z => by rw [ht] at z; cases z
/-- what is known of one function of the text -/
structure FnF (K : PySem.W.Frag) (mg : Str → Option Value) (pm : Pm) (exs : List Nat) (d : Fd) (x : Str) : Prop where
  ex : ∃ (st : Stmt) (fa : Addr) (fd : FuncData) (N ps : List Str), mg x = some (.ref fa) ∧ PySem.W.keepIn K (.ref fa) = true ∧ Binds K fd ps [] ∧ L2.Fun K x x st fa fd ∧ FnScope N ps (defScope st) ∧ ps.length = d.np ∧ N.length = d.nl ∧ chkCs pm exs N (defScope st) d.body (defBody st) = true
theorem mean_run {prog : List Fd} {i k : Nat} {ts : List T} {S : Sto} (hb : i < big) : mean prog n (k + 1) i ts S = runAt prog n k (mean prog n k) i ts S := by
  have e : Nat.blt i big = true := by rw [Nat.blt_eq]; exact hb
  cases k with
  | zero =>
    show (if Nat.blt i big = true then runAt prog n 0 (mean prog n 0) i ts S else .bad) = _
    rw [if_pos e]
  | succ k =>
    show (if Nat.blt i big = true then runAt prog n (k + 1) (mean prog n (k + 1)) i ts S else _) = _
    rw [if_pos e]
theorem mean_at {prog : List Fd} {i k : Nat} {d : Fd} {ts : List T} {S : Sto} (hb : i < big) (hd : prog[i]? = some d) (ht : d.td = false) : mean prog n (k + 1) i ts S = runFd (mean prog n k) n d ts S := by
  rw [mean_run hb]
  unfold runAt
  rw [hd]
  show (if d.td && Nat.blt k 2 then R.bad else runFd (mean prog n k) n d ts S) = _
  rw [ht]
  rfl
theorem mean_atT {prog : List Fd} {i k : Nat} {d : Fd} {ts : List T} {S : Sto} (hb : i < big) (hd : prog[i]? = some d) : mean prog n (k + 3) i ts S = runFd (mean prog n (k + 2)) n d ts S := by
  rw [mean_run hb]
  unfold runAt
  rw [hd]
  show (if d.td && Nat.blt (k + 2) 2 then R.bad else runFd (mean prog n (k + 2)) n d ts S) = _
  have e : Nat.blt (k + 2) 2 = false := by
    cases h : Nat.blt (k + 2) 2 with
    | false => rfl
    | true => rw [Nat.blt_eq] at h; omega
  rw [e, Bool.and_false]
  rfl
theorem mean_atB {prog : List Fd} {i k : Nat} {d : Fd} {ts : List T} {S : Sto} (hb : i < big) (hd : prog[i]? = some d) (ht : d.td = true) (hk : k < 2) : mean prog n (k + 1) i ts S = .bad := by
  rw [mean_run hb]
  unfold runAt
  rw [hd]
  show (if d.td && Nat.blt k 2 then R.bad else runFd (mean prog n k) n d ts S) = _
  have e : Nat.blt k 2 = true := by rw [Nat.blt_eq]; exact hk
  rw [e, ht]
  rfl
theorem mean_low {prog : List Fd} {k : Nat} : lowE (mean prog n (k + 2)) = mean prog n k := by
  funext i ts S
  have e : Nat.blt (i + big) big = false := by
    cases h : Nat.blt (i + big) big with
    | false => rfl
    | true => rw [Nat.blt_eq] at h; omega
  show (if Nat.blt (i + big) big = true then runAt prog n (k + 1) (mean prog n (k + 1)) (i + big) ts S else mean prog n k (i + big - big) ts S) = _
  rw [e, if_neg Bool.false_ne_true, Nat.add_sub_cancel]
/-- .. that makes lambdas of its own: its cell of code, their table -/
structure FnT (K : PySem.W.Frag) (mg : Str → Option Value) (cs2 : List (Addr × Addr)) (tab : List (Addr × Str)) (pm : Pm) (exs : List Nat) (d : Fd) (x : Str) : Prop where
  ex : ∃ (st : Stmt) (fa : Addr) (N ps : List Str) (c Pt : Addr) (oc : Value) (od an : Option Addr) (kV doc pmv ct : Value) (osl : Array (Option Value)), mg x = some (.ref fa) ∧ PySem.W.keepIn K (.ref fa) = true ∧
    Binds K (PySem.W.fnOf x x (defArgs st) (defBody st) (defScope st) .none kV doc pmv an (.ref c) ct) ps [] ∧ K.lookup fa = some ⟨oc, od, .func (PySem.W.fnOf x x (defArgs st) (defBody st) (defScope st) .none kV doc pmv an (.ref c) ct), osl⟩ ∧ PySem.W.codeIn K (.ref c) x = true ∧
    (c, Pt) ∈ cs2 ∧ (Pt, x ++ ".<locals>." ++ "<lambda>") ∈ tab ∧ (∀ p ∈ tab, p.1 = Pt → p.2 = x ++ ".<locals>." ++ "<lambda>") ∧
    FnScope N ps (defScope st) ∧ ps.length = d.np ∧ N.length = d.nl ∧ chkCs { pm with td := true } exs N (defScope st) d.body (defBody st) = true
/-- what is known of one method of the class at C -/
structure MthF (K : PySem.W.Frag) (pm : Pm) (exs : List Nat) (d : Fd) (C : Addr) (m : Str) : Prop where
  ex : ∃ (st : Stmt) (fa : Addr) (fd : FuncData) (N ps : List Str) (qual : Str), Meth K C m fa ∧ Binds K fd ps [] ∧ L2.Fun K m qual st fa fd ∧ FnScope N ps (defScope st) ∧ ps.length = d.np ∧ N.length = d.nl ∧ chkCs pm exs N (defScope st) d.body (defBody st) = true
/-- .. of its __init__ -/
structure IniF (K : PySem.W.Frag) (pm : Pm) (exs : List Nat) (d : Fd) (C : Addr) : Prop where
  ex : ∃ (st : Stmt) (fa : Addr) (fd : FuncData) (N ps : List Str) (qual : Str), Mk K C fa ∧ Binds K fd ps [] ∧ L2.Fun K "__init__" qual st fa fd ∧ FnScope N ps (defScope st) ∧ ps.length = d.np ∧ N.length = d.nl ∧ chkCs pm exs N (defScope st) d.body (defBody st) = true
/-- .. of its __len__ -/
structure LenF (K : PySem.W.Frag) (pm : Pm) (exs : List Nat) (d : Fd) (C : Addr) : Prop where
  ex : ∃ (st : Stmt) (fa : Addr) (fd : FuncData) (N ps : List Str) (qual : Str), PySem.W.findIn K (.ref C) "__len__" = some (some (.ref fa)) ∧ PySem.W.isFn K (.ref fa) = true ∧ Binds K fd ps [] ∧ L2.Fun K "__len__" qual st fa fd ∧ FnScope N ps (defScope st) ∧ ps.length = d.np ∧ N.length = d.nl ∧ chkCs pm exs N (defScope st) d.body (defBody st) = true
/-- .. of its __eq__ -/
structure EqF (K : PySem.W.Frag) (pm : Pm) (exs : List Nat) (d : Fd) (C : Addr) : Prop where
  ic : C8.InsC K C
  ki : PySem.W.kitOne K (.type "int") (.ref C) = some false
  nf : PySem.W.notFirst K C (.type "int") = true
  ex : ∃ (st : Stmt) (fa : Addr) (fd : FuncData) (N ps : List Str) (qual : Str), PySem.W.findIn K (.ref C) "__eq__" = some (some (.ref fa)) ∧ PySem.W.isFn K (.ref fa) = true ∧ Binds K fd ps [] ∧ L2.Fun K "__eq__" qual st fa fd ∧ FnScope N ps (defScope st) ∧ ps.length = d.np ∧ N.length = d.nl ∧ chkCs pm exs N (defScope st) d.body (defBody st) = true
/-- what is known of the class -/
structure ClsF (K : PySem.W.Frag) (mg : Str → Option Value) (pm : Pm) (exs : List Nat) (prog : List Fd) (C : Addr) : Prop where
  mt : ∀ m i, pm.mth.lookup m = some i → i < big ∧ ∃ d, prog[i]? = some d ∧ d.td = false ∧ MthF K pm exs d C m
  cl : pm.cls ≠ "" → Cls K C ∧ mg pm.cls = some (.ref C) ∧ (∀ x ∈ pm.fld, NoAttr K C x) ∧ pm.ini < big ∧ ∃ d, prog[pm.ini]? = some d ∧ d.td = false ∧ IniF K pm exs d C
  ln : ∀ i, pm.len = some i → i < big ∧ ∃ d, prog[i]? = some d ∧ d.td = false ∧ LenF K pm exs d C
  eq : ∀ i, pm.eqi = some i → i < big ∧ ∃ d, prog[i]? = some d ∧ d.td = false ∧ EqF K pm exs d C
theorem ClsF.none {C : Addr} {prog : List Fd} (h1 : pm.mth = []) (h2 : pm.cls = "") (h3 : pm.len = Option.none) (h4 : pm.eqi = Option.none) : ClsF K mg pm exs prog C :=
  ⟨fun m i h => (by rw [h1] at h; cases h), fun h => absurd h2 h, fun i h => (by rw [h3] at h; cases h), fun i h => (by rw [h4] at h; cases h)⟩
theorem bad_go {i : Nat} {fe' : FEnv} {fa : Addr} {fd : FuncData} {ps : List Str} {k : Nat} (h : ∀ ts S, fe' i ts S = .bad) : FnOk P w K mg base (L2N.CX P w) k fa fd ps (spOf G fe' i) :=
  ⟨fun vs H Q E ⟨f, r, S0, ts, R, q, go⟩ => (by rw [h] at go; exact go.elim), fun A outer s H args us vs Q E hr e0 hb hv ⟨f, r, S0, ts, R, q, go⟩ => by rw [h] at go; exact go.elim⟩
theorem low_bad {prog : List Fd} {i : Nat} {ts : List T} {S : Sto} : lowE (mean prog n 1) i ts S = .bad := by
  have e : Nat.blt (i + big) big = false := by
    cases h : Nat.blt (i + big) big with
    | false => rfl
    | true => rw [Nat.blt_eq] at h; omega
  show (if Nat.blt (i + big) big = true then runAt prog n 0 (mean prog n 0) (i + big) ts S else .bad) = _
  rw [e]
  rfl
theorem wd_step {prog : List Fd} (hb : ∀ (i : Nat) (x : Str), pm.fns[i]? = some x → i < big) (ht : pm.td = false) (hK : K = G.K) {cs2 : List (Addr × Addr)} (TB : ∀ p ∈ cs2, TabB base mg p.1 p.2) (tw : ToldW G K mg) (h1 : ∀ (i : Nat) (x : Str), pm.fns[i]? = some x → ∃ d, prog[i]? = some d ∧ ((d.td = false ∧ FnF K mg pm exs d x) ∨ (d.td = true ∧ FnT K mg cs2 G.tab pm exs d x))) (h2 : ∀ x, x ∈ blNames → mg x = none) (h3 : ∀ x t, pm.cs.lookup x = some t → ∃ v u, mg x = some u ∧ RelV v u ∧ ∀ f r H, Rel G.K f r H t v)
    (h4 : ∀ c ∈ exs, ExW G K mg c) (h5 : ClsF K mg pm exs prog (G.ins 0)) {k : Nat} (wd : Wd pm G (mean prog n k) k P w K mg base) (hj : k < 2 ∨ ∃ j, k = j + 2 ∧ Wd pm G (mean prog n j) j P w K mg base)
    (hi : ∀ (i : Nat) (x : Str) (fa : Addr) (fd : FuncData) (ps : List Str), i < big → (∃ (st : Stmt) (d : Fd) (N : List Str) (qual : Str), prog[i]? = some d ∧ d.td = false ∧ L2.Fun K x qual st fa fd ∧ FnScope N ps (defScope st) ∧ ps.length = d.np ∧ N.length = d.nl ∧ chkCs pm exs N (defScope st) d.body (defBody st) = true) →
      (∀ ts S, lowE (mean prog n (k + 1)) i ts S = .bad) ∨ ∃ j, j + 1 ≤ k + 1 ∧ FnOk P w K mg base (L2N.CX P w) j fa fd ps (spOf G (lowE (mean prog n (k + 1))) i)) :
    Wd pm G (mean prog n (k + 1)) (k + 1) P w K mg base where
  fn := fun i x hx => by
    obtain ⟨d, hd, ⟨td, st, fa, fd, N, ps, m, kp, b, F, S, e1, e2, ck⟩ | ⟨td, st, fa, N, ps, c, Pt, oc, od, an, kV, doc, pmv, ct, osl, m, kp, b, lk, hcd, m1, m2, m3, S, e1, e2, ck⟩⟩ := h1 i x hx
    · exact ⟨fa, fd, ps, m, kp, b, fn_ok (n := n) F S e1 e2 hK ht (fun ts S => mean_at (hb i x hx) hd td) wd h4 ck⟩
    · refine ⟨fa, _, ps, m, kp, b, ?_⟩
      rcases hj with hj | ⟨j, rfl, wj⟩
      · exact bad_go fun ts S => mean_atB (hb i x hx) hd td hj
      · have elow : ({ pm with td := true } : Pm).low = pm := by cases pm; cases ht; rfl
        refine fn_okL (pm := { pm with td := true }) lk hcd S e1 e2 hK (fun ts S => mean_atT (hb i x hx) hd) ⟨wd.fn, wd.bl, wd.cs, wd.mt, wd.cl, wd.ln, wd.eq⟩ h4 ck fun _ => ⟨tw, ⟨c, Pt, rfl, TB (c, Pt) m1, m2, m3⟩, j, rfl, ?_⟩
        rw [elow, mean_low]
        exact wj
  bl := h2
  cs := h3
  mt := fun m i hm => by
    obtain ⟨hb', d, hd, td, st, fa, fd, N, ps, qual, M, b, F, S, e1, e2, ck⟩ := h5.mt m i hm
    exact ⟨fa, fd, ps, M, b, fn_ok (n := n) F S e1 e2 hK ht (fun ts S => mean_at hb' hd td) wd h4 ck⟩
  cl := fun hc => by
    obtain ⟨c1, c2, c3, hb', d, hd, td, st, fa, fd, N, ps, qual, M, b, F, S, e1, e2, ck⟩ := h5.cl hc
    exact ⟨c1, c2, c3, fa, fd, ps, M, b, hi _ _ fa fd ps hb' ⟨st, d, N, qual, hd, td, F, S, e1, e2, ck⟩⟩
  ln := fun i hl => by
    obtain ⟨hb', d, hd, td, st, fa, fd, N, ps, qual, L1, L2', b, F, S, e1, e2, ck⟩ := h5.ln i hl
    exact ⟨fa, fd, ps, L1, L2', b, hi _ _ fa fd ps hb' ⟨st, d, N, qual, hd, td, F, S, e1, e2, ck⟩⟩
  eq := fun i hl => by
    obtain ⟨hb', d, hd, td, ic, ki, nf, st, fa, fd, N, ps, qual, L1, L2', b, F, S, e1, e2, ck⟩ := h5.eq i hl
    exact ⟨ic, ki, nf, fa, fd, ps, L1, L2', b, fn_ok (n := n) F S e1 e2 hK ht (fun ts S => mean_at hb' hd td) wd h4 ck⟩
theorem worlds {prog : List Fd} (hb : ∀ (i : Nat) (x : Str), pm.fns[i]? = some x → i < big) (ht : pm.td = false) (hK : K = G.K) {cs2 : List (Addr × Addr)} (TB : ∀ p ∈ cs2, TabB base mg p.1 p.2) (tw : ToldW G K mg) (h1 : ∀ (i : Nat) (x : Str), pm.fns[i]? = some x → ∃ d, prog[i]? = some d ∧ ((d.td = false ∧ FnF K mg pm exs d x) ∨ (d.td = true ∧ FnT K mg cs2 G.tab pm exs d x))) (h2 : ∀ x, x ∈ blNames → mg x = none) (h3 : ∀ x t, pm.cs.lookup x = some t → ∃ v u, mg x = some u ∧ RelV v u ∧ ∀ f r H, Rel G.K f r H t v)
    (h4 : ∀ c ∈ exs, ExW G K mg c) (h5 : ClsF K mg pm exs prog (G.ins 0)) : ∀ k, Wd pm G (mean prog n k) k P w K mg base
  | 0 => ⟨fun i x hi => by
      obtain ⟨d, hd, ⟨td, st, fa, fd, N, ps, m, kp, b, F, S, e1, e2, ck⟩ | ⟨td, st, fa, N, ps, c, Pt, oc, od, an, kV, doc, pmv, ct, osl, m, kp, b, lk, hcd, m1, m2, m3, S, e1, e2, ck⟩⟩ := h1 i x hi
      · exact ⟨fa, fd, ps, m, kp, b, bad_go fun ts S => rfl⟩
      · exact ⟨fa, _, ps, m, kp, b, bad_go fun ts S => rfl⟩, h2, h3, fun m i hm => by
      obtain ⟨hb', d, hd, td, st, fa, fd, N, ps, qual, M, b, F, S, e1, e2, ck⟩ := h5.mt m i hm
      exact ⟨fa, fd, ps, M, b, bad_go fun ts S => rfl⟩, fun hc => by
      obtain ⟨c1, c2, c3, hb', d, hd, td, st, fa, fd, N, ps, qual, M, b, F, S, e1, e2, ck⟩ := h5.cl hc
      exact ⟨c1, c2, c3, fa, fd, ps, M, b, .inl fun ts S => rfl⟩, fun i hl => by
      obtain ⟨hb', d, hd, td, st, fa, fd, N, ps, qual, L1, L2', b, F, S, e1, e2, ck⟩ := h5.ln i hl
      exact ⟨fa, fd, ps, L1, L2', b, .inl fun ts S => rfl⟩, fun i hl => by
      obtain ⟨hb', d, hd, td, ic, ki, nf, st, fa, fd, N, ps, qual, L1, L2', b, F, S, e1, e2, ck⟩ := h5.eq i hl
      exact ⟨ic, ki, nf, fa, fd, ps, L1, L2', b, bad_go fun ts S => rfl⟩⟩
  | 1 => wd_step hb ht hK TB tw h1 h2 h3 h4 h5 (worlds hb ht hK TB tw h1 h2 h3 h4 h5 0) (.inl (by decide)) fun i x fa fd ps hc _ => .inl fun ts S => low_bad
  | 2 => wd_step hb ht hK TB tw h1 h2 h3 h4 h5 (worlds hb ht hK TB tw h1 h2 h3 h4 h5 1) (.inl (by decide)) fun i x fa fd ps hc _ => .inl fun ts S => by rw [mean_low]; rfl
  | k + 3 => wd_step hb ht hK TB tw h1 h2 h3 h4 h5 (worlds hb ht hK TB tw h1 h2 h3 h4 h5 (k + 2)) (.inr ⟨k, rfl, worlds hb ht hK TB tw h1 h2 h3 h4 h5 k⟩) fun i x fa fd ps hb' ⟨st, d, N, qual, hd, td, F, S, e1, e2, ck⟩ => by
      refine .inr ⟨k + 1, by omega, ?_⟩
      rw [mean_low]
      exact fn_ok (n := n) F S e1 e2 hK ht (fun ts S => mean_at hb' hd td) (worlds hb ht hK TB tw h1 h2 h3 h4 h5 k) h4 ck
/-! ### the law's end -/
theorem law_at {l : PySem.W.OpenLaw} {w : World} {prog : List Fd} {st : Stmt} {fa : Addr} {h : Heap} {oc : Value} {od an : Option Addr} {kV doc pmv ct : Value} {osl : Array (Option Value)} {N : List Str} {x : Str} {d : Fd} {i j nn c Pt : Nat}
    (lk : K.lookup fa = some ⟨oc, od, .func (PySem.W.fnOf "law" "law" (defArgs st) (defBody st) (defScope st) .none kV doc pmv an (.ref c) ct), osl⟩) (hcd : PySem.W.codeIn K (.ref c) "law" = true) (S : FnScope N [x] (defScope st)) (hp : d.np = 1) (hl : N.length = d.nl) (hK : K = G.K)
    (hd : prog[i]? = some d) (hi : i < big) (ht : pm.td = false) (htd : d.td = false) {cs2 : List (Addr × Addr)} {tab2 : List (Addr × Str)} (hT2 : ∀ p ∈ cs2, h.get? p.2 = some { cls := .none, data := .fields #[] }) (nT2 : ∀ p ∈ cs2, K.lookup p.2 = none) (C2 : ∀ p ∈ cs2, PySem.W.CodeHd h p.1 p.2) (ht2 : ∀ p ∈ tab2, p.1 ≠ Pt ∧ ∃ q ∈ cs2, q.2 = p.1)
    (wd : ∀ base : Heap, K.In base → (∀ p ∈ cs2, TabB base mg p.1 p.2) → ∀ k, Wd pm G (mean prog n k) k l.prog w K mg base) (ex : ∀ c ∈ exs, ExW G K mg c) (ck : chkCs { pm with td := true } exs N (defScope st) d.body (defBody st) = true)
    (tw : ToldW G K mg) (hG : G.tab = (Pt, ("law.<locals>.<lambda>" : Str)) :: tab2) (hT : h.get? Pt = some { cls := .none, data := .fields #[] }) (nT : K.lookup Pt = none) (C : PySem.W.CodeHd h c Pt)
    (hb : ∀ (s : Shared) (u : Value), BindsTo s (PySem.W.fnOf "law" "law" (defArgs st) (defBody st) (defScope st) .none kV doc pmv an (.ref c) ct) ⟨[u], []⟩ [(x, u)])
    (law : ∀ ns : List Int, ns.length ≤ nn → (∀ z ∈ ns, Builtin.Int.intBits z ≤ 1048576) → ∀ t, (t = .lst (ns.map .int) ∨ t = .fro (ns.map .int)) → ∃ S', mean prog n (j + 3) i [t] [] = .ok (.bl true) S') :
    LawAtS l w K (L2N.CX l.prog w) (j + 3) nn x mg fa h := by
  have elow : ({ pm with td := true } : Pm).low = pm := by cases pm; cases ht; rfl
  refine ⟨_, (c, Pt) :: cs2, spOf G (mean prog n (j + 3)) i, fun p hp => ?_, fun p hp => ?_, fun p hp => ?_, hb, fun H a ns hn hbits hH hS => ?_, fun base KX nsb TB => ?_⟩
  · rcases List.mem_cons.mp hp with rfl | hp
    · exact hT
    · exact hT2 p hp
  · rcases List.mem_cons.mp hp with rfl | hp
    · exact nT
    · exact nT2 p hp
  · rcases List.mem_cons.mp hp with rfl | hp
    · exact C
    · exact C2 p hp
  · have hPt := hH (c, Pt) List.mem_cons_self
    have tabs : Tabs G.tab H := fun p hp => by
      rw [hG] at hp
      rcases List.mem_cons.mp hp with rfl | hp
      · exact TabS.nil hPt
      · obtain ⟨_, q, hq, e⟩ := ht2 p hp
        have := hH q (List.mem_cons_of_mem _ hq)
        rw [e] at this
        exact TabS.nil this
    have R : Rl G (fun _ => False) [] H [] := ⟨rfl, List.nodup_nil, fun a h => absurd h (by simp), fun l o a h => by simp at h, fun a h => h.elim, tabs⟩
    have rel : ∀ ns : List Int, RelL G.K (fun _ => False) [] H (ns.map T.int) (ns.map V.int) := fun ns => by
      induction ns with
      | nil => exact .nil
      | cons a l ih => exact .cons (.int _) ih
    have key : ∃ t, (t = .lst (ns.map .int) ∨ t = .fro (ns.map .int)) ∧ Rel G.K (fun _ => False) [] H t (.ref a) := by
      rw [hK] at hS
      rcases hS with (z | ⟨o, z⟩) | ⟨o, its, n, z⟩
      · exact ⟨_, .inl rfl, .lst z (by simp) (fun z => z) (rel ns)⟩
      · exact ⟨_, .inr rfl, .fro (.inl ⟨o, z⟩) (rel ns)⟩
      · exact ⟨_, .inr rfl, .fro (.inr ⟨o, its, n, z⟩) (rel ns)⟩
    obtain ⟨t, ht, hr⟩ := key
    obtain ⟨S', e⟩ := law ns hn hbits t ht
    refine ⟨fun _ => False, [], [], [t], R, .cons hr .nil, ?_⟩
    rw [e]
    intro r' v H' x' R' q'
    cases q'
    rfl
  · have tb := TB (c, Pt) List.mem_cons_self
    have TB2 : ∀ p ∈ cs2, TabB base mg p.1 p.2 := fun p hp => TB p (List.mem_cons_of_mem _ hp)
    have w2 := wd base KX TB2 (j + 2)
    have ez : ("law" : Str) ++ ".<locals>." ++ "<lambda>" = ("law.<locals>.<lambda>" : Str) := by decide +kernel
    refine fn_okL (pm := { pm with td := true }) lk hcd S (by rw [hp]; rfl) hl hK (fun ts S => mean_at hi hd htd) ⟨w2.fn, w2.bl, w2.cs, w2.mt, w2.cl, w2.ln, w2.eq⟩ ex ck fun _ => ⟨tw, ⟨c, Pt, rfl, tb, ?_, fun p hp q => ?_⟩, j, rfl, ?_⟩
    · rw [ez, hG]; exact List.mem_cons_self
    · rw [hG] at hp
      rcases List.mem_cons.mp hp with rfl | hp
      · rw [ez]
      · exact absurd q (ht2 p hp).1
    · rw [elow, mean_low]; exact wd base KX TB2 j
theorem no_cx {P : Program} (w : World) (H : Hp) (s : Shared) (e : Value) (s' : Shared) (h : L2N.CX P w [] H s (fun _ _ _ => False) e s') : False := by
  obtain ⟨_, _, _, _, _, _, _, _, _, _, _, _, z⟩ := h
  exact z
end
end FC
end

section
set_option Elab.async false
set_option linter.all false
set_option maxRecDepth 100000
set_option maxHeartbeats 4000000
/-! FcRow: what a row's head says, put together. -/
namespace FC
open PySem PySem.Spec PyProof.Rows L2 LamX
section
variable {K : PySem.W.Frag} {mg : Str → Option Value} {h : Heap} {G : Gm}
theorem fnf_mk {pm : Pm} {exs : List Nat} {d : Fd} {x : Str} {st : Stmt} {f : Addr} {oc : Value} {od an : Option Addr} {kV doc pmv cdv ct : Value} {osl : Array (Option Value)} {N ps : List Str} (KX : K.In h) (Ns : h.Ns mainGlobals mg)
    (S : FnScope N ps (defScope st)) (b : ∀ (kV doc pm : Value) (an : Option Addr) (cdv ct : Value) (us : List Value), us.length = ps.length → bindArgs (PySem.W.fnOf x x (defArgs st) (defBody st) (defScope st) .none kV doc pm an cdv ct) ⟨us, []⟩ = pure (ps.zip us))
    (e1 : ps.length = d.np) (e2 : N.length = d.nl) (ck : chkCs pm exs N (defScope st) d.body (defBody st) = true)
    (a : PySem.W.nsIn K mainGlobals x = some (some (.ref f))) (l : K.lookup f = some ⟨oc, od, .func (PySem.W.fnOf x x (defArgs st) (defBody st) (defScope st) .none kV doc pmv an cdv ct), osl⟩) (c : PySem.W.codeIn K cdv x = true) (k : PySem.W.keepIn K (.ref f) = true) :
    FnF K mg pm exs d x :=
  have F := L2.fun_mk (st := st) l c k
  ⟨st, f, _, N, ps, PySem.W.mg_of KX Ns a, k, F.binds b, F, S, e1, e2, ck⟩
/-- one exception class -/
structure ExF (K : PySem.W.Frag) (mg : Str → Option Value) (x : Str) (C : Addr) : Prop where
  nm : mg x = some (.ref C)
  ex : PySem.W.excIn K C [.type "ValueError", .type "Exception", .type "BaseException", .type "object"] "ValueError.__new__" = true
  kp : PySem.W.keepIn K (.ref C) = true
  sb : PySem.W.subIn K (.ref C) (.type "BaseException") = some true
  ty : PySem.W.typeIn K (.ref C) = some (.type "type")
  ec : ExcC K C
  va : PySem.W.kitOne K (.ref C) (.type "ValueError") = some true
theorem exf_mk {x : Str} {C : Addr} (KX : K.In h) (Ns : h.Ns mainGlobals mg) (a : PySem.W.nsIn K mainGlobals x = some (some (.ref C))) (e : PySem.W.excIn K C [.type "ValueError", .type "Exception", .type "BaseException", .type "object"] "ValueError.__new__" = true) (k : PySem.W.keepIn K (.ref C) = true)
    (sb : PySem.W.subIn K (.ref C) (.type "BaseException") = some true) (ty : PySem.W.typeIn K (.ref C) = some (.type "type")) (g1 : PySem.W.findIn K (.ref C) "__getattribute__" = some (some (.builtin "BaseException.__getattribute__"))) (g2 : PySem.W.findIn K (.ref C) "__getattr__" = some none)
    (g3 : PySem.W.hasDictIn K C = true) (g4 : PySem.W.findIn K (.ref C) "__class__" = some (some (.builtin "object.__class__"))) (g5 : PySem.W.specialIn K (.builtin "object.__class__") "__get__" = some (some (.builtin "getset_descriptor.__get__"))) (g6 : PySem.W.takesIn K (.builtin "object.__class__") = some true)
    (g7 : PySem.W.mroIn K C (.type "object") = some true) (va : PySem.W.kitOne K (.ref C) (.type "ValueError") = some true) : ExF K mg x C := ⟨PySem.W.mg_of KX Ns a, e, k, sb, ty, ⟨g1, g2, sb, g3, g4, g5, g6, g7⟩, va⟩
theorem exw_of {c : Nat} (F : ExF K mg (excName c) (G.exc c)) : ExW G K mg c :=
  ⟨_, _, _, _, PySem.F.excBase_ValueError, F.ex, F.nm, F.kp, fun M h X => ⟨PySem.W.looks_subIn X F.sb, PySem.W.looks_typeIn X F.ty⟩⟩
/-- the six classes' places -/
def six (a0 a1 a2 a3 a4 a5 : Addr) : Nat → Addr
  | 0 => a0 | 1 => a1 | 2 => a2 | 3 => a3 | 4 => a4 | _ => a5
theorem lt6 {p : Nat → Prop} (h0 : p 0) (h1 : p 1) (h2 : p 2) (h3 : p 3) (h4 : p 4) (h5 : p 5) : ∀ c, c < 6 → p c := fun c hc => by
  have : c = 0 ∨ c = 1 ∨ c = 2 ∨ c = 3 ∨ c = 4 ∨ c = 5 := by omega
  rcases this with rfl | rfl | rfl | rfl | rfl | rfl <;> assumption
theorem bl_of (KX : K.In h) (Ns : h.Ns mainGlobals mg) (hb : ∀ x ∈ blNames, PySem.W.nsIn K mainGlobals x = some none) : ∀ x, x ∈ blNames → mg x = none := fun x hx => PySem.W.mg_none_of KX Ns (hb x hx)
/-- a constant of the module -/
abbrev CsP (K : PySem.W.Frag) (mg : Str → Option Value) (x : Str) (t : T) : Prop := ∃ v u, mg x = some u ∧ RelV v u ∧ ∀ f r H, Rel K f r H t v
theorem cst_int {x : Str} {i : Int} {t : Tok} (KX : K.In h) (Ns : h.Ns mainGlobals mg) (a : PySem.W.nsIn K mainGlobals x = some (some (.int i t))) : CsP K mg x (.int i) :=
  ⟨.int i, _, PySem.W.mg_of KX Ns a, ⟨t, rfl⟩, fun _ _ _ => .int i⟩
theorem strs_rel0 {f : Addr → Prop} {r : List Addr} {H : Hp} : ∀ l : List Str, RelL K f r H (l.map T.str) (l.map V.str)
  | [] => .nil
  | _ :: l => .cons (.str _) (strs_rel0 l)
theorem cst_strs {x : Str} (xs : List Str) {a : Addr} {o : Obj} {its : Array Value} {n : Nat} (KX : K.In h) (Ns : h.Ns mainGlobals mg) (h5 : Vals (xs.map V.str) its.toList) (h4 : its.size ≤ sizeLine) (h1 : o.cls = .type "tuple") (h3 : o.data = .seq its n)
    (e : PySem.W.nsIn K mainGlobals x = some (some (.ref a))) (l : K.lookup a = some o) : CsP K mg x (.tup (xs.map .str)) :=
  ⟨.ref a, _, PySem.W.mg_of KX Ns e, rfl, fun f r H => .tup (.inr ⟨o, its, n, l, h1, h3, h4, h5⟩) (strs_rel0 xs)⟩
theorem cont {p q : Prop} (a : p) (b : p → q) : q := b a
theorem none_mk {x : Str} (KX : K.In h) (Ns : h.Ns mainGlobals mg) (a : PySem.W.nsIn K mainGlobals x = some none) : PySem.W.nsIn K mainGlobals x = some none := a
theorem kit_mk {n m : Str} {C D : Addr} {b : Bool} (x : ExF K mg n C) (y : ExF K mg m D) (e : PySem.W.kitOne K (.ref C) (.ref D) = some b) : PySem.W.kitOne K (.ref C) (.ref D) = some b := e
/-- a telling def, by its place -/
structure DefF (K : PySem.W.Frag) (mg : Str → Option Value) (x : Str) (st : Stmt) (N ps : List Str) : Prop where
  ex : ∃ (f : Addr) (fd : FuncData), mg x = some (.ref f) ∧ L2.Fun K x x st f fd ∧ Binds K fd ps [] ∧ FnScope N ps (defScope st)
theorem deff_mk {x : Str} {st : Stmt} {f : Addr} {oc : Value} {od an : Option Addr} {kV doc pmv cdv ct : Value} {osl : Array (Option Value)} {N ps : List Str} (KX : K.In h) (Ns : h.Ns mainGlobals mg)
    (S : FnScope N ps (defScope st)) (b : ∀ (kV doc pm : Value) (an : Option Addr) (cdv ct : Value) (us : List Value), us.length = ps.length → bindArgs (PySem.W.fnOf x x (defArgs st) (defBody st) (defScope st) .none kV doc pm an cdv ct) ⟨us, []⟩ = pure (ps.zip us))
    (a : PySem.W.nsIn K mainGlobals x = some (some (.ref f))) (l : K.lookup f = some ⟨oc, od, .func (PySem.W.fnOf x x (defArgs st) (defBody st) (defScope st) .none kV doc pmv an cdv ct), osl⟩) (c : PySem.W.codeIn K cdv x = true) (k : PySem.W.keepIn K (.ref f) = true) : DefF K mg x st N ps :=
  have F := L2.fun_mk (st := st) l c k
  ⟨f, _, PySem.W.mg_of KX Ns a, F, F.binds b, S⟩
/-- the base class in the clause -/
theorem base_mk {CS C0 C1 C2 C3 C4 C5 : Addr} (KX : K.In h) (Ns : h.Ns mainGlobals mg) (a : PySem.W.nsIn K mainGlobals "ChainError" = some (some (.ref CS))) (b : PySem.W.subIn K (.ref CS) (.type "BaseException") = some true) (d : PySem.W.hasDictIn K CS = true) (t : PySem.W.typeIn K (.ref CS) = some (.type "type"))
    {n0 n1 n2 n3 n4 n5 : Str} (_ : ExF K mg n0 C0) (_ : ExF K mg n1 C1) (_ : ExF K mg n2 C2) (_ : ExF K mg n3 C3) (_ : ExF K mg n4 C4) (_ : ExF K mg n5 C5)
    (s0 : PySem.W.subIn K (.ref C0) (.ref CS) = some true) (s1 : PySem.W.subIn K (.ref C1) (.ref CS) = some true) (s2 : PySem.W.subIn K (.ref C2) (.ref CS) = some true) (s3 : PySem.W.subIn K (.ref C3) (.ref CS) = some true) (s4 : PySem.W.subIn K (.ref C4) (.ref CS) = some true) (s5 : PySem.W.subIn K (.ref C5) (.ref CS) = some true) :
    ∃ CS : Addr, mg "ChainError" = some (.ref CS) ∧ ∀ c, c < 6 → PySem.W.exmOne K (.ref (six C0 C1 C2 C3 C4 C5 c)) (.ref CS) = some true :=
  ⟨CS, PySem.W.mg_of KX Ns a, lt6 (PySem.W.exm_ref b d t s0) (PySem.W.exm_ref b d t s1) (PySem.W.exm_ref b d t s2) (PySem.W.exm_ref b d t s3) (PySem.W.exm_ref b d t s4) (PySem.W.exm_ref b d t s5)⟩
/-- the class, by its place -/
structure ClsH (K : PySem.W.Frag) (mg : Str → Option Value) (x : Str) (C : Addr) : Prop where
  cl : Cls K C
  nm : mg x = some (.ref C)
  mks : PySem.W.makesIn K C = true
  kp : PySem.W.keepIn K (.ref C) = true
theorem clsh_mk {x : Str} {C : Addr} (KX : K.In h) (Ns : h.Ns mainGlobals mg) (a : PySem.W.nsIn K mainGlobals x = some (some (.ref C))) (pg : PySem.W.plainGet K C Str.empty = true) (hd : PySem.W.hasDictIn K C = true) (po : PySem.W.plainOver K C = true) (sa : PySem.W.findIn K (.ref C) "__setattr__" = some (some (.builtin "object.__setattr__")))
    (mk : PySem.W.makesIn K C = true) (kc : PySem.W.keepIn K (.ref C) = true) : ClsH K mg x C := ⟨⟨pg, hd, po, sa⟩, PySem.W.mg_of KX Ns a, mk, kc⟩
theorem na_mk {x f : Str} {C : Addr} (_ : ClsH K mg x C) (a : PySem.W.findIn K (.ref C) f = some none) : NoAttr K C f := a
theorem mth_mk {pm : Pm} {exs : List Nat} {d : Fd} {x m qual : Str} {C : Addr} {st : Stmt} {f : Addr} {oc : Value} {od an : Option Addr} {kV doc pmv cdv ct : Value} {osl : Array (Option Value)} {N ps : List Str} (_ : ClsH K mg x C)
    (S : FnScope N ps (defScope st)) (b : ∀ (kV doc pm : Value) (an : Option Addr) (cdv ct : Value) (us : List Value), us.length = ps.length → bindArgs (PySem.W.fnOf m qual (defArgs st) (defBody st) (defScope st) .none kV doc pm an cdv ct) ⟨us, []⟩ = pure (ps.zip us))
    (e1 : ps.length = d.np) (e2 : N.length = d.nl) (ck : chkCs pm exs N (defScope st) d.body (defBody st) = true)
    (a : PySem.W.findIn K (.ref C) m = some (some (.ref f))) (i : PySem.W.isFn K (.ref f) = true) (l : K.lookup f = some ⟨oc, od, .func (PySem.W.fnOf m qual (defArgs st) (defBody st) (defScope st) .none kV doc pmv an cdv ct), osl⟩) (c : PySem.W.codeIn K cdv qual = true) (k : PySem.W.keepIn K (.ref f) = true) :
    MthF K pm exs d C m :=
  have F := L2.fun_mk (st := st) l c k
  ⟨st, f, _, N, ps, qual, ⟨a, i, k⟩, F.binds b, F, S, e1, e2, ck⟩
theorem ini_mk {pm : Pm} {exs : List Nat} {d : Fd} {x qual : Str} {C : Addr} {st : Stmt} {f : Addr} {oc : Value} {od an : Option Addr} {kV doc pmv cdv ct : Value} {osl : Array (Option Value)} {N ps : List Str} (H : ClsH K mg x C)
    (S : FnScope N ps (defScope st)) (b : ∀ (kV doc pm : Value) (an : Option Addr) (cdv ct : Value) (us : List Value), us.length = ps.length → bindArgs (PySem.W.fnOf "__init__" qual (defArgs st) (defBody st) (defScope st) .none kV doc pm an cdv ct) ⟨us, []⟩ = pure (ps.zip us))
    (e1 : ps.length = d.np) (e2 : N.length = d.nl) (ck : chkCs pm exs N (defScope st) d.body (defBody st) = true)
    (a : PySem.W.findIn K (.ref C) "__init__" = some (some (.ref f))) (i : PySem.W.isFn K (.ref f) = true) (l : K.lookup f = some ⟨oc, od, .func (PySem.W.fnOf "__init__" qual (defArgs st) (defBody st) (defScope st) .none kV doc pmv an cdv ct), osl⟩) (c : PySem.W.codeIn K cdv qual = true) (k : PySem.W.keepIn K (.ref f) = true) :
    IniF K pm exs d C :=
  have F := L2.fun_mk (st := st) l c k
  ⟨st, f, _, N, ps, qual, ⟨H.mks, a, i, H.kp⟩, F.binds b, F, S, e1, e2, ck⟩
theorem len_mk {pm : Pm} {exs : List Nat} {d : Fd} {x qual : Str} {C : Addr} {st : Stmt} {f : Addr} {oc : Value} {od an : Option Addr} {kV doc pmv cdv ct : Value} {osl : Array (Option Value)} {N ps : List Str} (_ : ClsH K mg x C)
    (S : FnScope N ps (defScope st)) (b : ∀ (kV doc pm : Value) (an : Option Addr) (cdv ct : Value) (us : List Value), us.length = ps.length → bindArgs (PySem.W.fnOf "__len__" qual (defArgs st) (defBody st) (defScope st) .none kV doc pm an cdv ct) ⟨us, []⟩ = pure (ps.zip us))
    (e1 : ps.length = d.np) (e2 : N.length = d.nl) (ck : chkCs pm exs N (defScope st) d.body (defBody st) = true)
    (a : PySem.W.findIn K (.ref C) "__len__" = some (some (.ref f))) (i : PySem.W.isFn K (.ref f) = true) (l : K.lookup f = some ⟨oc, od, .func (PySem.W.fnOf "__len__" qual (defArgs st) (defBody st) (defScope st) .none kV doc pmv an cdv ct), osl⟩) (c : PySem.W.codeIn K cdv qual = true) (k : PySem.W.keepIn K (.ref f) = true) :
    LenF K pm exs d C :=
  have F := L2.fun_mk (st := st) l c k
  ⟨st, f, _, N, ps, qual, a, i, F.binds b, F, S, e1, e2, ck⟩
theorem eq_mk {pm : Pm} {exs : List Nat} {d : Fd} {x qual : Str} {C : Addr} {st : Stmt} {f : Addr} {oc : Value} {od an : Option Addr} {kV doc pmv cdv ct : Value} {osl : Array (Option Value)} {N ps : List Str} (H : ClsH K mg x C)
    (S : FnScope N ps (defScope st)) (b : ∀ (kV doc pm : Value) (an : Option Addr) (cdv ct : Value) (us : List Value), us.length = ps.length → bindArgs (PySem.W.fnOf "__eq__" qual (defArgs st) (defBody st) (defScope st) .none kV doc pm an cdv ct) ⟨us, []⟩ = pure (ps.zip us))
    (e1 : ps.length = d.np) (e2 : N.length = d.nl) (ck : chkCs pm exs N (defScope st) d.body (defBody st) = true)
    (ha : PySem.W.findIn K (.ref C) "__class__" = some (some (.builtin "object.__class__"))) (hn : PySem.W.specialIn K (.builtin "object.__class__") "__get__" = some (some (.builtin "getset_descriptor.__get__"))) (ht : PySem.W.takesIn K (.builtin "object.__class__") = some true) (hm : PySem.W.mroIn K C (.type "object") = some true)
    (ki : PySem.W.kitOne K (.type "int") (.ref C) = some false) (nf : PySem.W.notFirst K C (.type "int") = true)
    (a : PySem.W.findIn K (.ref C) "__eq__" = some (some (.ref f))) (i : PySem.W.isFn K (.ref f) = true) (l : K.lookup f = some ⟨oc, od, .func (PySem.W.fnOf "__eq__" qual (defArgs st) (defBody st) (defScope st) .none kV doc pmv an cdv ct), osl⟩) (c : PySem.W.codeIn K cdv qual = true) (k : PySem.W.keepIn K (.ref f) = true) :
    EqF K pm exs d C :=
  have F := L2.fun_mk (st := st) l c k
  ⟨⟨H.cl, ha, hn, ht, hm, by simp [PySem.W.kitOne]⟩, ki, nf, ⟨st, f, _, N, ps, qual, a, i, F.binds b, F, S, e1, e2, ck⟩⟩
/-- a function that makes lambdas, its tables left open -/
structure FnT0 (K : PySem.W.Frag) (mg : Str → Option Value) (pm : Pm) (exs : List Nat) (d : Fd) (x : Str) (c : Addr) : Prop where
  ex : ∃ (st : Stmt) (fa : Addr) (N ps : List Str) (oc : Value) (od an : Option Addr) (kV doc pmv ct : Value) (osl : Array (Option Value)), mg x = some (.ref fa) ∧ PySem.W.keepIn K (.ref fa) = true ∧
    Binds K (PySem.W.fnOf x x (defArgs st) (defBody st) (defScope st) .none kV doc pmv an (.ref c) ct) ps [] ∧ K.lookup fa = some ⟨oc, od, .func (PySem.W.fnOf x x (defArgs st) (defBody st) (defScope st) .none kV doc pmv an (.ref c) ct), osl⟩ ∧ PySem.W.codeIn K (.ref c) x = true ∧
    FnScope N ps (defScope st) ∧ ps.length = d.np ∧ N.length = d.nl ∧ chkCs { pm with td := true } exs N (defScope st) d.body (defBody st) = true
theorem FnT0.to {pm : Pm} {exs : List Nat} {d : Fd} {x : Str} {c Pt : Addr} {cs2 : List (Addr × Addr)} {tab : List (Addr × Str)} (h : FnT0 K mg pm exs d x c) (m1 : (c, Pt) ∈ cs2) (m2 : (Pt, x ++ ".<locals>." ++ "<lambda>") ∈ tab) (m3 : ∀ p ∈ tab, p.1 = Pt → p.2 = x ++ ".<locals>." ++ "<lambda>") : FnT K mg cs2 tab pm exs d x := by
  obtain ⟨st, fa, N, ps, oc, od, an, kV, doc, pmv, ct, osl, m, kp, b, lk, hcd, S, e1, e2, ck⟩ := h
  exact ⟨st, fa, N, ps, c, Pt, oc, od, an, kV, doc, pmv, ct, osl, m, kp, b, lk, hcd, m1, m2, m3, S, e1, e2, ck⟩
theorem fnt_mk {pm : Pm} {exs : List Nat} {d : Fd} {x : Str} {st : Stmt} {f cc : Addr} {oc : Value} {od an : Option Addr} {kV doc pmv ct : Value} {osl : Array (Option Value)} {N ps : List Str} (KX : K.In h) (Ns : h.Ns mainGlobals mg)
    (S : FnScope N ps (defScope st)) (b : ∀ (kV doc pm : Value) (an : Option Addr) (cdv ct : Value) (us : List Value), us.length = ps.length → bindArgs (PySem.W.fnOf x x (defArgs st) (defBody st) (defScope st) .none kV doc pm an cdv ct) ⟨us, []⟩ = pure (ps.zip us))
    (e1 : ps.length = d.np) (e2 : N.length = d.nl) (ck : chkCs { pm with td := true } exs N (defScope st) d.body (defBody st) = true)
    (a : PySem.W.nsIn K mainGlobals x = some (some (.ref f))) (l : K.lookup f = some ⟨oc, od, .func (PySem.W.fnOf x x (defArgs st) (defBody st) (defScope st) .none kV doc pmv an (.ref cc) ct), osl⟩) (c : PySem.W.codeIn K (.ref cc) x = true) (k : PySem.W.keepIn K (.ref f) = true) :
    FnT0 K mg pm exs d x cc :=
  have F := L2.fun_mk (st := st) l c k
  ⟨st, f, N, ps, oc, od, an, kV, doc, pmv, ct, osl, PySem.W.mg_of KX Ns a, k, F.binds b, l, c, S, e1, e2, ck⟩
theorem row_end {l : PySem.W.OpenLaw} {w : World} {pm : Pm} {exs : List Nat} {prog : List Fd} {st stg stt : Stmt} {fa fl : Addr} {oc : Value} {od an : Option Addr} {kV doc pmv ct : Value} {osl : Array (Option Value)} {N : List Str} {d : Fd} {i j n nn c Pt C0 C1 C2 C3 C4 C5 : Nat}
    (KX : K.In h) (Ns : h.Ns mainGlobals mg) (hmg : mg "law" = some (.ref fa)) (hfn : ∀ (i : Nat) (x : Str), pm.fns[i]? = some x → ∃ d, prog[i]? = some d ∧ d.td = false ∧ FnF K mg pm exs d x) (hsm : ∀ (i : Nat) (x : Str), pm.fns[i]? = some x → i < big) (ht : pm.td = false)
    (hbl : ∀ x ∈ blNames, PySem.W.nsIn K mainGlobals x = some none) (bv : PySem.W.nsIn K mainGlobals "ValueError" = some none)
    (hcs : ∀ x t, pm.cs.lookup x = some t → ∃ v u, mg x = some u ∧ RelV v u ∧ ∀ f r H, Rel K f r H t v) (hex : exs.all (fun c => decide (c < 6)) = true)
    (x0 : ExF K mg (excName 0) C0) (x1 : ExF K mg (excName 1) C1) (x2 : ExF K mg (excName 2) C2) (x3 : ExF K mg (excName 3) C3) (x4 : ExF K mg (excName 4) C4) (x5 : ExF K mg (excName 5) C5)
    (hkit : ∀ c, c < 6 → ∀ c', c' < 6 → PySem.W.kitOne K (.ref (six C0 C1 C2 C3 C4 C5 c)) (.ref (six C0 C1 C2 C3 C4 C5 c')) = some (decide (c = c')))
    (tg : DefF K mg "_law_told" stg Nd ["_law_deed"]) (tB : toldB (defScope stg) (defBody stg) = true) (tt : DefF K mg "_law_term" stt Nt ["_law_e"]) (tT : termB (defScope stt) (defBody stt) = true)
    (hE : ∃ CS : Addr, mg "ChainError" = some (.ref CS) ∧ ∀ c, c < 6 → PySem.W.exmOne K (.ref (six C0 C1 C2 C3 C4 C5 c)) (.ref CS) = some true)
    (a : PySem.W.nsIn K mainGlobals "law" = some (some (.ref fl))) (lk : K.lookup fl = some ⟨oc, od, .func (PySem.W.fnOf "law" "law" (defArgs st) (defBody st) (defScope st) .none kV doc pmv an (.ref c) ct), osl⟩) (hcd : PySem.W.codeIn K (.ref c) "law" = true)
    (hT : h.get? Pt = some { cls := .none, data := .fields #[] }) (nT : K.lookup Pt = none) (hC : PySem.W.codeHdIn K c Pt = true)
    (S : FnScope N ["_law_script"] (defScope st)) (hp : d.np = 1) (hl : N.length = d.nl) (hd : prog[i]? = some d) (htd : d.td = false) (hi : i < big) (ck : chkCs { pm with td := true } exs N (defScope st) d.body (defBody st) = true)
    (hb : ∀ (kV doc pm : Value) (an : Option Addr) (cdv ct : Value) (us : List Value), us.length = (["_law_script"] : List Str).length → bindArgs (PySem.W.fnOf "law" "law" (defArgs st) (defBody st) (defScope st) .none kV doc pm an cdv ct) ⟨us, []⟩ = pure ((["_law_script"] : List Str).zip us))
    {CA : Addr} (hcls : ClsF K mg pm exs prog CA)
    (law : ∀ ns : List Int, ns.length ≤ nn → (∀ z ∈ ns, Builtin.Int.intBits z ≤ 1048576) → ∀ t, (t = .lst (ns.map .int) ∨ t = .fro (ns.map .int)) → ∃ S', mean prog n (j + 3) i [t] [] = .ok (.bl true) S') :
    LawAtS l w K (L2N.CX l.prog w) (j + 3) nn "_law_script" mg fa h := by
  have e := hmg.symm.trans (PySem.W.mg_of KX Ns a)
  cases e
  have bl := bl_of KX Ns hbl
  have xs : ∀ c, c < 6 → ExF K mg (excName c) (six C0 C1 C2 C3 C4 C5 c) := lt6 x0 x1 x2 x3 x4 x5
  have tw : ToldW ⟨K, six C0 C1 C2 C3 C4 C5, fun _ => CA, [(Pt, ("law.<locals>.<lambda>" : Str))]⟩ K mg := by
    obtain ⟨f1, fd1, m1, F1, B1, S1⟩ := tg.ex
    obtain ⟨f2, fd2, m2, F2, B2, S2⟩ := tt.ex
    exact ⟨⟨fun c hc => (xs c hc).ec, fun c hc => (xs c hc).nm, fun c c' hc hc' => hkit c hc c' hc', fun c hc => (xs c hc).va, bl _ (by decide +kernel), bl _ (by decide +kernel), bl _ (by decide +kernel), PySem.W.mg_none_of KX Ns bv⟩, ⟨stg, f1, fd1, m1, F1, B1, S1, tB⟩, ⟨stt, f2, fd2, m2, F2, B2, S2, tT⟩, hE⟩
  have hx : ∀ c ∈ exs, ExW ⟨K, six C0 C1 C2 C3 C4 C5, fun _ => CA, [(Pt, ("law.<locals>.<lambda>" : Str))]⟩ K mg c := fun c hc => exw_of (xs c (of_decide_eq_true (List.all_eq_true.mp hex c hc)))
  exact law_at (G := ⟨K, six C0 C1 C2 C3 C4 C5, fun _ => CA, [(Pt, ("law.<locals>.<lambda>" : Str))]⟩) (x := "_law_script") (N := N) (exs := exs) (pm := pm) (cs2 := []) (tab2 := []) lk hcd S hp hl rfl hd hi ht htd (fun p hp => nomatch hp) (fun p hp => nomatch hp) (fun p hp => nomatch hp) (fun p hp => nomatch hp) (fun base KXb TB k => worlds hsm ht rfl (cs2 := []) TB tw (fun i x hx => let ⟨d, h1, h2, h3⟩ := hfn i x hx; ⟨d, h1, .inl ⟨h2, h3⟩⟩) bl hcs hx hcls k) hx ck tw rfl hT nT (PySem.W.codeHd_of_K KX hC) (fun s u => .of_eq (hb _ _ _ _ _ _ [u] rfl)) law
theorem row_end1 {l : PySem.W.OpenLaw} {w : World} {pm : Pm} {exs : List Nat} {prog : List Fd} {st stg stt : Stmt} {fa fl : Addr} {oc : Value} {od an : Option Addr} {kV doc pmv ct : Value} {osl : Array (Option Value)} {N : List Str} {d : Fd} {i j n nn c Pt C0 C1 C2 C3 C4 C5 : Nat}
    (KX : K.In h) (Ns : h.Ns mainGlobals mg) (hmg : mg "law" = some (.ref fa)) {xt : Str} {c2 Pt2 : Nat} (hfn : ∀ (i : Nat) (x : Str), pm.fns[i]? = some x → ∃ d, prog[i]? = some d ∧ ((d.td = false ∧ FnF K mg pm exs d x) ∨ (d.td = true ∧ x = xt ∧ FnT0 K mg pm exs d x c2))) (hsm : ∀ (i : Nat) (x : Str), pm.fns[i]? = some x → i < big) (ht : pm.td = false)
    (hbl : ∀ x ∈ blNames, PySem.W.nsIn K mainGlobals x = some none) (bv : PySem.W.nsIn K mainGlobals "ValueError" = some none)
    (hcs : ∀ x t, pm.cs.lookup x = some t → ∃ v u, mg x = some u ∧ RelV v u ∧ ∀ f r H, Rel K f r H t v) (hex : exs.all (fun c => decide (c < 6)) = true)
    (x0 : ExF K mg (excName 0) C0) (x1 : ExF K mg (excName 1) C1) (x2 : ExF K mg (excName 2) C2) (x3 : ExF K mg (excName 3) C3) (x4 : ExF K mg (excName 4) C4) (x5 : ExF K mg (excName 5) C5)
    (hkit : ∀ c, c < 6 → ∀ c', c' < 6 → PySem.W.kitOne K (.ref (six C0 C1 C2 C3 C4 C5 c)) (.ref (six C0 C1 C2 C3 C4 C5 c')) = some (decide (c = c')))
    (tg : DefF K mg "_law_told" stg Nd ["_law_deed"]) (tB : toldB (defScope stg) (defBody stg) = true) (tt : DefF K mg "_law_term" stt Nt ["_law_e"]) (tT : termB (defScope stt) (defBody stt) = true)
    (hE : ∃ CS : Addr, mg "ChainError" = some (.ref CS) ∧ ∀ c, c < 6 → PySem.W.exmOne K (.ref (six C0 C1 C2 C3 C4 C5 c)) (.ref CS) = some true)
    (a : PySem.W.nsIn K mainGlobals "law" = some (some (.ref fl))) (lk : K.lookup fl = some ⟨oc, od, .func (PySem.W.fnOf "law" "law" (defArgs st) (defBody st) (defScope st) .none kV doc pmv an (.ref c) ct), osl⟩) (hcd : PySem.W.codeIn K (.ref c) "law" = true)
    (hT : h.get? Pt = some { cls := .none, data := .fields #[] }) (nT : K.lookup Pt = none) (hC : PySem.W.codeHdIn K c Pt = true)
    (S : FnScope N ["_law_script"] (defScope st)) (hp : d.np = 1) (hl : N.length = d.nl) (hd : prog[i]? = some d) (htd : d.td = false) (hi : i < big) (ck : chkCs { pm with td := true } exs N (defScope st) d.body (defBody st) = true)
    (hb : ∀ (kV doc pm : Value) (an : Option Addr) (cdv ct : Value) (us : List Value), us.length = (["_law_script"] : List Str).length → bindArgs (PySem.W.fnOf "law" "law" (defArgs st) (defBody st) (defScope st) .none kV doc pm an cdv ct) ⟨us, []⟩ = pure ((["_law_script"] : List Str).zip us))
    (hT2 : h.get? Pt2 = some { cls := .none, data := .fields #[] }) (nT2 : K.lookup Pt2 = none) (hC2 : PySem.W.codeHdIn K c2 Pt2 = true) (hne : Pt2 ≠ Pt)
    {CA : Addr} (hcls : ClsF K mg pm exs prog CA)
    (law : ∀ ns : List Int, ns.length ≤ nn → (∀ z ∈ ns, Builtin.Int.intBits z ≤ 1048576) → ∀ t, (t = .lst (ns.map .int) ∨ t = .fro (ns.map .int)) → ∃ S', mean prog n (j + 3) i [t] [] = .ok (.bl true) S') :
    LawAtS l w K (L2N.CX l.prog w) (j + 3) nn "_law_script" mg fa h := by
  have e := hmg.symm.trans (PySem.W.mg_of KX Ns a)
  cases e
  have bl := bl_of KX Ns hbl
  have xs : ∀ c, c < 6 → ExF K mg (excName c) (six C0 C1 C2 C3 C4 C5 c) := lt6 x0 x1 x2 x3 x4 x5
  have tw : ToldW ⟨K, six C0 C1 C2 C3 C4 C5, fun _ => CA, [(Pt, ("law.<locals>.<lambda>" : Str)), (Pt2, xt ++ ".<locals>." ++ "<lambda>")]⟩ K mg := by
    obtain ⟨f1, fd1, m1, F1, B1, S1⟩ := tg.ex
    obtain ⟨f2, fd2, m2, F2, B2, S2⟩ := tt.ex
    exact ⟨⟨fun c hc => (xs c hc).ec, fun c hc => (xs c hc).nm, fun c c' hc hc' => hkit c hc c' hc', fun c hc => (xs c hc).va, bl _ (by decide +kernel), bl _ (by decide +kernel), bl _ (by decide +kernel), PySem.W.mg_none_of KX Ns bv⟩, ⟨stg, f1, fd1, m1, F1, B1, S1, tB⟩, ⟨stt, f2, fd2, m2, F2, B2, S2, tT⟩, hE⟩
  have hx : ∀ c ∈ exs, ExW ⟨K, six C0 C1 C2 C3 C4 C5, fun _ => CA, [(Pt, ("law.<locals>.<lambda>" : Str)), (Pt2, xt ++ ".<locals>." ++ "<lambda>")]⟩ K mg c := fun c hc => exw_of (xs c (of_decide_eq_true (List.all_eq_true.mp hex c hc)))
  exact law_at (G := ⟨K, six C0 C1 C2 C3 C4 C5, fun _ => CA, [(Pt, ("law.<locals>.<lambda>" : Str)), (Pt2, xt ++ ".<locals>." ++ "<lambda>")]⟩) (x := "_law_script") (N := N) (exs := exs) (pm := pm) (cs2 := [(c2, Pt2)]) (tab2 := [(Pt2, xt ++ ".<locals>." ++ "<lambda>")]) lk hcd S hp hl rfl hd hi ht htd (fun p hp => by rw [List.mem_singleton.mp hp]; exact hT2) (fun p hp => by rw [List.mem_singleton.mp hp]; exact nT2) (fun p hp => by rw [List.mem_singleton.mp hp]; exact PySem.W.codeHd_of_K KX hC2)
    (fun p hp => by rw [List.mem_singleton.mp hp]; exact ⟨hne, (c2, Pt2), List.mem_singleton.mpr rfl, rfl⟩) (fun base KXb TB k => worlds hsm ht rfl (cs2 := [(c2, Pt2)]) TB tw (fun i x hx => by
      obtain ⟨d, h1, ⟨h2, h3⟩ | ⟨h2, rfl, h3⟩⟩ := hfn i x hx
      · exact ⟨d, h1, .inl ⟨h2, h3⟩⟩
      · refine ⟨d, h1, .inr ⟨h2, h3.to (Pt := Pt2) (List.mem_singleton.mpr rfl) (List.mem_cons_of_mem _ (List.mem_singleton.mpr rfl)) fun p hp e => ?_⟩⟩
        rcases List.mem_cons.mp hp with rfl | hp
        · exact absurd e.symm hne
        · rw [List.mem_singleton.mp hp]) bl hcs hx hcls k) hx ck tw rfl hT nT (PySem.W.codeHd_of_K KX hC) (fun s u => .of_eq (hb _ _ _ _ _ _ [u] rfl)) law
end
end FC
end

section
set_option Elab.async false
set_option linter.all false
set_option maxRecDepth 100000
set_option maxHeartbeats 8000000
namespace D21
open FC PySem
abbrev top (i : Nat) : Stmt := PySem.Challenge.pw_foldchains_k21_whole_bounds.main.body.getD i (.Pass ⟨0, 0, 0, 0⟩)
def d_is_whole : Fd := { np := 3, nl := 3, body := [.ret (.and (.isi .int (.var 0)) (.and (.not (.isi .bool (.var 0))) (.chain .le .le (.var 1) (.var 0) (.var 2))))] }
def n_is_whole : List Str := ["value", "low", "high"]
def d_is_rest : Fd := { np := 1, nl := 1, body := [.ret (.and (.call true 0 [(.idx (.var 0) (.cst (.int 0))), (.cst (.int 2)), (.cst (.int 3))]) (.call true 0 [(.idx (.var 0) (.cst (.int 1))), (.cst (.int 0)), (.bin .sub false (.idx (.var 0) (.cst (.int 0))) (.cst (.int 1)))]))] }
def n_is_rest : List Str := ["value"]
def d_is_line : Fd := { np := 1, nl := 1, body := [.ret (.and (.call true 0 [(.idx (.var 0) (.cst (.int 0))), (.neg (.cst (.int 3))), (.cst (.int 3))]) (.call true 0 [(.idx (.var 0) (.cst (.int 1))), (.neg (.cst (.int 9))), (.cst (.int 9))]))] }
def n_is_line : List Str := ["value"]
def d_is_step : Fd := { np := 1, nl := 3, body := [.ite (.or (.not (.isi .tup (.var 0))) (.or (.cmp .eq (.var 0) (.tup [])) (.not (.isi .str (.idx (.var 0) (.cst (.int 0))))))) [.ret (.cst (.bl false))] [],
    .asg (.tup [(.name 1), (.name 2)]) (.tup [(.idx (.var 0) (.cst (.int 0))), (.slc false (.var 0) true false (.cst (.int 1)) (.cst .non))]),
    .ite (.cmp .isin (.var 1) (.cst (.tup [(.str "sums"), (.str "gaps"), (.str "count"), (.str "twice")]))) [.ret (.cmp .eq (.var 2) (.tup []))] [],
    .ite (.cmp .eq (.var 1) (.cst (.str "groups"))) [.ret (.and (.cmp .eq (.bfn .len false [(.var 2)]) (.cst (.int 1))) (.call true 0 [(.idx (.var 2) (.cst (.int 0))), (.cst (.int 2)), (.cst (.int 3))]))] [],
    .ite (.cmp .eq (.var 1) (.cst (.str "line"))) [.ret (.and (.cmp .eq (.bfn .len false [(.var 2)]) (.cst (.int 2))) (.call true 2 [(.var 2)]))] [],
    .ite (.cmp .isin (.var 1) (.tup [(.cst (.str "anew")), (.cst (.str "keep")), (.cst (.str "every"))])) [.ret (.and (.cmp .eq (.bfn .len false [(.var 2)]) (.cst (.int 2))) (.call true 1 [(.var 2)]))] [],
    .ret (.and (.cmp .eq (.var 1) (.cst (.str "turn"))) (.and (.cmp .eq (.bfn .len false [(.var 2)]) (.cst (.int 4))) (.and (.call true 1 [(.slc false (.var 2) false true (.cst .non) (.cst (.int 2)))]) (.call true 2 [(.slc false (.var 2) true false (.cst (.int 2)) (.cst .non))]))))] }
def n_is_step : List Str := ["value", "kind", "rest"]
def d_count_kinds : Fd := { np := 2, nl := 3, body := [.ret (.bfn .len false [(.comp false [2] (.var 2) (.nm 2) .of (.var 0) (.cst .non) true (.cmp .isin (.idx (.var 2) (.cst (.int 0))) (.var 1)))])] }
def n_count_kinds : List Str := ["chain", "kinds", "step"]
def d_is_chain : Fd := { np := 1, nl := 2, body := [.ite (.or (.not (.isi .tup (.var 0))) (.or (.cmp .gt (.bfn .len false [(.var 0)]) (.cst (.int 4))) (.not (.bfn .all false [(.comp false [1] (.call true 3 [(.var 1)]) (.nm 1) .of (.var 0) (.cst .non) false (.cst .non))])))) [.ret (.cst (.bl false))] [],
    .ite (.or (.cmp .gt (.call true 4 [(.var 0), (.cst (.tup [(.str "sums"), (.str "gaps"), (.str "anew"), (.str "groups"), (.str "count")]))]) (.cst (.int 2))) (.cmp .gt (.call true 4 [(.var 0), (.cst (.tup [(.str "anew"), (.str "keep"), (.str "turn")]))]) (.cst (.int 2)))) [.ret (.cst (.bl false))] [],
    .ret (.cmp .le (.call true 4 [(.var 0), (.tup [(.cst (.str "twice"))])]) (.cst (.int 1)))] }
def n_is_chain : List Str := ["value", "one"]
def d_need_chain : Fd := { np := 1, nl := 1, body := [.ite (.not (.call true 5 [(.var 0)])) [.raise 0] []] }
def n_need_chain : List Str := ["chain"]
def d_is_row : Fd := { np := 1, nl := 2, body := [.ite (.or (.not (.isi .tup (.var 0))) (.cmp .gt (.bfn .len false [(.var 0)]) (.cst (.int 60)))) [.ret (.cst (.bl false))] [],
    .ret (.bfn .all false [(.comp false [1] (.call true 0 [(.var 1), (.neg (.bin .pow false (.cst (.int 10)) (.cst (.int 30)))), (.bin .pow false (.cst (.int 10)) (.cst (.int 30)))]) (.nm 1) .of (.var 0) (.cst .non) false (.cst .non))])] }
def n_is_row : List Str := ["value", "one"]
def d_need_row : Fd := { np := 1, nl := 1, body := [.ite (.not (.call true 7 [(.var 0)])) [.raise 1] []] }
def n_need_row : List Str := ["row"]
def d_fed : Fd := { np := 3, nl := 6, body := [.asg (.tup [(.name 3), (.tup [(.name 5), (.name 4)])]) (.tup [(.idx (.var 0) (.cst (.int 0))), (.var 1)]),
    .ite (.cmp .eq (.var 3) (.cst (.str "line"))) [.ret (.tup [(.var 1), (.lst false [(.bin .add false (.bin .mul false (.idx (.var 0) (.cst (.int 1))) (.var 2)) (.idx (.var 0) (.cst (.int 2))))])])] [],
    .ite (.cmp .eq (.var 3) (.cst (.str "turn"))) [.ret (.tup [(.var 1), (.lst false [(.ite (.cmp .eq (.bin .mod false (.var 2) (.idx (.var 0) (.cst (.int 1)))) (.idx (.var 0) (.cst (.int 2)))) (.bin .add false (.bin .mul false (.idx (.var 0) (.cst (.int 3))) (.var 2)) (.idx (.var 0) (.cst (.int 4)))) (.var 2))])])] [],
    .ite (.cmp .eq (.var 3) (.cst (.str "keep"))) [.ret (.tup [(.var 1), (.ite (.cmp .eq (.bin .mod false (.var 2) (.idx (.var 0) (.cst (.int 1)))) (.idx (.var 0) (.cst (.int 2)))) (.lst false [(.var 2)]) (.lst false []))])] [],
    .ite (.cmp .eq (.var 3) (.cst (.str "twice"))) [.ret (.tup [(.var 1), (.lst false [(.var 2), (.var 2)])])] [],
    .ite (.cmp .eq (.var 3) (.cst (.str "sums"))) [.ret (.tup [(.tup [(.cst (.int 0)), (.bin .add false (.var 4) (.var 2))]), (.lst false [(.bin .add false (.var 4) (.var 2))])])] [],
    .ite (.cmp .eq (.var 3) (.cst (.str "gaps"))) [.ret (.tup [(.tup [(.cst (.int 0)), (.var 2)]), (.lst false [(.bin .sub false (.var 2) (.var 4))])])] [],
    .ite (.cmp .eq (.var 3) (.cst (.str "count"))) [.ret (.tup [(.tup [(.cst (.int 0)), (.bin .add false (.var 4) (.cst (.int 1)))]), (.lst false [(.bin .add false (.var 4) (.cst (.int 1)))])])] [],
    .ite (.cmp .eq (.var 3) (.cst (.str "anew"))) [.asg (.name 4) (.ite (.cmp .eq (.bin .mod false (.var 2) (.idx (.var 0) (.cst (.int 1)))) (.idx (.var 0) (.cst (.int 2)))) (.var 2) (.bin .add false (.var 4) (.var 2))),
    .ret (.tup [(.tup [(.cst (.int 0)), (.var 4)]), (.lst false [(.var 4)])])] [],
    .ite (.cmp .eq (.var 3) (.cst (.str "every"))) [.ret (.tup [(.tup [(.bin .mod false (.bin .add false (.var 5) (.cst (.int 1))) (.idx (.var 0) (.cst (.int 1)))), (.cst (.int 0))]), (.ite (.cmp .eq (.var 5) (.idx (.var 0) (.cst (.int 2)))) (.lst false [(.var 2)]) (.lst false []))])] [],
    .ite (.cmp .lt (.bin .add false (.var 5) (.cst (.int 1))) (.idx (.var 0) (.cst (.int 1)))) [.ret (.tup [(.tup [(.bin .add false (.var 5) (.cst (.int 1))), (.bin .add false (.var 4) (.var 2))]), (.lst false [])])] [],
    .ret (.tup [(.tup [(.cst (.int 0)), (.cst (.int 0))]), (.lst false [(.bin .add false (.var 4) (.var 2))])])] }
def n_fed : List Str := ["step", "held", "number", "kind", "kept", "place"]
def d_begun : Fd := { np := 1, nl := 2, body := [.ret (.comp false [1] (.tup [(.cst (.int 0)), (.cst (.int 0))]) (.nm 1) .of (.var 0) (.cst .non) false (.cst .non))] }
def n_begun : List Str := ["chain", "step"]
def d_passed : Fd := { np := 3, nl := 9, body := [.asg (.tup [(.name 1), (.name 3)]) (.tup [(.bfn .list true [(.var 1)]), (.lst false [(.var 2)])]),
    .loop (.tp [(.nm 4), (.nm 5)]) .enum (.var 0) (.cst .non) [.asg (.name 6) (.lst false []),
    .loop (.nm 7) .of (.var 3) (.cst .non) [.asg (.tup [(.sub (.var 1) (.var 4)), (.name 8)]) (.call true 9 [(.var 5), (.idx (.var 1) (.var 4)), (.var 7)]),
    .asg (.name 6) (.bin .add false (.var 6) (.var 8))],
    .asg (.name 3) (.var 6)],
    .ret (.tup [(.var 1), (.var 3)])] }
def n_passed : List Str := ["chain", "held", "number", "numbers", "at", "step", "given", "one", "more"]
def d_run : Fd := { np := 2, nl := 6, body := [.expr (.call true 6 [(.var 0)]),
    .expr (.call true 8 [(.var 1)]),
    .asg (.tup [(.name 3), (.name 4)]) (.tup [(.call true 10 [(.var 0)]), (.lst false [])]),
    .loop (.nm 2) .of (.var 1) (.cst .non) [.asg (.tup [(.name 3), (.name 5)]) (.call true 11 [(.var 0), (.var 3), (.var 2)]),
    .asg (.name 4) (.bin .add false (.var 4) (.var 5))],
    .ret (.bfn .tuple false [(.var 4)])] }
def n_run : List Str := ["chain", "row", "number", "held", "found", "given"]
def d_mix : Fd := { np := 2, nl := 3, body := [.expr (.call true 6 [(.var 0)]),
    .expr (.call true 8 [(.var 1)]),
    .never] }
def n_mix : List Str := ["chain", "row", "rests"]
def d_written : Fd := { np := 1, nl := 3, body := [.ret (.met .join false (.cst (.str " | ")) [(.comp false [1] (.met .join false (.cst (.str " ")) [(.bin .add false (.lst false [(.idx (.var 1) (.cst (.int 0)))]) (.comp false [2] (.bfn .str false [(.var 2)]) (.nm 2) .of (.slc false (.var 1) true false (.cst (.int 1)) (.cst .non)) (.cst .non) false (.cst .non)))]) (.nm 1) .of (.var 0) (.cst .non) false (.cst .non))])] }
def n_written : List Str := ["chain", "step", "one"]
def d_number_of : Fd := { np := 1, nl := 2, body := [.asg (.name 1) (.ite (.cmp .eq (.slc false (.var 0) false true (.cst .non) (.cst (.int 1))) (.cst (.str "-"))) (.slc false (.var 0) true false (.cst (.int 1)) (.cst .non)) (.var 0)),
    .ite (.or (.cmp .ne (.bfn .len false [(.var 1)]) (.cst (.int 1))) (.cmp .notin (.var 1) (.cst (.str "0123456789")))) [.raise 3] [],
    .ret (.bin .mul false (.bfn .int false [(.var 1)]) (.ite (.cmp .eq (.slc false (.var 0) false true (.cst .non) (.cst (.int 1))) (.cst (.str "-"))) (.neg (.cst (.int 1))) (.cst (.int 1))))] }
def n_number_of : List Str := ["word", "digit"]
def d_step_of : Fd := { np := 1, nl := 3, body := [.asg (.name 1) (.met .split false (.var 0) [(.cst (.str " "))]),
    .ret (.bin .add false (.tup [(.idx (.var 1) (.cst (.int 0)))]) (.bfn .tuple false [(.comp false [2] (.call true 15 [(.var 2)]) (.nm 2) .of (.slc false (.var 1) true false (.cst (.int 1)) (.cst .non)) (.cst .non) false (.cst .non))]))] }
def n_step_of : List Str := ["text", "words", "one"]
def d_parse_chain : Fd := { np := 1, nl := 3, body := [.ite (.not (.isi .str (.var 0))) [.raise 3] [],
    .asg (.name 1) (.ite (.cmp .eq (.var 0) (.cst (.str ""))) (.tup []) (.bfn .tuple false [(.comp false [2] (.call true 16 [(.var 2)]) (.nm 2) .of (.met .split false (.var 0) [(.cst (.str " | "))]) (.cst .non) false (.cst .non))])),
    .ite (.or (.not (.call true 5 [(.var 1)])) (.cmp .ne (.call true 14 [(.var 1)]) (.var 0))) [.raise 3] [],
    .ret (.var 1)] }
def n_parse_chain : List Str := ["text", "found", "one"]
def d_law_cell : Fd := { np := 2, nl := 2, body := [.ite (.cmp .eq (.var 0) (.lst false [])) [.ret (.bin .mul false (.var 1) (.cst (.int 7919)))] [],
    .ret (.bin .add false (.idx (.var 0) (.bin .mod false (.var 1) (.bfn .len false [(.var 0)]))) (.bin .mul false (.bin .fdiv false (.var 1) (.bfn .len false [(.var 0)])) (.cst (.int 104729))))] }
def n_law_cell : List Str := ["_law_script", "_law_k"]
def d_law_drawn : Fd := { np := 2, nl := 3, body := [.asg (.name 2) (.bin .mod false (.bin .add false (.bin .mul false (.var 0) (.cst (.int 6364136223846793005))) (.bin .mul false (.bin .add false (.var 1) (.cst (.int 1))) (.cst (.int 1442695040888963407)))) (.cst (.int 340282366920938463463374607431768211507))),
    .asg (.name 2) (.bin .mod false (.bin .mul false (.var 2) (.var 2)) (.cst (.int 340282366920938463463374607431768211297))),
    .asg (.name 2) (.bin .mul false (.bin .mul false (.bin .add false (.bin .mod false (.var 2) (.cst (.int 18446744073709551557))) (.cst (.int 1))) (.bin .add false (.bin .fdiv false (.var 2) (.cst (.int 18446744073709551557))) (.cst (.int 1)))) (.var 2)),
    .ret (.bin .mod false (.var 2) (.cst (.int 340282366920938463463374607431768211507)))] }
def n_law_drawn : List Str := ["_law_cell_here", "_law_k", "_law_more"]
def d_law_roll : Fd := { np := 2, nl := 3, body := [.ite (.cmp .ge (.idx (.var 0) (.cst (.int 0))) (.bin .pow false (.cst (.int 10)) (.cst (.int 18)))) [.asg (.name 2) (.bin .mod false (.idx (.var 0) (.cst (.int 0))) (.var 1)),
    .asg (.sub (.var 0) (.cst (.int 0))) (.bin .fdiv false (.idx (.var 0) (.cst (.int 0))) (.var 1)),
    .ret (.var 2)] [],
    .asg (.sub (.var 0) (.cst (.int 1))) (.bin .add false (.idx (.var 0) (.cst (.int 1))) (.cst (.int 1))),
    .ret (.bin .mod false (.bin .fdiv false (.call true 19 [(.idx (.var 0) (.cst (.int 0))), (.idx (.var 0) (.cst (.int 1)))]) (.cst (.int 8))) (.var 1))] }
def n_law_roll : List Str := ["_law_dice", "_law_many", "_law_told_here"]
def d_law_rounds : Fd := { np := 2, nl := 3, body := [.ret (.comp false [2] (.lst true [(.call true 18 [(.var 0), (.var 2)]), (.cst (.int 0))]) (.nm 2) .range1 (.bfn .max false [(.cst (.int 1)), (.bfn .min false [(.var 1), (.bfn .len false [(.var 0)])])]) (.cst .non) false (.cst .non))] }
def n_law_rounds : List Str := ["_law_script", "_law_most", "_law_k"]
def d_law_right_numbers : Fd := { np := 0, nl := 2, td := true, body := [.asg (.tup [(.name 0), (.name 1)]) (.tup [(.bin .pow false (.cst (.int 10)) (.cst (.int 30))), (.make 24 [(.tup [(.tup [(.cst (.str "sums"))]), (.tup [(.cst (.str "line")), (.neg (.cst (.int 1))), (.cst (.int 0))])])])]),
    .ite (.cmp .ne (.told (.meth 27 "put" (.var 1) [(.var 0)])) (.tup [(.neg (.var 0))])) [.ret (.cst (.bl false))] [],
    .ite (.cmp .ne (.told (.meth 27 "put" (.var 1) [(.var 0)])) (.tup [(.bin .mul false (.neg (.cst (.int 2))) (.var 0))])) [.ret (.cst (.bl false))] [],
    .ite (.cmp .ne (.told (.meth 27 "put" (.var 1) [(.neg (.var 0))])) (.tup [(.neg (.var 0))])) [.ret (.cst (.bl false))] [],
    .ite (.cmp .ne (.told (.meth 27 "put" (.var 1) [(.bin .add false (.var 0) (.cst (.int 1)))])) (.tup [(.cst (.str "error")), (.cst (.str "InvalidNumber"))])) [.ret (.cst (.bl false))] [],
    .ite (.cmp .ne (.told (.meth 27 "put" (.var 1) [(.bin .sub false (.neg (.var 0)) (.cst (.int 1)))])) (.tup [(.cst (.str "error")), (.cst (.str "InvalidNumber"))])) [.ret (.cst (.bl false))] [],
    .ite (.cmp .ne (.meth 26 "given" (.var 1) []) (.tup [(.neg (.var 0)), (.bin .mul false (.neg (.cst (.int 2))) (.var 0)), (.neg (.var 0))])) [.ret (.cst (.bl false))] [],
    .ite (.cmp .ne (.told (.call true 12 [(.tup [(.tup [(.cst (.str "sums"))])]), (.tup [(.var 0), (.var 0), (.var 0)])])) (.tup [(.var 0), (.bin .mul false (.cst (.int 2)) (.var 0)), (.bin .mul false (.cst (.int 3)) (.var 0))])) [.ret (.cst (.bl false))] [],
    .ite (.cmp .ne (.told (.call true 12 [(.tup []), (.tup [(.bin .sub false (.neg (.var 0)) (.cst (.int 1)))])])) (.tup [(.cst (.str "error")), (.cst (.str "InvalidRow"))])) [.ret (.cst (.bl false))] [],
    .ite (.cmp .ne (.told (.call true 13 [(.tup []), (.tup [(.bin .add false (.var 0) (.cst (.int 1)))])])) (.tup [(.cst (.str "error")), (.cst (.str "InvalidRow"))])) [.ret (.cst (.bl false))] [],
    .ret (.cst (.bl true))] }
def n_law_right_numbers : List Str := ["_law_far", "_law_feed"]
def d_law : Fd := { np := 1, nl := 13, body := [.loop (.nm 1) .of (.call false 21 [(.var 0), (.cst (.int 4))]) (.cst .non) [.asg (.tup [(.name 6), (.name 7), (.name 8)]) (.tup [(.bin .add false (.cst (.int 2)) (.call false 20 [(.var 1), (.cst (.int 2))])), (.bin .sub false (.call false 20 [(.var 1), (.cst (.int 7))]) (.cst (.int 3))), (.bin .sub false (.call false 20 [(.var 1), (.cst (.int 19))]) (.cst (.int 9)))]),
    .asg (.name 2) (.call false 20 [(.var 1), (.var 6)]),
    .asg (.name 3) (.lst false [(.tup [(.cst (.str "turn")), (.var 6), (.var 2), (.var 7), (.var 8)]), (.tup [(.cst (.str "turn")), (.var 6), (.var 2), (.cst (.int 3)), (.neg (.cst (.int 9)))]), (.tup [(.cst (.str "turn")), (.cst (.int 3)), (.cst (.int 2)), (.neg (.cst (.int 3))), (.cst (.int 9))]), (.tup [(.cst (.str "line")), (.var 7), (.var 8)])]),
    .asg (.name 3) (.bin .add false (.var 3) (.lst false [(.tup [(.cst (.str "keep")), (.var 6), (.var 2)]), (.tup [(.cst (.str "anew")), (.var 6), (.var 2)]), (.tup [(.cst (.str "every")), (.var 6), (.var 2)]), (.tup [(.cst (.str "groups")), (.var 6)])])),
    .loop (.nm 4) .of (.var 3) (.cst .non) [.asg (.name 9) (.met .join false (.cst (.str " ")) [(.comp false [12] (.bfn .str false [(.var 12)]) (.nm 12) .of (.var 4) (.cst .non) false (.cst .non))]),
    .ite (.or (.not (.call true 5 [(.tup [(.var 4)])])) (.cmp .ne (.told (.call true 17 [(.var 9)])) (.tup [(.var 4)]))) [.ret (.cst (.bl false))] [],
    .loop (.nm 10) .range2 (.cst (.int 1)) (.bfn .len false [(.var 4)]) [.loop (.nm 11) .of (.tup [(.cst .non), (.cst (.bl true)), (.cst (.str "1")), (.tup [(.cst (.int 1))]), (.cst (.int 10)), (.neg (.cst (.int 10)))]) (.cst .non) [.ite (.call true 5 [(.tup [(.bin .add false (.bin .add false (.slc false (.var 4) false true (.cst .non) (.var 10)) (.tup [(.var 11)])) (.slc false (.var 4) true false (.bin .add false (.var 10) (.cst (.int 1))) (.cst .non)))])]) [.ret (.cst (.bl false))] []]],
    .ite (.or (.call true 5 [(.tup [(.slc false (.var 4) false true (.cst .non) (.neg (.cst (.int 1))))])]) (.or (.call true 5 [(.tup [(.bin .add false (.var 4) (.tup [(.cst (.int 0))]))])]) (.call true 5 [(.tup [(.slc false (.var 4) false true (.cst .non) (.cst (.int 1)))])]))) [.ret (.cst (.bl false))] []],
    .asg (.name 5) (.lst false [(.tup [(.cst (.str "turn")), (.cst (.int 4)), (.cst (.int 0)), (.cst (.int 1)), (.cst (.int 0))]), (.tup [(.cst (.str "turn")), (.cst (.int 1)), (.cst (.int 0)), (.cst (.int 1)), (.cst (.int 0))]), (.tup [(.cst (.str "turn")), (.var 6), (.var 6), (.cst (.int 1)), (.cst (.int 0))])]),
    .asg (.name 5) (.bin .add false (.var 5) (.lst false [(.tup [(.cst (.str "turn")), (.var 6), (.neg (.cst (.int 1))), (.cst (.int 1)), (.cst (.int 0))]), (.tup [(.cst (.str "turn")), (.var 6), (.var 2), (.cst (.int 4)), (.cst (.int 0))]), (.tup [(.cst (.str "turn")), (.var 6), (.var 2), (.cst (.int 0)), (.cst (.int 10))])])),
    .loop (.nm 4) .of (.var 5) (.cst .non) [.ite (.or (.call true 5 [(.tup [(.var 4)])]) (.cmp .ne (.told (.call true 12 [(.tup [(.var 4)]), (.tup [])])) (.tup [(.cst (.str "error")), (.cst (.str "InvalidChain"))]))) [.ret (.cst (.bl false))] []],
    .ite (.not (.call true 22 [])) [.ret (.cst (.bl false))] []],
    .ret (.cst (.bl true))] }
def n_law : List Str := ["_law_script", "_law_dice", "_law_r", "_law_good", "_law_step", "_law_cases", "_law_m", "_law_a", "_law_b", "_law_text", "_law_place", "_law_thing", "_law_part"]
def d_Feed___init__ : Fd := { np := 2, nl := 2, body := [.expr (.call true 6 [(.var 1)]),
    .stf (.var 0) "chain" (.var 1),
    .stf (.var 0) "rows" (.lst false [(.tup [(.tup []), (.call true 10 [(.var 1)]), (.lst false [])])]),
    .stf (.var 0) "undone" (.lst false [])] }
def n_Feed___init__ : List Str := ["self", "chain"]
def d_Feed_row : Fd := { np := 1, nl := 1, body := [.ret (.idx (.idx (.fld (.var 0) "rows") (.neg (.cst (.int 1)))) (.cst (.int 0)))] }
def n_Feed_row : List Str := ["self"]
def d_Feed_given : Fd := { np := 1, nl := 5, body := [.ret (.bfn .tuple false [(.comp2 [2, 3, 4, 1] (.tp [(.nm 2), (.nm 3), (.nm 4)]) (.fld (.var 0) "rows") 4 1)])] }
def n_Feed_given : List Str := ["self", "number", "row", "held", "given"]
def d_Feed_put : Fd := { np := 2, nl := 4, body := [.ite (.not (.call true 0 [(.var 1), (.neg (.bin .pow false (.cst (.int 10)) (.cst (.int 30)))), (.bin .pow false (.cst (.int 10)) (.cst (.int 30)))])) [.raise 2] [],
    .ite (.cmp .eq (.bfn .len false [(.meth 25 "row" (.var 0) [])]) (.cst (.int 60))) [.raise 4] [],
    .asg (.tup [(.name 2), (.name 3)]) (.call true 11 [(.fld (.var 0) "chain"), (.idx (.idx (.fld (.var 0) "rows") (.neg (.cst (.int 1)))) (.cst (.int 1))), (.var 1)]),
    .stf (.var 0) "rows" (.bin .add false (.fld (.var 0) "rows") (.lst false [(.tup [(.bin .add false (.meth 25 "row" (.var 0) []) (.tup [(.var 1)])), (.var 2), (.var 3)])])),
    .stf (.var 0) "undone" (.lst false []),
    .ret (.bfn .tuple false [(.var 3)])] }
def n_Feed_put : List Str := ["self", "number", "held", "given"]
def pm : Pm := { fns := ["is_whole", "is_rest", "is_line", "is_step", "count_kinds", "is_chain", "need_chain", "is_row", "need_row", "fed", "begun", "passed", "run", "mix", "written", "number_of", "step_of", "parse_chain", "_law_cell", "_law_drawn", "_law_roll", "_law_rounds", "_law_right_numbers"], cs := [("MOST_STEPS", (.int 4)), ("MOST_ROW", (.int 60)), ("PLAIN", (.tup [(.str "sums"), (.str "gaps"), (.str "count"), (.str "twice")])), ("KEEPING", (.tup [(.str "sums"), (.str "gaps"), (.str "anew"), (.str "groups"), (.str "count")])), ("PARTING", (.tup [(.str "anew"), (.str "keep"), (.str "turn")]))], cls := "Feed", ini := 24, mth := [("row", 25), ("given", 26), ("put", 27)], fld := ["chain", "rows", "undone"] }
def prog : List Fd := [d_is_whole, d_is_rest, d_is_line, d_is_step, d_count_kinds, d_is_chain, d_need_chain, d_is_row, d_need_row, d_fed, d_begun, d_passed, d_run, d_mix, d_written, d_number_of, d_step_of, d_parse_chain, d_law_cell, d_law_drawn, d_law_roll, d_law_rounds, d_law_right_numbers, d_law, d_Feed___init__, d_Feed_row, d_Feed_given, d_Feed_put]
abbrev i_is_whole : Nat := 0
abbrev i_is_rest : Nat := 1
abbrev i_is_line : Nat := 2
abbrev i_is_step : Nat := 3
abbrev i_count_kinds : Nat := 4
abbrev i_is_chain : Nat := 5
abbrev i_need_chain : Nat := 6
abbrev i_is_row : Nat := 7
abbrev i_need_row : Nat := 8
abbrev i_fed : Nat := 9
abbrev i_begun : Nat := 10
abbrev i_passed : Nat := 11
abbrev i_run : Nat := 12
abbrev i_mix : Nat := 13
abbrev i_written : Nat := 14
abbrev i_number_of : Nat := 15
abbrev i_step_of : Nat := 16
abbrev i_parse_chain : Nat := 17
abbrev i_law_cell : Nat := 18
abbrev i_law_drawn : Nat := 19
abbrev i_law_roll : Nat := 20
abbrev i_law_rounds : Nat := 21
abbrev i_law_right_numbers : Nat := 22
abbrev i_law : Nat := 23
abbrev exs : List Nat := [0, 1, 2, 3, 4]
abbrev fuel : Nat := 1000
abbrev lev : Nat := 20
theorem ck_is_whole : chkCs pm exs n_is_whole (L2.defScope (top 14)) d_is_whole.body (L2.defBody (top 14)) = true := by decide +kernel
theorem ck_is_rest : chkCs pm exs n_is_rest (L2.defScope (top 24)) d_is_rest.body (L2.defBody (top 24)) = true := by decide +kernel
theorem ck_is_line : chkCs pm exs n_is_line (L2.defScope (top 25)) d_is_line.body (L2.defBody (top 25)) = true := by decide +kernel
theorem ck_is_step : chkCs pm exs n_is_step (L2.defScope (top 26)) d_is_step.body (L2.defBody (top 26)) = true := by decide +kernel
theorem ck_count_kinds : chkCs pm exs n_count_kinds (L2.defScope (top 27)) d_count_kinds.body (L2.defBody (top 27)) = true := by decide +kernel
theorem ck_is_chain : chkCs pm exs n_is_chain (L2.defScope (top 28)) d_is_chain.body (L2.defBody (top 28)) = true := by decide +kernel
theorem ck_need_chain : chkCs pm exs n_need_chain (L2.defScope (top 29)) d_need_chain.body (L2.defBody (top 29)) = true := by decide +kernel
theorem ck_is_row : chkCs pm exs n_is_row (L2.defScope (top 30)) d_is_row.body (L2.defBody (top 30)) = true := by decide +kernel
theorem ck_need_row : chkCs pm exs n_need_row (L2.defScope (top 31)) d_need_row.body (L2.defBody (top 31)) = true := by decide +kernel
theorem ck_fed : chkCs pm exs n_fed (L2.defScope (top 33)) d_fed.body (L2.defBody (top 33)) = true := by decide +kernel
theorem ck_begun : chkCs pm exs n_begun (L2.defScope (top 34)) d_begun.body (L2.defBody (top 34)) = true := by decide +kernel
theorem ck_passed : chkCs pm exs n_passed (L2.defScope (top 35)) d_passed.body (L2.defBody (top 35)) = true := by decide +kernel
theorem ck_run : chkCs pm exs n_run (L2.defScope (top 36)) d_run.body (L2.defBody (top 36)) = true := by decide +kernel
theorem ck_mix : chkCs pm exs n_mix (L2.defScope (top 55)) d_mix.body (L2.defBody (top 55)) = true := by decide +kernel
theorem ck_written : chkCs pm exs n_written (L2.defScope (top 57)) d_written.body (L2.defBody (top 57)) = true := by decide +kernel
theorem ck_number_of : chkCs pm exs n_number_of (L2.defScope (top 58)) d_number_of.body (L2.defBody (top 58)) = true := by decide +kernel
theorem ck_step_of : chkCs pm exs n_step_of (L2.defScope (top 59)) d_step_of.body (L2.defBody (top 59)) = true := by decide +kernel
theorem ck_parse_chain : chkCs pm exs n_parse_chain (L2.defScope (top 60)) d_parse_chain.body (L2.defBody (top 60)) = true := by decide +kernel
theorem ck_law_cell : chkCs pm exs n_law_cell (L2.defScope (top 62)) d_law_cell.body (L2.defBody (top 62)) = true := by decide +kernel
theorem ck_law_drawn : chkCs pm exs n_law_drawn (L2.defScope (top 63)) d_law_drawn.body (L2.defBody (top 63)) = true := by decide +kernel
theorem ck_law_roll : chkCs pm exs n_law_roll (L2.defScope (top 64)) d_law_roll.body (L2.defBody (top 64)) = true := by decide +kernel
theorem ck_law_rounds : chkCs pm exs n_law_rounds (L2.defScope (top 65)) d_law_rounds.body (L2.defBody (top 65)) = true := by decide +kernel
theorem ck_law_right_numbers : chkCs { pm with td := true } exs n_law_right_numbers (L2.defScope (top 68)) d_law_right_numbers.body (L2.defBody (top 68)) = true := by decide +kernel
theorem ck_law : chkCs { pm with td := true } exs n_law (L2.defScope (top 69)) d_law.body (L2.defBody (top 69)) = true := by decide +kernel
theorem ck_Feed___init__ : chkCs pm exs n_Feed___init__ (L2.defScope (L2.inClass (top 38) 0)) d_Feed___init__.body (L2.defBody (L2.inClass (top 38) 0)) = true := by decide +kernel
theorem ck_Feed_row : chkCs pm exs n_Feed_row (L2.defScope (L2.inClass (top 38) 1)) d_Feed_row.body (L2.defBody (L2.inClass (top 38) 1)) = true := by decide +kernel
theorem ck_Feed_given : chkCs pm exs n_Feed_given (L2.defScope (L2.inClass (top 38) 2)) d_Feed_given.body (L2.defBody (L2.inClass (top 38) 2)) = true := by decide +kernel
theorem ck_Feed_put : chkCs pm exs n_Feed_put (L2.defScope (L2.inClass (top 38) 3)) d_Feed_put.body (L2.defBody (L2.inClass (top 38) 3)) = true := by decide +kernel
theorem sc_of {N ps : List Str} {st : Stmt} (a : (L2.defScope st).kind = .function) (b : (L2.defScope st).isCoroutine = false) (c : (L2.defScope st).isGenerator = false) (d : decide (N.Nodup) = true) (e : N.take ps.length = ps) (f : (ps.all fun x => decide ((L2.defScope st).names.lookup x = some .local) || decide ((L2.defScope st).names.lookup x = some .cell)) = true) (g : ((L2.defScope st).names.all fun y => decide (y.2 ≠ .free)) = true) : L2.FnScope N ps (L2.defScope st) := ⟨a, b, c, of_decide_eq_true d, e, fun x hx => by
    have z := List.all_eq_true.mp f x hx
    rcases Bool.or_eq_true_iff.mp z with z | z
    · exact .inl (of_decide_eq_true z)
    · exact .inr (of_decide_eq_true z), fun y hy => of_decide_eq_true (List.all_eq_true.mp g y hy)⟩
theorem sc_is_whole : L2.FnScope n_is_whole ["value", "low", "high"] (L2.defScope (top 14)) := sc_of rfl rfl rfl (by decide +kernel) rfl (by decide +kernel) (by decide +kernel)
theorem b_is_whole : ∀ (kV doc pm : Value) (an : Option Addr) (cdv ct : Value) (us : List Value), us.length = (["value", "low", "high"] : List Str).length → bindArgs (PySem.W.fnOf "is_whole" "is_whole" (L2.defArgs (top 14)) (L2.defBody (top 14)) (L2.defScope (top 14)) .none kV doc pm an cdv ct) ⟨us, []⟩ = pure ((["value", "low", "high"] : List Str).zip us) := fun _ _ _ _ _ _ us hl => match us, hl with | [_, _, _], _ => rfl
theorem sc_is_rest : L2.FnScope n_is_rest ["value"] (L2.defScope (top 24)) := sc_of rfl rfl rfl (by decide +kernel) rfl (by decide +kernel) (by decide +kernel)
theorem b_is_rest : ∀ (kV doc pm : Value) (an : Option Addr) (cdv ct : Value) (us : List Value), us.length = (["value"] : List Str).length → bindArgs (PySem.W.fnOf "is_rest" "is_rest" (L2.defArgs (top 24)) (L2.defBody (top 24)) (L2.defScope (top 24)) .none kV doc pm an cdv ct) ⟨us, []⟩ = pure ((["value"] : List Str).zip us) := fun _ _ _ _ _ _ us hl => match us, hl with | [_], _ => rfl
theorem sc_is_line : L2.FnScope n_is_line ["value"] (L2.defScope (top 25)) := sc_of rfl rfl rfl (by decide +kernel) rfl (by decide +kernel) (by decide +kernel)
theorem b_is_line : ∀ (kV doc pm : Value) (an : Option Addr) (cdv ct : Value) (us : List Value), us.length = (["value"] : List Str).length → bindArgs (PySem.W.fnOf "is_line" "is_line" (L2.defArgs (top 25)) (L2.defBody (top 25)) (L2.defScope (top 25)) .none kV doc pm an cdv ct) ⟨us, []⟩ = pure ((["value"] : List Str).zip us) := fun _ _ _ _ _ _ us hl => match us, hl with | [_], _ => rfl
theorem sc_is_step : L2.FnScope n_is_step ["value"] (L2.defScope (top 26)) := sc_of rfl rfl rfl (by decide +kernel) rfl (by decide +kernel) (by decide +kernel)
theorem b_is_step : ∀ (kV doc pm : Value) (an : Option Addr) (cdv ct : Value) (us : List Value), us.length = (["value"] : List Str).length → bindArgs (PySem.W.fnOf "is_step" "is_step" (L2.defArgs (top 26)) (L2.defBody (top 26)) (L2.defScope (top 26)) .none kV doc pm an cdv ct) ⟨us, []⟩ = pure ((["value"] : List Str).zip us) := fun _ _ _ _ _ _ us hl => match us, hl with | [_], _ => rfl
theorem sc_count_kinds : L2.FnScope n_count_kinds ["chain", "kinds"] (L2.defScope (top 27)) := sc_of rfl rfl rfl (by decide +kernel) rfl (by decide +kernel) (by decide +kernel)
theorem b_count_kinds : ∀ (kV doc pm : Value) (an : Option Addr) (cdv ct : Value) (us : List Value), us.length = (["chain", "kinds"] : List Str).length → bindArgs (PySem.W.fnOf "count_kinds" "count_kinds" (L2.defArgs (top 27)) (L2.defBody (top 27)) (L2.defScope (top 27)) .none kV doc pm an cdv ct) ⟨us, []⟩ = pure ((["chain", "kinds"] : List Str).zip us) := fun _ _ _ _ _ _ us hl => match us, hl with | [_, _], _ => rfl
theorem sc_is_chain : L2.FnScope n_is_chain ["value"] (L2.defScope (top 28)) := sc_of rfl rfl rfl (by decide +kernel) rfl (by decide +kernel) (by decide +kernel)
theorem b_is_chain : ∀ (kV doc pm : Value) (an : Option Addr) (cdv ct : Value) (us : List Value), us.length = (["value"] : List Str).length → bindArgs (PySem.W.fnOf "is_chain" "is_chain" (L2.defArgs (top 28)) (L2.defBody (top 28)) (L2.defScope (top 28)) .none kV doc pm an cdv ct) ⟨us, []⟩ = pure ((["value"] : List Str).zip us) := fun _ _ _ _ _ _ us hl => match us, hl with | [_], _ => rfl
theorem sc_need_chain : L2.FnScope n_need_chain ["chain"] (L2.defScope (top 29)) := sc_of rfl rfl rfl (by decide +kernel) rfl (by decide +kernel) (by decide +kernel)
theorem b_need_chain : ∀ (kV doc pm : Value) (an : Option Addr) (cdv ct : Value) (us : List Value), us.length = (["chain"] : List Str).length → bindArgs (PySem.W.fnOf "need_chain" "need_chain" (L2.defArgs (top 29)) (L2.defBody (top 29)) (L2.defScope (top 29)) .none kV doc pm an cdv ct) ⟨us, []⟩ = pure ((["chain"] : List Str).zip us) := fun _ _ _ _ _ _ us hl => match us, hl with | [_], _ => rfl
theorem sc_is_row : L2.FnScope n_is_row ["value"] (L2.defScope (top 30)) := sc_of rfl rfl rfl (by decide +kernel) rfl (by decide +kernel) (by decide +kernel)
theorem b_is_row : ∀ (kV doc pm : Value) (an : Option Addr) (cdv ct : Value) (us : List Value), us.length = (["value"] : List Str).length → bindArgs (PySem.W.fnOf "is_row" "is_row" (L2.defArgs (top 30)) (L2.defBody (top 30)) (L2.defScope (top 30)) .none kV doc pm an cdv ct) ⟨us, []⟩ = pure ((["value"] : List Str).zip us) := fun _ _ _ _ _ _ us hl => match us, hl with | [_], _ => rfl
theorem sc_need_row : L2.FnScope n_need_row ["row"] (L2.defScope (top 31)) := sc_of rfl rfl rfl (by decide +kernel) rfl (by decide +kernel) (by decide +kernel)
theorem b_need_row : ∀ (kV doc pm : Value) (an : Option Addr) (cdv ct : Value) (us : List Value), us.length = (["row"] : List Str).length → bindArgs (PySem.W.fnOf "need_row" "need_row" (L2.defArgs (top 31)) (L2.defBody (top 31)) (L2.defScope (top 31)) .none kV doc pm an cdv ct) ⟨us, []⟩ = pure ((["row"] : List Str).zip us) := fun _ _ _ _ _ _ us hl => match us, hl with | [_], _ => rfl
theorem sc_fed : L2.FnScope n_fed ["step", "held", "number"] (L2.defScope (top 33)) := sc_of rfl rfl rfl (by decide +kernel) rfl (by decide +kernel) (by decide +kernel)
theorem b_fed : ∀ (kV doc pm : Value) (an : Option Addr) (cdv ct : Value) (us : List Value), us.length = (["step", "held", "number"] : List Str).length → bindArgs (PySem.W.fnOf "fed" "fed" (L2.defArgs (top 33)) (L2.defBody (top 33)) (L2.defScope (top 33)) .none kV doc pm an cdv ct) ⟨us, []⟩ = pure ((["step", "held", "number"] : List Str).zip us) := fun _ _ _ _ _ _ us hl => match us, hl with | [_, _, _], _ => rfl
theorem sc_begun : L2.FnScope n_begun ["chain"] (L2.defScope (top 34)) := sc_of rfl rfl rfl (by decide +kernel) rfl (by decide +kernel) (by decide +kernel)
theorem b_begun : ∀ (kV doc pm : Value) (an : Option Addr) (cdv ct : Value) (us : List Value), us.length = (["chain"] : List Str).length → bindArgs (PySem.W.fnOf "begun" "begun" (L2.defArgs (top 34)) (L2.defBody (top 34)) (L2.defScope (top 34)) .none kV doc pm an cdv ct) ⟨us, []⟩ = pure ((["chain"] : List Str).zip us) := fun _ _ _ _ _ _ us hl => match us, hl with | [_], _ => rfl
theorem sc_passed : L2.FnScope n_passed ["chain", "held", "number"] (L2.defScope (top 35)) := sc_of rfl rfl rfl (by decide +kernel) rfl (by decide +kernel) (by decide +kernel)
theorem b_passed : ∀ (kV doc pm : Value) (an : Option Addr) (cdv ct : Value) (us : List Value), us.length = (["chain", "held", "number"] : List Str).length → bindArgs (PySem.W.fnOf "passed" "passed" (L2.defArgs (top 35)) (L2.defBody (top 35)) (L2.defScope (top 35)) .none kV doc pm an cdv ct) ⟨us, []⟩ = pure ((["chain", "held", "number"] : List Str).zip us) := fun _ _ _ _ _ _ us hl => match us, hl with | [_, _, _], _ => rfl
theorem sc_run : L2.FnScope n_run ["chain", "row"] (L2.defScope (top 36)) := sc_of rfl rfl rfl (by decide +kernel) rfl (by decide +kernel) (by decide +kernel)
theorem b_run : ∀ (kV doc pm : Value) (an : Option Addr) (cdv ct : Value) (us : List Value), us.length = (["chain", "row"] : List Str).length → bindArgs (PySem.W.fnOf "run" "run" (L2.defArgs (top 36)) (L2.defBody (top 36)) (L2.defScope (top 36)) .none kV doc pm an cdv ct) ⟨us, []⟩ = pure ((["chain", "row"] : List Str).zip us) := fun _ _ _ _ _ _ us hl => match us, hl with | [_, _], _ => rfl
theorem sc_mix : L2.FnScope n_mix ["chain", "row"] (L2.defScope (top 55)) := sc_of rfl rfl rfl (by decide +kernel) rfl (by decide +kernel) (by decide +kernel)
theorem b_mix : ∀ (kV doc pm : Value) (an : Option Addr) (cdv ct : Value) (us : List Value), us.length = (["chain", "row"] : List Str).length → bindArgs (PySem.W.fnOf "mix" "mix" (L2.defArgs (top 55)) (L2.defBody (top 55)) (L2.defScope (top 55)) .none kV doc pm an cdv ct) ⟨us, []⟩ = pure ((["chain", "row"] : List Str).zip us) := fun _ _ _ _ _ _ us hl => match us, hl with | [_, _], _ => rfl
theorem sc_written : L2.FnScope n_written ["chain"] (L2.defScope (top 57)) := sc_of rfl rfl rfl (by decide +kernel) rfl (by decide +kernel) (by decide +kernel)
theorem b_written : ∀ (kV doc pm : Value) (an : Option Addr) (cdv ct : Value) (us : List Value), us.length = (["chain"] : List Str).length → bindArgs (PySem.W.fnOf "written" "written" (L2.defArgs (top 57)) (L2.defBody (top 57)) (L2.defScope (top 57)) .none kV doc pm an cdv ct) ⟨us, []⟩ = pure ((["chain"] : List Str).zip us) := fun _ _ _ _ _ _ us hl => match us, hl with | [_], _ => rfl
theorem sc_number_of : L2.FnScope n_number_of ["word"] (L2.defScope (top 58)) := sc_of rfl rfl rfl (by decide +kernel) rfl (by decide +kernel) (by decide +kernel)
theorem b_number_of : ∀ (kV doc pm : Value) (an : Option Addr) (cdv ct : Value) (us : List Value), us.length = (["word"] : List Str).length → bindArgs (PySem.W.fnOf "number_of" "number_of" (L2.defArgs (top 58)) (L2.defBody (top 58)) (L2.defScope (top 58)) .none kV doc pm an cdv ct) ⟨us, []⟩ = pure ((["word"] : List Str).zip us) := fun _ _ _ _ _ _ us hl => match us, hl with | [_], _ => rfl
theorem sc_step_of : L2.FnScope n_step_of ["text"] (L2.defScope (top 59)) := sc_of rfl rfl rfl (by decide +kernel) rfl (by decide +kernel) (by decide +kernel)
theorem b_step_of : ∀ (kV doc pm : Value) (an : Option Addr) (cdv ct : Value) (us : List Value), us.length = (["text"] : List Str).length → bindArgs (PySem.W.fnOf "step_of" "step_of" (L2.defArgs (top 59)) (L2.defBody (top 59)) (L2.defScope (top 59)) .none kV doc pm an cdv ct) ⟨us, []⟩ = pure ((["text"] : List Str).zip us) := fun _ _ _ _ _ _ us hl => match us, hl with | [_], _ => rfl
theorem sc_parse_chain : L2.FnScope n_parse_chain ["text"] (L2.defScope (top 60)) := sc_of rfl rfl rfl (by decide +kernel) rfl (by decide +kernel) (by decide +kernel)
theorem b_parse_chain : ∀ (kV doc pm : Value) (an : Option Addr) (cdv ct : Value) (us : List Value), us.length = (["text"] : List Str).length → bindArgs (PySem.W.fnOf "parse_chain" "parse_chain" (L2.defArgs (top 60)) (L2.defBody (top 60)) (L2.defScope (top 60)) .none kV doc pm an cdv ct) ⟨us, []⟩ = pure ((["text"] : List Str).zip us) := fun _ _ _ _ _ _ us hl => match us, hl with | [_], _ => rfl
theorem sc_law_cell : L2.FnScope n_law_cell ["_law_script", "_law_k"] (L2.defScope (top 62)) := sc_of rfl rfl rfl (by decide +kernel) rfl (by decide +kernel) (by decide +kernel)
theorem b_law_cell : ∀ (kV doc pm : Value) (an : Option Addr) (cdv ct : Value) (us : List Value), us.length = (["_law_script", "_law_k"] : List Str).length → bindArgs (PySem.W.fnOf "_law_cell" "_law_cell" (L2.defArgs (top 62)) (L2.defBody (top 62)) (L2.defScope (top 62)) .none kV doc pm an cdv ct) ⟨us, []⟩ = pure ((["_law_script", "_law_k"] : List Str).zip us) := fun _ _ _ _ _ _ us hl => match us, hl with | [_, _], _ => rfl
theorem sc_law_drawn : L2.FnScope n_law_drawn ["_law_cell_here", "_law_k"] (L2.defScope (top 63)) := sc_of rfl rfl rfl (by decide +kernel) rfl (by decide +kernel) (by decide +kernel)
theorem b_law_drawn : ∀ (kV doc pm : Value) (an : Option Addr) (cdv ct : Value) (us : List Value), us.length = (["_law_cell_here", "_law_k"] : List Str).length → bindArgs (PySem.W.fnOf "_law_drawn" "_law_drawn" (L2.defArgs (top 63)) (L2.defBody (top 63)) (L2.defScope (top 63)) .none kV doc pm an cdv ct) ⟨us, []⟩ = pure ((["_law_cell_here", "_law_k"] : List Str).zip us) := fun _ _ _ _ _ _ us hl => match us, hl with | [_, _], _ => rfl
theorem sc_law_roll : L2.FnScope n_law_roll ["_law_dice", "_law_many"] (L2.defScope (top 64)) := sc_of rfl rfl rfl (by decide +kernel) rfl (by decide +kernel) (by decide +kernel)
theorem b_law_roll : ∀ (kV doc pm : Value) (an : Option Addr) (cdv ct : Value) (us : List Value), us.length = (["_law_dice", "_law_many"] : List Str).length → bindArgs (PySem.W.fnOf "_law_roll" "_law_roll" (L2.defArgs (top 64)) (L2.defBody (top 64)) (L2.defScope (top 64)) .none kV doc pm an cdv ct) ⟨us, []⟩ = pure ((["_law_dice", "_law_many"] : List Str).zip us) := fun _ _ _ _ _ _ us hl => match us, hl with | [_, _], _ => rfl
theorem sc_law_rounds : L2.FnScope n_law_rounds ["_law_script", "_law_most"] (L2.defScope (top 65)) := sc_of rfl rfl rfl (by decide +kernel) rfl (by decide +kernel) (by decide +kernel)
theorem b_law_rounds : ∀ (kV doc pm : Value) (an : Option Addr) (cdv ct : Value) (us : List Value), us.length = (["_law_script", "_law_most"] : List Str).length → bindArgs (PySem.W.fnOf "_law_rounds" "_law_rounds" (L2.defArgs (top 65)) (L2.defBody (top 65)) (L2.defScope (top 65)) .none kV doc pm an cdv ct) ⟨us, []⟩ = pure ((["_law_script", "_law_most"] : List Str).zip us) := fun _ _ _ _ _ _ us hl => match us, hl with | [_, _], _ => rfl
theorem sc_law_right_numbers : L2.FnScope n_law_right_numbers [] (L2.defScope (top 68)) := sc_of rfl rfl rfl (by decide +kernel) rfl (by decide +kernel) (by decide +kernel)
theorem b_law_right_numbers : ∀ (kV doc pm : Value) (an : Option Addr) (cdv ct : Value) (us : List Value), us.length = ([] : List Str).length → bindArgs (PySem.W.fnOf "_law_right_numbers" "_law_right_numbers" (L2.defArgs (top 68)) (L2.defBody (top 68)) (L2.defScope (top 68)) .none kV doc pm an cdv ct) ⟨us, []⟩ = pure (([] : List Str).zip us) := fun _ _ _ _ _ _ us hl => match us, hl with | [], _ => rfl
theorem sc_law : L2.FnScope n_law ["_law_script"] (L2.defScope (top 69)) := sc_of rfl rfl rfl (by decide +kernel) rfl (by decide +kernel) (by decide +kernel)
theorem b_law : ∀ (kV doc pm : Value) (an : Option Addr) (cdv ct : Value) (us : List Value), us.length = (["_law_script"] : List Str).length → bindArgs (PySem.W.fnOf "law" "law" (L2.defArgs (top 69)) (L2.defBody (top 69)) (L2.defScope (top 69)) .none kV doc pm an cdv ct) ⟨us, []⟩ = pure ((["_law_script"] : List Str).zip us) := fun _ _ _ _ _ _ us hl => match us, hl with | [_], _ => rfl
theorem sc_Feed___init__ : L2.FnScope n_Feed___init__ ["self", "chain"] (L2.defScope (L2.inClass (top 38) 0)) := sc_of rfl rfl rfl (by decide +kernel) rfl (by decide +kernel) (by decide +kernel)
theorem b_Feed___init__ : ∀ (kV doc pm : Value) (an : Option Addr) (cdv ct : Value) (us : List Value), us.length = (["self", "chain"] : List Str).length → bindArgs (PySem.W.fnOf "__init__" "Feed.__init__" (L2.defArgs (L2.inClass (top 38) 0)) (L2.defBody (L2.inClass (top 38) 0)) (L2.defScope (L2.inClass (top 38) 0)) .none kV doc pm an cdv ct) ⟨us, []⟩ = pure ((["self", "chain"] : List Str).zip us) := fun _ _ _ _ _ _ us hl => match us, hl with | [_, _], _ => rfl
theorem sc_Feed_row : L2.FnScope n_Feed_row ["self"] (L2.defScope (L2.inClass (top 38) 1)) := sc_of rfl rfl rfl (by decide +kernel) rfl (by decide +kernel) (by decide +kernel)
theorem b_Feed_row : ∀ (kV doc pm : Value) (an : Option Addr) (cdv ct : Value) (us : List Value), us.length = (["self"] : List Str).length → bindArgs (PySem.W.fnOf "row" "Feed.row" (L2.defArgs (L2.inClass (top 38) 1)) (L2.defBody (L2.inClass (top 38) 1)) (L2.defScope (L2.inClass (top 38) 1)) .none kV doc pm an cdv ct) ⟨us, []⟩ = pure ((["self"] : List Str).zip us) := fun _ _ _ _ _ _ us hl => match us, hl with | [_], _ => rfl
theorem sc_Feed_given : L2.FnScope n_Feed_given ["self"] (L2.defScope (L2.inClass (top 38) 2)) := sc_of rfl rfl rfl (by decide +kernel) rfl (by decide +kernel) (by decide +kernel)
theorem b_Feed_given : ∀ (kV doc pm : Value) (an : Option Addr) (cdv ct : Value) (us : List Value), us.length = (["self"] : List Str).length → bindArgs (PySem.W.fnOf "given" "Feed.given" (L2.defArgs (L2.inClass (top 38) 2)) (L2.defBody (L2.inClass (top 38) 2)) (L2.defScope (L2.inClass (top 38) 2)) .none kV doc pm an cdv ct) ⟨us, []⟩ = pure ((["self"] : List Str).zip us) := fun _ _ _ _ _ _ us hl => match us, hl with | [_], _ => rfl
theorem sc_Feed_put : L2.FnScope n_Feed_put ["self", "number"] (L2.defScope (L2.inClass (top 38) 3)) := sc_of rfl rfl rfl (by decide +kernel) rfl (by decide +kernel) (by decide +kernel)
theorem b_Feed_put : ∀ (kV doc pm : Value) (an : Option Addr) (cdv ct : Value) (us : List Value), us.length = (["self", "number"] : List Str).length → bindArgs (PySem.W.fnOf "put" "Feed.put" (L2.defArgs (L2.inClass (top 38) 3)) (L2.defBody (L2.inClass (top 38) 3)) (L2.defScope (L2.inClass (top 38) 3)) .none kV doc pm an cdv ct) ⟨us, []⟩ = pure ((["self", "number"] : List Str).zip us) := fun _ _ _ _ _ _ us hl => match us, hl with | [_, _], _ => rfl
theorem cls_all {K : PySem.W.Frag} {mg : Str → Option Value} {C : Addr} (H : ClsH K mg "Feed" C) (nf0 : L2.NoAttr K C "chain") (nf1 : L2.NoAttr K C "rows") (nf2 : L2.NoAttr K C "undone") (hi : IniF K pm exs d_Feed___init__ C) (m0 : MthF K pm exs d_Feed_row C "row") (m1 : MthF K pm exs d_Feed_given C "given") (m2 : MthF K pm exs d_Feed_put C "put") : ClsF K mg pm exs prog C where
  mt := fun x i hx => by
    unfold pm at hx
    simp only [List.lookup_cons, List.lookup_nil] at hx
    split at hx
    · rename_i e; rw [eq_of_beq e]; cases hx; exact ⟨by decide, _, rfl, rfl, m0⟩
    split at hx
    · rename_i e; rw [eq_of_beq e]; cases hx; exact ⟨by decide, _, rfl, rfl, m1⟩
    split at hx
    · rename_i e; rw [eq_of_beq e]; cases hx; exact ⟨by decide, _, rfl, rfl, m2⟩
    cases hx
  cl := fun _ => ⟨H.cl, H.nm, fun x hx => by
    simp only [pm, List.mem_cons, List.not_mem_nil, or_false] at hx
    rcases hx with rfl | rfl | rfl <;> assumption, by decide, _, rfl, rfl, hi⟩
  ln := fun i h => by
    cases h
  eq := fun i h => by
    cases h
theorem sc_law_told : L2.FnScope Nd ["_law_deed"] (L2.defScope (top 67)) := sc_of rfl rfl rfl (by decide +kernel) rfl (by decide +kernel) (by decide +kernel)
theorem b_law_told : ∀ (kV doc pm : Value) (an : Option Addr) (cdv ct : Value) (us : List Value), us.length = (["_law_deed"] : List Str).length → bindArgs (PySem.W.fnOf "_law_told" "_law_told" (L2.defArgs (top 67)) (L2.defBody (top 67)) (L2.defScope (top 67)) .none kV doc pm an cdv ct) ⟨us, []⟩ = pure ((["_law_deed"] : List Str).zip us) := fun _ _ _ _ _ _ us hl => match us, hl with | [_], _ => rfl
theorem sc_law_term : L2.FnScope Nt ["_law_e"] (L2.defScope (top 66)) := sc_of rfl rfl rfl (by decide +kernel) rfl (by decide +kernel) (by decide +kernel)
theorem b_law_term : ∀ (kV doc pm : Value) (an : Option Addr) (cdv ct : Value) (us : List Value), us.length = (["_law_e"] : List Str).length → bindArgs (PySem.W.fnOf "_law_term" "_law_term" (L2.defArgs (top 66)) (L2.defBody (top 66)) (L2.defScope (top 66)) .none kV doc pm an cdv ct) ⟨us, []⟩ = pure ((["_law_e"] : List Str).zip us) := fun _ _ _ _ _ _ us hl => match us, hl with | [_], _ => rfl
theorem tk_told : toldB (L2.defScope (top 67)) (L2.defBody (top 67)) = true := by decide +kernel
theorem tk_term : termB (L2.defScope (top 66)) (L2.defBody (top 66)) = true := by decide +kernel
theorem fn_all {K : PySem.W.Frag} {mg : Str → Option Value} {cc : Addr} (h0 : FnF K mg pm exs d_is_whole "is_whole") (h1 : FnF K mg pm exs d_is_rest "is_rest") (h2 : FnF K mg pm exs d_is_line "is_line") (h3 : FnF K mg pm exs d_is_step "is_step") (h4 : FnF K mg pm exs d_count_kinds "count_kinds") (h5 : FnF K mg pm exs d_is_chain "is_chain") (h6 : FnF K mg pm exs d_need_chain "need_chain") (h7 : FnF K mg pm exs d_is_row "is_row") (h8 : FnF K mg pm exs d_need_row "need_row") (h9 : FnF K mg pm exs d_fed "fed") (h10 : FnF K mg pm exs d_begun "begun") (h11 : FnF K mg pm exs d_passed "passed") (h12 : FnF K mg pm exs d_run "run") (h13 : FnF K mg pm exs d_mix "mix") (h14 : FnF K mg pm exs d_written "written") (h15 : FnF K mg pm exs d_number_of "number_of") (h16 : FnF K mg pm exs d_step_of "step_of") (h17 : FnF K mg pm exs d_parse_chain "parse_chain") (h18 : FnF K mg pm exs d_law_cell "_law_cell") (h19 : FnF K mg pm exs d_law_drawn "_law_drawn") (h20 : FnF K mg pm exs d_law_roll "_law_roll") (h21 : FnF K mg pm exs d_law_rounds "_law_rounds") (h22 : FnT0 K mg pm exs d_law_right_numbers "_law_right_numbers" cc) : ∀ (i : Nat) (x : Str), pm.fns[i]? = some x → ∃ d, prog[i]? = some d ∧ ((d.td = false ∧ FnF K mg pm exs d x) ∨ (d.td = true ∧ x = "_law_right_numbers" ∧ FnT0 K mg pm exs d x cc)) := fun i x hx => match i, hx with
  | 0, hx => by cases hx; exact ⟨_, rfl, .inl ⟨rfl, h0⟩⟩
  | 1, hx => by cases hx; exact ⟨_, rfl, .inl ⟨rfl, h1⟩⟩
  | 2, hx => by cases hx; exact ⟨_, rfl, .inl ⟨rfl, h2⟩⟩
  | 3, hx => by cases hx; exact ⟨_, rfl, .inl ⟨rfl, h3⟩⟩
  | 4, hx => by cases hx; exact ⟨_, rfl, .inl ⟨rfl, h4⟩⟩
  | 5, hx => by cases hx; exact ⟨_, rfl, .inl ⟨rfl, h5⟩⟩
  | 6, hx => by cases hx; exact ⟨_, rfl, .inl ⟨rfl, h6⟩⟩
  | 7, hx => by cases hx; exact ⟨_, rfl, .inl ⟨rfl, h7⟩⟩
  | 8, hx => by cases hx; exact ⟨_, rfl, .inl ⟨rfl, h8⟩⟩
  | 9, hx => by cases hx; exact ⟨_, rfl, .inl ⟨rfl, h9⟩⟩
  | 10, hx => by cases hx; exact ⟨_, rfl, .inl ⟨rfl, h10⟩⟩
  | 11, hx => by cases hx; exact ⟨_, rfl, .inl ⟨rfl, h11⟩⟩
  | 12, hx => by cases hx; exact ⟨_, rfl, .inl ⟨rfl, h12⟩⟩
  | 13, hx => by cases hx; exact ⟨_, rfl, .inl ⟨rfl, h13⟩⟩
  | 14, hx => by cases hx; exact ⟨_, rfl, .inl ⟨rfl, h14⟩⟩
  | 15, hx => by cases hx; exact ⟨_, rfl, .inl ⟨rfl, h15⟩⟩
  | 16, hx => by cases hx; exact ⟨_, rfl, .inl ⟨rfl, h16⟩⟩
  | 17, hx => by cases hx; exact ⟨_, rfl, .inl ⟨rfl, h17⟩⟩
  | 18, hx => by cases hx; exact ⟨_, rfl, .inl ⟨rfl, h18⟩⟩
  | 19, hx => by cases hx; exact ⟨_, rfl, .inl ⟨rfl, h19⟩⟩
  | 20, hx => by cases hx; exact ⟨_, rfl, .inl ⟨rfl, h20⟩⟩
  | 21, hx => by cases hx; exact ⟨_, rfl, .inl ⟨rfl, h21⟩⟩
  | 22, hx => by cases hx; exact ⟨_, rfl, .inr ⟨rfl, rfl, h22⟩⟩
  | n + 23, hx => by cases hx
theorem cs_all {K : PySem.W.Frag} {mg : Str → Option Value} (h0 : CsP K mg "MOST_STEPS" (.int 4)) (h1 : CsP K mg "MOST_ROW" (.int 60)) (h2 : CsP K mg "PLAIN" (.tup [(.str "sums"), (.str "gaps"), (.str "count"), (.str "twice")])) (h3 : CsP K mg "KEEPING" (.tup [(.str "sums"), (.str "gaps"), (.str "anew"), (.str "groups"), (.str "count")])) (h4 : CsP K mg "PARTING" (.tup [(.str "anew"), (.str "keep"), (.str "turn")])) : ∀ x t, pm.cs.lookup x = some t → CsP K mg x t := fun x t hx => by
  unfold pm at hx
  simp only [List.lookup_cons, List.lookup_nil] at hx
  split at hx
  · rename_i e; rw [eq_of_beq e]; cases hx; exact h0
  split at hx
  · rename_i e; rw [eq_of_beq e]; cases hx; exact h1
  split at hx
  · rename_i e; rw [eq_of_beq e]; cases hx; exact h2
  split at hx
  · rename_i e; rw [eq_of_beq e]; cases hx; exact h3
  split at hx
  · rename_i e; rw [eq_of_beq e]; cases hx; exact h4
  cases hx
theorem fns_small : ∀ (i : Nat) (x : Str), pm.fns[i]? = some x → i < big := fun i x hx => by
  have h := (List.getElem?_eq_some_iff.mp hx).1
  have e : pm.fns.length = 23 := by decide +kernel
  rw [e] at h
  unfold big
  omega
end D21
end

section
set_option Elab.async false
set_option linter.all false
set_option maxRecDepth 100000
set_option maxHeartbeats 4000000
namespace P21
open FC PySem D21
abbrev M (k : Nat) : FEnv := mean prog fuel k
theorem M_at {i k : Nat} {d : Fd} {ts : List T} {S : Sto} (hb : i < big) (hd : prog[i]? = some d) (ht : d.td = false := by rfl) : M (k + 1) i ts S = runFd (M k) fuel d ts S := mean_at hb hd ht
theorem mulOk_small {i j : Int} (hi : i.natAbs < 2 ^ 200) (hj : j.natAbs < 2 ^ 200) : mulOk i j = true := by
  have h1 : i.natAbs.log2 ≤ 200 := by
    by_cases h : i.natAbs = 0
    · rw [h]; decide
    · exact Nat.le_of_lt ((Nat.log2_lt h).mpr hi)
  have h2 : j.natAbs.log2 ≤ 200 := by
    by_cases h : j.natAbs = 0
    · rw [h]; decide
    · exact Nat.le_of_lt ((Nat.log2_lt h).mpr hj)
  unfold mulOk
  rw [Bool.or_eq_true]
  exact .inr (decide_eq_true (by omega))
theorem mulOk_right {i j : Int} (hj : j.natAbs < 2 ^ 64) : mulOk i j = true := by
  unfold mulOk
  rw [Bool.or_eq_true, Bool.or_eq_true]
  exact .inl (.inr (decide_eq_true hj))
theorem drawn {k : Nat} (c d : Int) (S : Sto) : ∃ x : Int, 0 ≤ x ∧ M (k + 1) i_law_drawn [.int c, .int d] S = .ok (.int x) S := by
  let x1 : Int := (c * 6364136223846793005 + (d + 1) * 1442695040888963407) % 340282366920938463463374607431768211507
  let x2 : Int := x1 * x1 % 340282366920938463463374607431768211297
  let x3 : Int := (x2 % 18446744073709551557 + 1) * (x2 / 18446744073709551557 + 1) * x2
  refine ⟨x3 % 340282366920938463463374607431768211507, Int.emod_nonneg _ (by decide), ?_⟩
  have b1 : 0 ≤ x1 ∧ x1 < 340282366920938463463374607431768211507 := ⟨Int.emod_nonneg _ (by decide), Int.emod_lt_of_pos _ (by decide)⟩
  have b2 : 0 ≤ x2 ∧ x2 < 340282366920938463463374607431768211297 := ⟨Int.emod_nonneg _ (by decide), Int.emod_lt_of_pos _ (by decide)⟩
  have b3 : 0 ≤ x2 % 18446744073709551557 ∧ x2 % 18446744073709551557 < 18446744073709551557 := ⟨Int.emod_nonneg _ (by decide), Int.emod_lt_of_pos _ (by decide)⟩
  have b4 : 0 ≤ x2 / 18446744073709551557 ∧ x2 / 18446744073709551557 < 2 ^ 65 := by omega
  have m1 : mulOk c 6364136223846793005 = true := mulOk_right (by decide)
  have m2 : mulOk (d + 1) 1442695040888963407 = true := mulOk_right (by decide)
  have m3 : mulOk x1 x1 = true := mulOk_small (by omega) (by omega)
  have m4 : mulOk (x2 % 18446744073709551557 + 1) (x2 / 18446744073709551557 + 1) = true := mulOk_small (by omega) (by omega)
  have m5 : mulOk ((x2 % 18446744073709551557 + 1) * (x2 / 18446744073709551557 + 1)) x2 = true := by
    have p : ((x2 % 18446744073709551557 + 1) * (x2 / 18446744073709551557 + 1)).natAbs < 2 ^ 200 := by
      rw [Int.natAbs_mul]
      have u1 : (x2 % 18446744073709551557 + 1).natAbs < 2 ^ 65 := by omega
      have u2 : (x2 / 18446744073709551557 + 1).natAbs < 2 ^ 66 := by omega
      calc _ < 2 ^ 65 * 2 ^ 66 := Nat.mul_lt_mul'' u1 u2
        _ < 2 ^ 200 := by decide
    exact mulOk_small p (by omega)
  rw [M_at (by decide) (d := d_law_drawn) rfl]
  have e1 : evE (M k) (.bin .mod false (.bin .add false (.bin .mul false (.var 0) (.cst (.int 6364136223846793005))) (.bin .mul false (.bin .add false (.var 1) (.cst (.int 1))) (.cst (.int 1442695040888963407)))) (.cst (.int 340282366920938463463374607431768211507))) [some (.int c), some (.int d), none] S = .ok (.int x1) S := by
    simp [evE, FC.R.bind, putN, binT, mulT, addT, FC.guard, m1, m2, x1]
  have e2 : evE (M k) (.bin .mod false (.bin .mul false (.var 2) (.var 2)) (.cst (.int 340282366920938463463374607431768211297))) [some (.int c), some (.int d), some (.int x1)] S = .ok (.int x2) S := by
    simp only [evE, FC.R.bind, putN, binT, mulT, FC.guard, List.getElem?_cons_succ, List.getElem?_cons_zero, m3, if_true]
    rfl
  have e3 : evE (M k) (.bin .mul false (.bin .mul false (.bin .add false (.bin .mod false (.var 2) (.cst (.int 18446744073709551557))) (.cst (.int 1))) (.bin .add false (.bin .fdiv false (.var 2) (.cst (.int 18446744073709551557))) (.cst (.int 1)))) (.var 2)) [some (.int c), some (.int d), some (.int x2)] S = .ok (.int x3) S := by
    have dv : divOk 18446744073709551557 = true := by decide +kernel
    simp [evE, FC.R.bind, putN, binT, mulT, addT, FC.guard, m4, m5, dv, x3]
  have e4 : evE (M k) (.bin .mod false (.var 2) (.cst (.int 340282366920938463463374607431768211507))) [some (.int c), some (.int d), some (.int x3)] S = .ok (.int (x3 % 340282366920938463463374607431768211507)) S := rfl
  show (match evCs (M k) fuel d_law_drawn.body [some (.int c), some (.int d), none] S with | .nx _ S' => R.ok T.non S' | .rt t S' => .ok t S' | .exc c S' => .exc c S' | .bad => .bad) = _
  simp only [d_law_drawn, evCs, evC, e1, R.out, asgT, O.then, List.set, e2, e3, e4]
/-- a roll -/
theorem asg_name {fe : FEnv} {i : Nat} {v : T} {e : FC.Env} {S : Sto} : asgT fe (.name i) v e S = .nx (e.set i (some v)) S := rfl
theorem roll {k : Nat} {S : Sto} {l : Nat} {a b m : Int} (h : lstAt S l = some [.int a, .int b]) (hm : 0 < m) (hm2 : m ≤ 100000000000000000000) :
    ∃ n a' b' : Int, 0 ≤ n ∧ n < m ∧ M (k + 2) i_law_roll [.loc l, .int m] S = .ok (.int n) (S.set l (.lst [.int a', .int b'])) := by
  have hS : l < S.length := by
    have := lstAt_some h
    exact (List.getElem?_eq_some_iff.mp this).1
  have dv : divOk m = true := by
    unfold divOk
    rw [Bool.and_eq_true]
    refine ⟨decide_eq_true hm, decide_eq_true ?_⟩
    have : m.natAbs ≠ 0 := by omega
    exact Nat.lt_trans ((Nat.log2_lt this).mpr (show m.natAbs < 2 ^ 100 by omega)) (by decide)
  have dv8 : divOk 8 = true := by decide +kernel
  rw [M_at (by decide) (d := d_law_roll) rfl]
  have pw : binT .pow S (.int 10) (.int 18) = some (.val (.int 1000000000000000000)) := rfl
  have at0 : L2.atI [T.int a, .int b] 0 = some (.int a) := rfl
  have at1 : L2.atI [T.int a, .int b] 1 = some (.int b) := rfl
  have c0 : ∀ x : Option T, evE (M (k + 1)) (.cmp .ge (.idx (.var 0) (.cst (.int 0))) (.bin .pow false (.cst (.int 10)) (.cst (.int 18)))) [some (.loc l), some (.int m), x] S = .ok (.bl (decide (1000000000000000000 ≤ a))) S := fun x => by
    simp [evE, FC.R.bind, FC.ofO, ixT, ixL, items, h, at0, pw, putN, cmpT, cmpI]
  by_cases ha : 1000000000000000000 ≤ a
  · refine ⟨a % m, a / m, b, Int.emod_nonneg _ (by omega), Int.emod_lt_of_pos _ hm, ?_⟩
    have e1 : ∀ x : Option T, evE (M (k + 1)) (.bin .mod false (.idx (.var 0) (.cst (.int 0))) (.var 1)) [some (.loc l), some (.int m), x] S = .ok (.int (a % m)) S := fun x => by
      simp [evE, FC.R.bind, FC.ofO, ixT, ixL, items, h, at0, putN, binT, FC.guard, hm]
    have e2 : ∀ x : Option T, evE (M (k + 1)) (.bin .fdiv false (.idx (.var 0) (.cst (.int 0))) (.var 1)) [some (.loc l), some (.int m), x] S = .ok (.int (a / m)) S := fun x => by
      simp [evE, FC.R.bind, FC.ofO, ixT, ixL, items, h, at0, putN, binT, FC.guard, dv]
    have e3 : ∀ x : Option T, ∀ v, asgT (M (k + 1)) (.sub (.var 0) (.cst (.int 0))) v [some (.loc l), some (.int m), x] S = .nx [some (.loc l), some (.int m), x] (S.set l (.lst [v, .int b])) := fun x v => by
      simp [asgT, evE, R.out, setIx, setL, h, L2.ixN]
    show (match evCs (M (k + 1)) fuel d_law_roll.body [some (.loc l), some (.int m), none] S with | .nx _ S' => R.ok T.non S' | .rt t S' => .ok t S' | .exc c S' => .exc c S' | .bad => .bad) = _
    simp only [d_law_roll, evCs, evC, c0, ha, decide_true, R.out, O.then, e1, e2, e3, asg_name, List.set]
    simp [evE]
  · have st : lstAt (S.set l (.lst [.int a, .int (b + 1)])) l = some [.int a, .int (b + 1)] := by
      unfold lstAt
      rw [List.getElem?_set_self hS]
      rfl
    obtain ⟨x, hx, hd⟩ := drawn (k := k) a (b + 1) []
    refine ⟨x / 8 % m, a, b + 1, Int.emod_nonneg _ (by omega), Int.emod_lt_of_pos _ hm, ?_⟩
    have e3 : ∀ v, asgT (M (k + 1)) (.sub (.var 0) (.cst (.int 1))) v [some (.loc l), some (.int m), none] S = .nx [some (.loc l), some (.int m), none] (S.set l (.lst [.int a, v])) := fun v => by
      simp [asgT, evE, R.out, setIx, setL, h, L2.ixN]
    have e1 : evE (M (k + 1)) (.bin .add false (.idx (.var 0) (.cst (.int 1))) (.cst (.int 1))) [some (.loc l), some (.int m), none] S = .ok (.int (b + 1)) S := by
      simp [evE, FC.R.bind, FC.ofO, ixT, ixL, items, h, at1, putN, binT, addT]
    have e2 : evE (M (k + 1)) (.bin .mod false (.bin .fdiv false (.call true 19 [(.idx (.var 0) (.cst (.int 0))), (.idx (.var 0) (.cst (.int 1)))]) (.cst (.int 8))) (.var 1)) [some (.loc l), some (.int m), none] (S.set l (.lst [.int a, .int (b + 1)])) = .ok (.int (x / 8 % m)) (S.set l (.lst [.int a, .int (b + 1)])) := by
      have at0' : L2.atI [T.int a, .int (b + 1)] 0 = some (.int a) := rfl
      have at1' : L2.atI [T.int a, .int (b + 1)] 1 = some (.int (b + 1)) := rfl
      have hd' : M (k + 1) 19 [.int a, .int (b + 1)] [] = .ok (.int x) [] := hd
      simp [evE, evEs, FC.R.bind, FC.ofO, ixT, ixL, items, st, at0', at1', putN, binT, FC.guard, hm, dv8, callP, T.freeL, T.free, hd', thaw]
    show (match evCs (M (k + 1)) fuel d_law_roll.body [some (.loc l), some (.int m), none] S with | .nx _ S' => R.ok T.non S' | .rt t S' => .ok t S' | .exc c S' => .exc c S' | .bad => .bad) = _
    simp only [d_law_roll, evCs, evC, c0, ha, decide_false, R.out, O.then, e1, e2, e3]
end P21
end

section
set_option Elab.async false
set_option linter.all false
set_option maxRecDepth 100000
set_option maxHeartbeats 4000000
namespace P21
open FC PySem D21
/-- the dice at l -/
def Dc (S : Sto) (l : Nat) : Prop := ∃ a b : Int, lstAt S l = some [.int a, .int b]
def Up (S : Sto) (l : Nat) (S' : Sto) : Prop := ∃ a b : Int, S' = S.set l (.lst [.int a, .int b])
theorem Up.dc {S S' : Sto} {l : Nat} (u : Up S l S') (d : Dc S l) : Dc S' l := by
  obtain ⟨a, b, rfl⟩ := u
  obtain ⟨x, y, h⟩ := d
  have hl := (List.getElem?_eq_some_iff.mp (lstAt_some h)).1
  exact ⟨a, b, by unfold lstAt; rw [List.getElem?_set_self hl]; rfl⟩
theorem Up.trans {S S1 S2 : Sto} {l : Nat} (u : Up S l S1) (v : Up S1 l S2) : Up S l S2 := by
  obtain ⟨a, b, rfl⟩ := u
  obtain ⟨c, d, rfl⟩ := v
  exact ⟨c, d, List.set_set ..⟩
theorem Dc.up {S : Sto} {l : Nat} (d : Dc S l) : Up S l S := by
  obtain ⟨x, y, h⟩ := d
  have e := lstAt_some h
  obtain ⟨hl, e⟩ := List.getElem?_eq_some_iff.mp e
  exact ⟨x, y, by rw [← e, List.set_getElem_self]⟩
theorem rolls (k : Nat) {S : Sto} {l : Nat} (d : Dc S l) (m : Int) (hm : 0 < m) (hm2 : m ≤ 100000000000000000000) : ∃ (n : Int) (S' : Sto), 0 ≤ n ∧ n < m ∧ M (k + 2) i_law_roll [.loc l, .int m] S = .ok (.int n) S' ∧ Up S l S' ∧ Dc S' l := by
  obtain ⟨a, b, h⟩ := d
  obtain ⟨n, a', b', h1, h2, h3⟩ := roll (k := k) h hm hm2
  exact ⟨n, _, h1, h2, h3, ⟨a', b', rfl⟩, Up.dc ⟨a', b', rfl⟩ ⟨a, b, h⟩⟩
theorem run_rt {fe : FEnv} {d : Fd} {as : List T} {S S' : Sto} {t : T} (h0 : as.length = d.np) (h : evCs fe fuel d.body (FC.start d.np d.nl as) S = .rt t S') : runFd fe fuel d as S = .ok t S' := by
  unfold runFd
  rw [if_pos (by simpa using h0), h]
theorem whole {k : Nat} {S : Sto} {v lo hi : Int} (h1 : lo ≤ v) (h2 : v ≤ hi) : M (k + 1) 0 [.int v, .int lo, .int hi] S = .ok (.bl true) S := by
  rw [M_at (by decide) (d := d_is_whole) rfl]
  refine run_rt rfl ?_
  simp [d_is_whole, FC.start, evCs, evC, evE, evEs, FC.R.bind, R.out, O.then, FC.ofO, isTy, cmpT, cmpI, h1, h2]
theorem is_rest {k : Nat} {S : Sto} {b r : Int} (h : b = 2 ∨ b = 3) (h1 : 0 ≤ r) (h2 : r < b) : M (k + 2) 1 [.tup [.int b, .int r]] S = .ok (.bl true) S := by
  rw [M_at (by decide) (d := d_is_rest) rfl]
  refine run_rt rfl ?_
  have w1 : M (k + 1) 0 [.int b, .int 2, .int 3] [] = .ok (.bl true) [] := whole (by omega) (by omega)
  have w2 : M (k + 1) 0 [.int r, .int 0, .int (b - 1)] [] = .ok (.bl true) [] := whole (by omega) (by omega)
  have a0 : L2.atI [T.int b, .int r] 0 = some (.int b) := rfl
  have a1 : L2.atI [T.int b, .int r] 1 = some (.int r) := rfl
  simp [d_is_rest, FC.start, evCs, evC, evE, evEs, FC.R.bind, R.out, O.then, FC.ofO, ixT, ixL, items, a0, a1, putN, binT, callP, T.freeL, T.free, w1, w2, thaw]
theorem is_line {k : Nat} {S : Sto} {f m : Int} (h1 : -3 ≤ f) (h2 : f ≤ 3) (h3 : -9 ≤ m) (h4 : m ≤ 9) : M (k + 2) 2 [.tup [.int f, .int m]] S = .ok (.bl true) S := by
  rw [M_at (by decide) (d := d_is_line) rfl]
  refine run_rt rfl ?_
  have w1 : M (k + 1) 0 [.int f, .int (-3), .int 3] [] = .ok (.bl true) [] := whole (by omega) (by omega)
  have w2 : M (k + 1) 0 [.int m, .int (-9), .int 9] [] = .ok (.bl true) [] := whole (by omega) (by omega)
  have a0 : L2.atI [T.int f, .int m] 0 = some (.int f) := rfl
  have a1 : L2.atI [T.int f, .int m] 1 = some (.int m) := rfl
  simp [d_is_line, FC.start, evCs, evC, evE, evEs, FC.R.bind, R.out, O.then, FC.ofO, ixT, ixL, items, a0, a1, putN, callP, T.freeL, T.free, w1, w2, thaw]
/-- what is drawn for a step -/
inductive Stp : T → Prop
  | plain {x : Str} : (x = "sums" ∨ x = "gaps" ∨ x = "count" ∨ x = "twice") → Stp (.tup [.str x])
  | groups {n : Int} : 2 ≤ n → n ≤ 3 → Stp (.tup [.str "groups", .int n])
  | line {f m : Int} : -3 ≤ f → f ≤ 3 → -9 ≤ m → m ≤ 9 → Stp (.tup [.str "line", .int f, .int m])
  | kar {x : Str} {b r : Int} : (x = "anew" ∨ x = "keep" ∨ x = "every") → (b = 2 ∨ b = 3) → 0 ≤ r → r < b → Stp (.tup [.str x, .int b, .int r])
  | turn {b r f m : Int} : (b = 2 ∨ b = 3) → 0 ≤ r → r < b → -3 ≤ f → f ≤ 3 → -9 ≤ m → m ≤ 9 → Stp (.tup [.str "turn", .int b, .int r, .int f, .int m])
theorem Stp.free {t : T} (h : Stp t) : t.free = true := by cases h <;> rfl
abbrev plainT4 : T := .tup [.str "sums", .str "gaps", .str "count", .str "twice"]
theorem t_isi {r : List T} {x : Str} : isTy .tup (.tup (.str x :: r)) = some true := rfl
theorem t_at0 {r : List T} {x : Str} : ixT [] (.tup (.str x :: r)) (.int 0) = some (.str x) := by
  show L2.atI (T.str x :: r) 0 = _
  unfold L2.atI L2.ixN
  rw [if_pos (by decide), if_pos (by simp only [List.length_cons]; omega)]
  rfl
theorem t_cut {r : List T} {x : Str} : slcT [] (.tup (.str x :: r)) (some 1) none = some (.val (.tup r)) := by
  show some (NT.val (.tup (cutT (T.str x :: r) (some 1) none))) = _
  unfold cutT
  have e1 : HT.sIx (T.str x :: r).length 0 (some 1) = 1 := by
    unfold HT.sIx
    simp
  have e2 : HT.sIx (T.str x :: r).length (T.str x :: r).length none = r.length + 1 := rfl
  rw [e1, e2]
  simp
theorem is_step_head {fe : FEnv} {x : Str} {r : List T} (hq : cmpT .eq [] (.tup (.str x :: r)) (.tup []) = some false) {o : O}
    (h : evCs fe fuel (d_is_step.body.drop 2) [some (.tup (.str x :: r)), some (.str x), some (.tup r)] [] = o) : evCs fe fuel d_is_step.body [some (.tup (.str x :: r)), none, none] [] = o := by
  rw [← h]
  have l2 : (2 : Nat) ≤ lim := by decide
  simp [d_is_step, evCs, evC, evE, evEs, FC.R.bind, R.out, O.then, FC.ofO, t_isi, hq, t_at0, isTy, asgT, asgTs, items, putN, t_cut, asIdx, l2]
theorem q_ne {x : Str} {r : List T} (hs : SeqAt.shaped (PyData.tuple (.str x :: T.dataL r)) = true) : cmpT .eq [] (.tup (.str x :: r)) (.tup []) = some false := by
  show eqD (PyData.tuple (.str x :: T.dataL r)) (PyData.tuple []) = some false
  unfold eqD
  have h2 : SeqAt.shaped (PyData.tuple []) = true := by decide +kernel
  rw [hs, h2]
  rfl
structure Kd (x : Str) (a b c d e : Bool) : Prop where
  a : memT [] (.str x) plainT4 = some a
  b : cmpT .eq [] (.str x) (.str "groups") = some b
  c : cmpT .eq [] (.str x) (.str "line") = some c
  d : memT [] (.str x) (.tup [.str "anew", .str "keep", .str "every"]) = some d
  e : cmpT .eq [] (.str x) (.str "turn") = some e
  s : PyData.strOk x = true
theorem kd_plain {x : Str} (h : x = "sums" ∨ x = "gaps" ∨ x = "count" ∨ x = "twice") : Kd x true false false false false := by
  rcases h with rfl | rfl | rfl | rfl <;> exact ⟨by decide +kernel, by decide +kernel, by decide +kernel, by decide +kernel, by decide +kernel, by decide +kernel⟩
theorem kd_kar {x : Str} (h : x = "anew" ∨ x = "keep" ∨ x = "every") : Kd x false false false true false := by
  rcases h with rfl | rfl | rfl <;> exact ⟨by decide +kernel, by decide +kernel, by decide +kernel, by decide +kernel, by decide +kernel, by decide +kernel⟩
theorem kd_groups : Kd "groups" false true false false false := ⟨by decide +kernel, by decide +kernel, by decide +kernel, by decide +kernel, by decide +kernel, by decide +kernel⟩
theorem kd_line : Kd "line" false false true false false := ⟨by decide +kernel, by decide +kernel, by decide +kernel, by decide +kernel, by decide +kernel, by decide +kernel⟩
theorem kd_turn : Kd "turn" false false false false true := ⟨by decide +kernel, by decide +kernel, by decide +kernel, by decide +kernel, by decide +kernel, by decide +kernel⟩
theorem eq_nil : cmpT .eq [] (.tup []) (.tup []) = some true := by decide +kernel
theorem eq_int (n : Int) (hn : n = 1 ∨ n = 2 ∨ n = 4) : cmpT .eq [] (.int n) (.int n) = some true := by
  rcases hn with rfl | rfl | rfl <;> decide +kernel
theorem len_tup {r : List T} {S : Sto} : bfnT .len S [.tup r] = some (.val (.int (r.length : Nat))) := rfl
def isI : T → Bool | .int _ => true | _ => false
theorem shI : ∀ r : List T, r.all isI = true → PyData.canLayAll0 (T.dataL r) = true ∧ PyData.depthAll (T.dataL r) = 0
  | [], _ => by simp [T.dataL, PyData.canLayAll0, PyData.depthAll]
  | a :: r, h => by
    have h := Bool.and_eq_true_iff.mp (show (isI a && r.all isI) = true from h)
    obtain ⟨h1, h2⟩ := shI r h.2
    obtain ⟨h3, _⟩ := h
    cases a <;> first | (cases h3; done) | skip
    simp [T.dataL, T.data, PyData.canLayAll0, PyData.canLay0, PyData.depthAll, PyData.depth, h1, h2]
theorem sh {x : Str} {r : List T} (hx : PyData.strOk x = true) (h : r.all isI = true) : SeqAt.shaped (PyData.tuple (.str x :: T.dataL r)) = true := by
  obtain ⟨h1, h2⟩ := shI r h
  simp [SeqAt.shaped, PyData.canLay0, PyData.canLayAll0, PyData.depth, PyData.depthAll, h1, h2, hx]
theorem is_step {k : Nat} {S : Sto} {t : T} (h : Stp t) : M (k + 3) 3 [t] [] = .ok (.bl true) [] := by
  rw [M_at (by decide) (d := d_is_step) rfl]
  have e1 := eq_int 1 (.inl rfl)
  have e2 := eq_int 2 (.inr (.inl rfl))
  have e4 := eq_int 4 (.inr (.inr rfl))
  have nil := eq_nil
  cases h with
  | plain h =>
    obtain ⟨a, b, c, d, e, sx⟩ := kd_plain h
    refine run_rt rfl (is_step_head (q_ne (sh sx rfl)) ?_)
    simp only [cmpT] at nil
    simp [d_is_step, evCs, evC, evE, evEs, FC.R.bind, R.out, O.then, FC.ofO, cmpT, a, nil]
  | groups h1 h2 =>
    rename_i n
    obtain ⟨a, b, c, d, e, sx⟩ := kd_groups
    have w : M (k + 2) 0 [.int n, .int 2, .int 3] [] = .ok (.bl true) [] := whole h1 h2
    have a0 : L2.atI [T.int n] 0 = some (.int n) := rfl
    refine run_rt rfl (is_step_head (q_ne (sh sx rfl)) ?_)
    simp only [cmpT] at b e1
    simp [d_is_step, evCs, evC, evE, evEs, FC.R.bind, R.out, O.then, FC.ofO, cmpT, a, b, len_tup, putN, e1, ixT, ixL, items, a0, callP, T.freeL, T.free, w, thaw]
  | line h1 h2 h3 h4 =>
    rename_i f m
    obtain ⟨a, b, c, d, e, sx⟩ := kd_line
    have w : M (k + 2) 2 [.tup [.int f, .int m]] [] = .ok (.bl true) [] := is_line h1 h2 h3 h4
    refine run_rt rfl (is_step_head (q_ne (sh sx rfl)) ?_)
    simp only [cmpT] at b c e2
    simp [d_is_step, evCs, evC, evE, evEs, FC.R.bind, R.out, O.then, FC.ofO, cmpT, a, b, c, len_tup, putN, e2, callP, T.freeL, T.free, w, thaw]
  | kar h0 h1 h2 h3 =>
    rename_i x b' r
    obtain ⟨a, b, c, d, e, sx⟩ := kd_kar h0
    have w : M (k + 2) 1 [.tup [.int b', .int r]] [] = .ok (.bl true) [] := is_rest h1 h2 h3
    refine run_rt rfl (is_step_head (q_ne (sh sx rfl)) ?_)
    have l3 : (3 : Nat) ≤ lim := by decide
    simp only [cmpT] at b c e2
    simp [d_is_step, evCs, evC, evE, evEs, FC.R.bind, R.out, O.then, FC.ofO, cmpT, a, b, c, d, l3, len_tup, putN, e2, callP, T.freeL, T.free, w, thaw]
  | turn h0 h1 h2 h3 h4 h5 h6 =>
    rename_i b' r f m
    obtain ⟨a, b, c, d, e, sx⟩ := kd_turn
    have w1 : M (k + 2) 1 [.tup [.int b', .int r]] [] = .ok (.bl true) [] := is_rest h0 h1 h2
    have w2 : M (k + 2) 2 [.tup [.int f, .int m]] [] = .ok (.bl true) [] := is_line h3 h4 h5 h6
    have s1 : slcT [] (.tup [.int b', .int r, .int f, .int m]) none (some 2) = some (.val (.tup [.int b', .int r])) := rfl
    have s2 : slcT [] (.tup [.int b', .int r, .int f, .int m]) (some 2) none = some (.val (.tup [.int f, .int m])) := rfl
    refine run_rt rfl (is_step_head (q_ne (sh sx rfl)) ?_)
    have l3 : (3 : Nat) ≤ lim := by decide
    simp only [cmpT] at b c e4 e
    simp [d_is_step, evCs, evC, evE, evEs, FC.R.bind, R.out, O.then, FC.ofO, cmpT, a, b, c, d, e, l3, len_tup, putN, e4, callP, T.freeL, T.free, w1, w2, s1, s2, asIdx, thaw]
end P21
end

section
set_option Elab.async false
set_option linter.all false
set_option maxRecDepth 100000
set_option maxHeartbeats 4000000
namespace P21
open FC PySem D21
theorem compL_ok {cond elt : FC.Env → Sto → R T} {tg : P} {e : FC.Env} {S : Sto} (p : T → Bool) (g : T → T) : ∀ (ts acc : List T), (∀ t ∈ ts, ∃ e', bindT tg t e = some e' ∧ cond e' S = .ok (.bl (p t)) S ∧ (p t = true → elt e' S = .ok (g t) S)) → acc.length + ts.length ≤ lim →
    compL cond elt tg e ts acc S = .ok (acc ++ (ts.filter p).map g) S
  | [], acc, _, _ => by simp [compL]
  | t :: ts, acc, h, hl => by
    obtain ⟨e', h1, h2, h3⟩ := h t List.mem_cons_self
    have hl' : acc.length + (ts.length + 1) ≤ lim := hl
    have ih := fun acc hl => compL_ok p g ts acc (fun t ht => h t (List.mem_cons_of_mem _ ht)) hl
    cases hp : p t with
    | false =>
      rw [hp] at h2
      have : compL cond elt tg e (t :: ts) acc S = compL cond elt tg e ts acc S := by
        simp [compL, h1, h2, FC.R.bind]
      rw [this, ih acc (by omega)]
      simp [hp]
    | true =>
      rw [hp] at h2
      have hlt : acc.length < lim := by omega
      have : compL cond elt tg e (t :: ts) acc S = compL cond elt tg e ts (acc ++ [g t]) S := by
        simp [compL, h1, h2, h3 hp, FC.R.bind, hlt]
      rw [this, ih (acc ++ [g t]) (by simp; omega)]
      simp [hp]
def hd : T → T | .tup (a :: _) => a | _ => .non
theorem Stp.hd_str {t : T} (h : Stp t) : ∃ x r, t = .tup (.str x :: r) := by cases h <;> exact ⟨_, _, rfl⟩
theorem count {k : Nat} {ts ks : List T} (hs : ∀ t ∈ ts, ∃ x r, t = .tup (.str x :: r)) (hk : ks.all flat = true) (hl : ts.length ≤ lim) : M (k + 1) 4 [.tup ts, .tup ks] [] = .ok (.int ((ts.filter fun t => inT (hd t) ks).length : Nat)) [] := by
  rw [M_at (by decide) (d := d_count_kinds) rfl]
  refine run_rt rfl ?_
  have c := compL_ok (cond := fun e S => evE (M k) (.cmp .isin (.idx (.var 2) (.cst (.int 0))) (.var 1)) e S) (elt := fun e S => evE (M k) (.var 2) e S) (tg := .nm 2) (e := [some (.tup ts), some (.tup ks), none]) (S := []) (fun t => inT (hd t) ks) id ts [] (fun t ht => ?_) (by simpa using hl)
  · have e0 : evE (M k) (.comp false [2] (.var 2) (.nm 2) .of (.var 0) (.cst .non) true (.cmp .isin (.idx (.var 2) (.cst (.int 0))) (.var 1))) [some (.tup ts), some (.tup ks), none] [] = .ok (.lst (ts.filter fun t => inT (hd t) ks)) [] := by
      have c' : compL (fun e S => if true then evE (M k) (.cmp .isin (.idx (.var 2) (.cst (.int 0))) (.var 1)) e S else .ok (.bl true) S) (fun e S => evE (M k) (.var 2) e S) (.nm 2) (wipeE [some (.tup ts), some (.tup ks), none] [2]) ts [] [] = .ok ([] ++ (ts.filter fun t => inT (hd t) ks).map id) [] := c
      show ((evE (M k) (.var 0) _ []).bind fun x S1 => (evE (M k) (.cst .non) _ S1).bind fun y S2 => match itT .of S2 x y with | none => .bad | some xs => (compL (fun e S => if true then evE (M k) (.cmp .isin (.idx (.var 2) (.cst (.int 0))) (.var 1)) e S else .ok (.bl true) S) (fun e S => evE (M k) (.var 2) e S) (.nm 2) (wipeE [some (.tup ts), some (.tup ks), none] [2]) xs [] S2).bind fun ys S3 => put false ys S3) = _
      have v0 : evE (M k) (.var 0) [some (.tup ts), some (.tup ks), none] [] = .ok (.tup ts) [] := rfl
      rw [v0]
      show (compL (fun e S => if true then evE (M k) (.cmp .isin (.idx (.var 2) (.cst (.int 0))) (.var 1)) e S else .ok (.bl true) S) (fun e S => evE (M k) (.var 2) e S) (.nm 2) (wipeE [some (.tup ts), some (.tup ks), none] [2]) ts [] []).bind (fun ys S3 => put false ys S3) = _
      rw [c', List.nil_append, List.map_id]
      rfl
    show evCs (M k) fuel [.ret (.bfn .len false [.comp false [2] (.var 2) (.nm 2) .of (.var 0) (.cst .non) true (.cmp .isin (.idx (.var 2) (.cst (.int 0))) (.var 1))])] [some (.tup ts), some (.tup ks), none] [] = _
    have e1 : evEs (M k) [.comp false [2] (.var 2) (.nm 2) .of (.var 0) (.cst .non) true (.cmp .isin (.idx (.var 2) (.cst (.int 0))) (.var 1))] [some (.tup ts), some (.tup ks), none] [] = .ok [.lst (ts.filter fun t => inT (hd t) ks)] [] := by
      show ((evE (M k) _ _ _).bind fun x S1 => (evEs (M k) [] _ S1).bind fun xs S2 => .ok (x :: xs) S2) = _
      rw [e0]
      rfl
    show ((((evEs (M k) _ _ _).bind fun xs S1 => putN false S1 (bfnT .len S1 xs)).out fun t S1 => O.rt t S1).then fun e S => evCs (M k) fuel [] e S) = _
    rw [e1]
    rfl
  · obtain ⟨x, r, rfl⟩ := hs t ht
    refine ⟨_, rfl, ?_, fun _ => rfl⟩
    have e2 : memT [] (.str x) (.tup ks) = some (inT (.str x) ks) := by
      show (if flat (.str x) && ks.all flat then some (inT (.str x) ks) else none) = _
      rw [hk]
      rfl
    simp [evE, FC.R.bind, FC.ofO, t_at0, cmpT, e2, hd]
section
variable {fe : FEnv} {a b : E} {e : FC.Env} {S S1 : Sto} {x : R T}
theorem ev_or1 (h : evE fe a e S = .ok (.bl true) S1) : evE fe (.or a b) e S = .ok (.bl true) S1 := by simp [evE, FC.R.bind, h]
theorem ev_or0 (h : evE fe a e S = .ok (.bl false) S1) (h2 : evE fe b e S1 = x) : evE fe (.or a b) e S = x := by simp [evE, FC.R.bind, h, h2]
theorem ev_not {v : Bool} (h : evE fe a e S = .ok (.bl v) S1) : evE fe (.not a) e S = .ok (.bl (!v)) S1 := by simp [evE, FC.R.bind, h]
theorem c_ite {fuel : Nat} {v : Bool} {A B : List C} (h : evE fe a e S = .ok (.bl v) S1) : evC fe fuel (.ite a A B) e S = if v then evCs fe fuel A e S1 else evCs fe fuel B e S1 := by
  cases v <;> simp [evC, R.out, h]
theorem cs_cons {fuel : Nat} {c : C} {cs : List C} {o : O} (h : evC fe fuel c e S = o) : evCs fe fuel (c :: cs) e S = o.then fun e S => evCs fe fuel cs e S := by simp [evCs, h]
end
/-- a chain of drawn steps is looked at -/
def isCh (ts : List T) : Bool := decide (ts.length ≤ 4) && (decide ((ts.filter fun t => inT (hd t) [.str "sums", .str "gaps", .str "anew", .str "groups", .str "count"]).length ≤ 2) && (decide ((ts.filter fun t => inT (hd t) [.str "anew", .str "keep", .str "turn"]).length ≤ 2) && decide ((ts.filter fun t => inT (hd t) [.str "twice"]).length ≤ 1)))
theorem bls_true : ∀ ts : List T, blsOf (ts.map fun _ => T.bl true) = some (ts.map fun _ => true)
  | [] => rfl
  | _ :: ts => by
    show (blsOf (ts.map fun _ => T.bl true)).map (true :: ·) = _
    rw [bls_true ts]
    rfl
theorem is_chain {k : Nat} {ts : List T} (hs : ∀ t ∈ ts, Stp t) (hl : ts.length ≤ 1000) : M (k + 4) 5 [.tup ts] [] = .ok (.bl (isCh ts)) [] := by
  rw [M_at (by decide) (d := d_is_chain) rfl]
  refine run_rt rfl ?_
  have hl' : ts.length ≤ lim := Nat.le_trans hl (by decide)
  have fr : T.freeL ts = true := by
    clear hl hl'
    induction ts with
    | nil => rfl
    | cons a r ih => exact Bool.and_eq_true_iff.mpr ⟨(hs a List.mem_cons_self).free, ih fun t ht => hs t (List.mem_cons_of_mem _ ht)⟩
  have c1 : M (k + 3) 4 [.tup ts, .tup [.str "sums", .str "gaps", .str "anew", .str "groups", .str "count"]] [] = _ := count (k := k + 2) (fun t ht => (hs t ht).hd_str) rfl hl'
  have c2 : M (k + 3) 4 [.tup ts, .tup [.str "anew", .str "keep", .str "turn"]] [] = _ := count (k := k + 2) (fun t ht => (hs t ht).hd_str) rfl hl'
  have c3 : M (k + 3) 4 [.tup ts, .tup [.str "twice"]] [] = _ := count (k := k + 2) (fun t ht => (hs t ht).hd_str) rfl hl'
  have ca : evE (M (k + 3)) (.bfn .all false [(.comp false [1] (.call true 3 [(.var 1)]) (.nm 1) .of (.var 0) (.cst .non) false (.cst .non))]) [some (.tup ts), none] [] = .ok (.bl true) [] := by
    have c := compL_ok (cond := fun e S => (if false then evE (M (k + 3)) (.cst .non) e S else .ok (.bl true) S : R T)) (elt := fun e S => evE (M (k + 3)) (.call true 3 [(.var 1)]) e S) (tg := .nm 1) (e := [some (.tup ts), none]) (S := []) (fun t => true) (fun _ => .bl true) ts [] (fun t ht => ⟨_, rfl, rfl, fun _ => ?_⟩) (by simpa using hl')
    · have e0 : evE (M (k + 3)) (.comp false [1] (.call true 3 [(.var 1)]) (.nm 1) .of (.var 0) (.cst .non) false (.cst .non)) [some (.tup ts), none] [] = .ok (.lst (ts.map fun _ => .bl true)) [] := by
        show ((compL (fun e S => if false then evE (M (k + 3)) (.cst .non) e S else .ok (.bl true) S) (fun e S => evE (M (k + 3)) (.call true 3 [(.var 1)]) e S) (.nm 1) [some (.tup ts), none] ts [] []).bind fun ys S3 => put false ys S3) = _
        have fl : ts.filter (fun _ => true) = ts := List.filter_eq_self.mpr (by simp)
        rw [c, fl]
        simp [FC.R.bind, put]
      have e1 : evEs (M (k + 3)) [(.comp false [1] (.call true 3 [(.var 1)]) (.nm 1) .of (.var 0) (.cst .non) false (.cst .non))] [some (.tup ts), none] [] = .ok [.lst (ts.map fun _ => .bl true)] [] := by
        show ((evE (M (k + 3)) _ _ _).bind fun x S1 => (evEs (M (k + 3)) [] _ S1).bind fun xs S2 => .ok (x :: xs) S2) = _
        rw [e0]
        rfl
      show ((evEs (M (k + 3)) _ _ _).bind fun xs S1 => putN false S1 (bfnT .all S1 xs)) = _
      rw [e1]
      show putN false [] (((some (ts.map fun _ => T.bl true)).bind blsOf).map fun bs => NT.val (.bl (bs.all id))) = _
      rw [Option.bind_some, bls_true]
      simp [putN]
    · have w := is_step (k := k) (S := []) (hs t ht)
      have w' : M (k + 3) 3 [t] [] = .ok (.bl true) [] := w
      have f := (hs t ht).free
      simp [evE, evEs, FC.R.bind, callP, T.freeL, f, w', thaw, FC.ofO]
  have l1 : (1 : Nat) ≤ lim := by decide
  have tn : evE (M (k + 3)) (.not (.isi .tup (.var 0))) [some (.tup ts), none] [] = .ok (.bl false) [] := rfl
  have tl : evE (M (k + 3)) (.cmp .gt (.bfn .len false [(.var 0)]) (.cst (.int 4))) [some (.tup ts), none] [] = .ok (.bl (decide ((4 : Int) < (ts.length : Nat)))) [] := rfl
  have g1 : evE (M (k + 3)) (.cmp .gt (.call true 4 [(.var 0), (.cst (.tup [(.str "sums"), (.str "gaps"), (.str "anew"), (.str "groups"), (.str "count")]))]) (.cst (.int 2))) [some (.tup ts), none] [] = .ok (.bl (decide ((2 : Int) < ((ts.filter fun t => inT (hd t) [.str "sums", .str "gaps", .str "anew", .str "groups", .str "count"]).length : Nat)))) [] := by
    simp [evE, evEs, FC.R.bind, callP, T.freeL, T.free, fr, c1, thaw, FC.ofO, cmpT, cmpI]
  have g2 : evE (M (k + 3)) (.cmp .gt (.call true 4 [(.var 0), (.cst (.tup [(.str "anew"), (.str "keep"), (.str "turn")]))]) (.cst (.int 2))) [some (.tup ts), none] [] = .ok (.bl (decide ((2 : Int) < ((ts.filter fun t => inT (hd t) [.str "anew", .str "keep", .str "turn"]).length : Nat)))) [] := by
    simp [evE, evEs, FC.R.bind, callP, T.freeL, T.free, fr, c2, thaw, FC.ofO, cmpT, cmpI]
  have g3 : evE (M (k + 3)) (.cmp .le (.call true 4 [(.var 0), (.tup [(.cst (.str "twice"))])]) (.cst (.int 1))) [some (.tup ts), none] [] = .ok (.bl (decide (((ts.filter fun t => inT (hd t) [.str "twice"]).length : Nat) ≤ (1 : Int)))) [] := by
    simp [evE, evEs, FC.R.bind, callP, T.freeL, T.free, fr, c3, l1, thaw, FC.ofO, cmpT, cmpI]
  have t1 : evE (M (k + 3)) (.or (.not (.isi .tup (.var 0))) (.or (.cmp .gt (.bfn .len false [(.var 0)]) (.cst (.int 4))) (.not (.bfn .all false [(.comp false [1] (.call true 3 [(.var 1)]) (.nm 1) .of (.var 0) (.cst .non) false (.cst .non))])))) [some (.tup ts), none] [] = .ok (.bl (decide ((4 : Int) < (ts.length : Nat)))) [] := by
    refine ev_or0 tn ?_
    by_cases h : (4 : Int) < (ts.length : Nat)
    · rw [decide_eq_true h] at tl ⊢
      exact ev_or1 tl
    · rw [decide_eq_false h] at tl ⊢
      exact ev_or0 tl (ev_not ca)
  have t2 : evE (M (k + 3)) (.or (.cmp .gt (.call true 4 [(.var 0), (.cst (.tup [(.str "sums"), (.str "gaps"), (.str "anew"), (.str "groups"), (.str "count")]))]) (.cst (.int 2))) (.cmp .gt (.call true 4 [(.var 0), (.cst (.tup [(.str "anew"), (.str "keep"), (.str "turn")]))]) (.cst (.int 2)))) [some (.tup ts), none] [] =
      .ok (.bl (decide ((2 : Int) < ((ts.filter fun t => inT (hd t) [.str "sums", .str "gaps", .str "anew", .str "groups", .str "count"]).length : Nat)) || decide ((2 : Int) < ((ts.filter fun t => inT (hd t) [.str "anew", .str "keep", .str "turn"]).length : Nat)))) [] := by
    by_cases h : (2 : Int) < ((ts.filter fun t => inT (hd t) [.str "sums", .str "gaps", .str "anew", .str "groups", .str "count"]).length : Nat)
    · rw [decide_eq_true h] at g1 ⊢
      exact ev_or1 g1
    · rw [decide_eq_false h] at g1 ⊢
      rw [Bool.false_or]
      exact ev_or0 g1 g2
  show evCs (M (k + 3)) fuel d_is_chain.body [some (.tup ts), none] [] = _
  unfold isCh
  generalize (ts.filter fun t => inT (hd t) [.str "sums", .str "gaps", .str "anew", .str "groups", .str "count"]).length = n1 at *
  generalize (ts.filter fun t => inT (hd t) [.str "anew", .str "keep", .str "turn"]).length = n2 at *
  generalize (ts.filter fun t => inT (hd t) [.str "twice"]).length = n3 at *
  unfold d_is_chain
  rw [cs_cons (c_ite t1)]
  by_cases h4 : ts.length ≤ 4
  · rw [decide_eq_false (show ¬ (4 : Int) < (ts.length : Nat) from by omega), if_neg Bool.false_ne_true, decide_eq_true h4]
    show evCs (M (k + 3)) fuel [_, _] _ _ = _
    rw [cs_cons (c_ite t2)]
    by_cases h5 : n1 ≤ 2 ∧ n2 ≤ 2
    · rw [decide_eq_false (show ¬ (2 : Int) < (n1 : Nat) from by omega), decide_eq_false (show ¬ (2 : Int) < (n2 : Nat) from by omega), decide_eq_true h5.1, decide_eq_true h5.2]
      show evCs (M (k + 3)) fuel [.ret _] _ _ = _
      have e3 : decide (((n3 : Nat) : Int) ≤ 1) = decide (n3 ≤ 1) := by rw [decide_eq_decide]; omega
      simp only [evCs, evC, g3, R.out, O.then, Bool.true_and, e3]
    · have e : (decide ((2 : Int) < (n1 : Nat)) || decide ((2 : Int) < (n2 : Nat))) = true := by
        simp only [Bool.or_eq_true, decide_eq_true_eq]
        omega
      rw [e, if_pos rfl]
      have e2 : (true && (decide (n1 ≤ 2) && (decide (n2 ≤ 2) && decide (n3 ≤ 1)))) = false := by
        simp only [Bool.and_eq_false_imp, Bool.true_and, decide_eq_true_eq, decide_eq_false_iff_not]
        intro a b
        omega
      rw [e2]
      rfl
  · rw [decide_eq_true (show (4 : Int) < (ts.length : Nat) from by omega), if_pos rfl, decide_eq_false h4]
    rfl
end P21
end

section
set_option Elab.async false
set_option linter.all false
set_option maxRecDepth 100000
set_option maxHeartbeats 4000000
namespace P21
open FC PySem D21
/-! ### the dice of the rounds -/
theorem ints_all : ∀ ns : List Int, (ns.map T.int).all isI = true
  | [] => rfl
  | a :: r => Bool.and_eq_true_iff.mpr ⟨rfl, ints_all r⟩
theorem ints_free : ∀ ns : List Int, T.freeL (ns.map T.int) = true
  | [] => rfl
  | a :: r => Bool.and_eq_true_iff.mpr ⟨rfl, ints_free r⟩
theorem sh_ints (ns : List Int) : SeqAt.shaped (PyData.list (T.dataL (ns.map .int))) = true := by
  obtain ⟨h1, h2⟩ := shI _ (ints_all ns)
  simp [SeqAt.shaped, PyData.canLay0, PyData.depth, h1, h2]
theorem eq_empty {ns : List Int} {t : T} (ht : t = .lst (ns.map .int) ∨ t = .fro (ns.map .int)) : eqT [] t (.lst []) = some ns.isEmpty := by
  have h : eqD (PyData.list (T.dataL (ns.map .int))) (PyData.list []) = some ns.isEmpty := by
    have s := sh_ints ns
    have s0 : SeqAt.shaped (PyData.list []) = true := by decide +kernel
    unfold eqD
    rw [s, s0]
    cases ns <;> simp [T.dataL, T.data, PyData.eqv, PyData.eqvAll]
  rcases ht with rfl | rfl <;> exact h
theorem its {ns : List Int} {t : T} {S : Sto} (ht : t = .lst (ns.map .int) ∨ t = .fro (ns.map .int)) : items S t = some (ns.map .int) := by
  rcases ht with rfl | rfl <;> rfl
theorem len_its {ns : List Int} {t : T} {S : Sto} (ht : t = .lst (ns.map .int) ∨ t = .fro (ns.map .int)) : bfnT .len S [t] = some (.val (.int ns.length)) := by
  rcases ht with rfl | rfl <;> simp [bfnT, one1, vI, lenT, items]
theorem ix_its {ns : List Int} {t : T} {S : Sto} (ht : t = .lst (ns.map .int) ∨ t = .fro (ns.map .int)) {j : Nat} (h : j < ns.length) : ixT S t (.int (j : Nat)) = some (.int (ns[j])) := by
  have e : L2.atI (ns.map T.int) ((j : Nat) : Int) = some (.int ns[j]) := L2.atI_nat (by simp [h])
  rcases ht with rfl | rfl <;> exact e
theorem cell {k : Nat} {ns : List Int} {t : T} (ht : t = .lst (ns.map .int) ∨ t = .fro (ns.map .int)) (i : Nat) (hl : ns.length ≤ 63) : ∃ c, M (k + 1) 18 [t, .int (i : Nat)] [] = .ok (.int c) [] := by
  have e := eq_empty ht
  rw [M_at (by decide) (d := d_law_cell) rfl]
  cases ns with
  | nil =>
    refine ⟨i * 7919, run_rt rfl ?_⟩
    have e' : eqT [] t (.lst []) = some true := e
    have m : mulOk i 7919 = true := mulOk_right (by decide)
    simp [d_law_cell, FC.start, evCs, evC, evE, evEs, FC.R.bind, R.out, O.then, put, lim, cmpT, e', FC.ofO, putN, binT, mulT, FC.guard, m]
  | cons a r =>
    have e' : eqT [] t (.lst []) = some false := e
    obtain ⟨n, hn⟩ : ∃ n, n = (a :: r).length := ⟨_, rfl⟩
    have hp : 0 < n := by rw [hn]; exact Nat.succ_pos _
    have hm : i % n < n := Nat.mod_lt _ hp
    have hl : n ≤ 63 := by rw [hn]; exact hl
    have l : bfnT .len [] [t] = some (.val (.int (n : Nat))) := by rw [hn]; exact len_its ht
    obtain ⟨cv, x⟩ : ∃ cv : Int, ixT [] t (.int ((i % n : Nat) : Int)) = some (.int cv) := ⟨_, ix_its ht (by rw [← hn]; exact hm)⟩
    have m : mulOk ((i : Int) / (n : Nat)) 104729 = true := mulOk_right (by decide)
    have dv : divOk (n : Nat) = true := by
      unfold divOk
      rw [Bool.and_eq_true]
      refine ⟨decide_eq_true (by omega), decide_eq_true ?_⟩
      have : n.log2 < 64 := (Nat.log2_lt (by omega)).mpr (Nat.lt_of_le_of_lt hl (by decide))
      exact Nat.lt_trans (show ((n : Nat) : Int).natAbs.log2 < 64 from this) (by decide)
    have md : ((i : Int) % (n : Nat)) = ((i % n : Nat) : Int) := by simp
    have mdT : binT .mod [] (.int (i : Nat)) (.int (n : Nat)) = some (.val (.int ((i : Int) % (n : Nat)))) := by
      have hp' : decide ((0 : Int) < (n : Nat)) = true := decide_eq_true (by omega)
      show guard (decide ((0 : Int) < (n : Nat))) _ = _
      rw [hp']; rfl
    rw [← md] at x
    have dvT : binT .fdiv [] (.int (i : Nat)) (.int (n : Nat)) = some (.val (.int ((i : Int) / (n : Nat)))) := by
      simp [binT, FC.guard, dv]
    refine ⟨cv + (i : Int) / (n : Nat) * 104729, run_rt rfl ?_⟩
    have mu : binT .mul [] (.int ((i : Int) / (n : Nat))) (.int 104729) = some (.val (.int ((i : Int) / (n : Nat) * 104729))) := by
      simp [binT, mulT, FC.guard, m]
    have ad : binT .add [] (.int cv) (.int ((i : Int) / (n : Nat) * 104729)) = some (.val (.int (cv + (i : Int) / (n : Nat) * 104729))) := rfl
    simp only [d_law_cell, FC.start, evCs, evC, evE, evEs, FC.R.bind, R.out, O.then, put, cmpT, e', FC.ofO, putN, l, List.map, List.length, List.replicate, List.append, List.getElem?_cons_zero, List.getElem?_cons_succ, List.cons_append, Option.map]
    simp [FC.R.bind, R.out, O.then, FC.ofO, putN, lim, evEs, e', l, mdT, dvT, x, mu, ad]
/-- the dice are laid -/
theorem lay {cond elt : FC.Env → Sto → R T} {e : FC.Env} (hc : ∀ e S, cond e S = .ok (.bl true) S) (he : ∀ i : Nat, ∀ S, ∃ c : Int, elt (e.set 2 (some (.int (i : Nat)))) S = .ok (.loc S.length) (S ++ [.lst [.int c, .int 0]])) :
    ∀ (is : List Nat) (acc : List T) (S : Sto), acc.length + is.length ≤ lim → ∃ (ls : List Nat) (S' : Sto), compL cond elt (.nm 2) e (is.map fun i : Nat => T.int (i : Nat)) acc S = .ok (acc ++ ls.map .loc) S' ∧ (∀ l ∈ ls, Dc S' l) ∧ ∀ l, Dc S l → Dc S' l
  | [], acc, S, _ => ⟨[], S, by simp [compL], fun l h => by simp at h, fun l h => h⟩
  | i :: is, acc, S, hl => by
    obtain ⟨c, h⟩ := he i S
    have hl' : acc.length + (is.length + 1) ≤ lim := hl
    obtain ⟨ls, S', h1, h2, h3⟩ := lay hc he is (acc ++ [.loc S.length]) (S ++ [.lst [.int c, .int 0]]) (by simp; omega)
    have d0 : Dc (S ++ [.lst [.int c, .int 0]]) S.length := ⟨c, 0, by unfold lstAt; rw [List.getElem?_append_right (Nat.le_refl _)]; simp [lstOf]⟩
    have dk : ∀ l, Dc S l → Dc (S ++ [.lst [.int c, .int 0]]) l := fun l ⟨a, b, h⟩ => by
      have hb := (List.getElem?_eq_some_iff.mp (lstAt_some h)).1
      refine ⟨a, b, ?_⟩
      unfold lstAt at h ⊢
      rw [List.getElem?_append_left hb]
      exact h
    refine ⟨S.length :: ls, S', ?_, fun l hm => ?_, fun l hd => h3 l (dk l hd)⟩
    · have hlt : acc.length < lim := by omega
      have q : compL cond elt (.nm 2) e ((i :: is).map fun i : Nat => T.int (i : Nat)) acc S = compL cond elt (.nm 2) e (is.map fun i : Nat => T.int (i : Nat)) (acc ++ [.loc S.length]) (S ++ [.lst [.int c, .int 0]]) := by
        simp [compL, bindT, hc, h, FC.R.bind, hlt]
      rw [q, h1]
      simp
    · rcases List.mem_cons.mp hm with rfl | hm
      · exact h3 _ d0
      · exact h2 l hm
theorem rng_nat (n : Nat) : rngL n 0 = (List.range n).map fun i : Nat => T.int (i : Nat) := by
  unfold rngL
  simp
theorem ev_comp {fe : FEnv} {al : Bool} {own : List Nat} {elt i1 i2 c : E} {tg : P} {kk : ItK} {hc : Bool} {e : FC.Env} {S S1 S2 S3 : Sto} {x y : T} {xs ys : List T} (h1 : evE fe i1 e S = .ok x S1) (h2 : evE fe i2 e S1 = .ok y S2) (h3 : itT kk S2 x y = some xs)
    (h4 : compL (fun e S => if hc then evE fe c e S else .ok (.bl true) S) (fun e S => evE fe elt e S) tg (wipeE e own) xs [] S2 = .ok ys S3) : evE fe (.comp al own elt tg kk i1 i2 hc c) e S = put al ys S3 := by
  rw [evE, h1]
  show (evE fe i2 e S1).bind _ = _
  rw [h2]
  show (match itT kk S2 x y with | none => R.bad | some xs => _) = _
  rw [h3]
  show (compL _ _ _ _ _ _ _).bind _ = _
  rw [h4]
  rfl
theorem rounds {k : Nat} {ns : List Int} {t : T} (ht : t = .lst (ns.map .int) ∨ t = .fro (ns.map .int)) (hl : ns.length ≤ 63) : ∃ (ls : List Nat) (S' : Sto), M (k + 2) 21 [t, .int 4] [] = .ok (.lst (ls.map .loc)) S' ∧ ∀ l ∈ ls, Dc S' l := by
  rw [M_at (k := k + 1) (by decide) (d := d_law_rounds) rfl]
  obtain ⟨n, hn⟩ : ∃ n, n = ns.length := ⟨_, rfl⟩
  have l : bfnT .len [] [t] = some (.val (.int (n : Nat))) := by rw [hn]; exact len_its ht
  obtain ⟨m, hm, hm4, hq⟩ : ∃ m : Nat, m ≤ 4 ∧ maxL [1, if (n : Int) < 4 then (n : Int) else 4] = some (m : Int) ∧ True := by
    by_cases h : (n : Int) < 4
    · rw [if_pos h]
      by_cases h1 : (n : Int) > 1
      · exact ⟨n, by omega, by simp [maxL]; omega, trivial⟩
      · exact ⟨1, by omega, by simp [maxL]; omega, trivial⟩
    · rw [if_neg h]; exact ⟨4, by omega, rfl, trivial⟩
  have mn : bfnT .min [] [.int 4, .int (n : Nat)] = some (.val (.int (if (n : Int) < 4 then (n : Int) else 4))) := by
    simp [bfnT, vI, maxT, minL]
  have mx : bfnT .max [] [.int 1, .int (if (n : Int) < 4 then (n : Int) else 4)] = some (.val (.int (m : Nat))) := by
    show vI (maxL [1, if (n : Int) < 4 then (n : Int) else 4]) = _
    rw [hm4]; rfl
  have it : itT .range1 [] (.int (m : Nat)) .non = some ((List.range m).map fun i : Nat => T.int (i : Nat)) := by
    have sm : small62 (m : Nat) = true := by
      unfold small62
      rw [Bool.and_eq_true]
      exact ⟨decide_eq_true (by omega), decide_eq_true (by omega)⟩
    show (if small62 (m : Nat) then some (rngL ((m : Nat) : Int).toNat 0) else none) = _
    rw [sm, ← rng_nat]
    rfl
  have fr : T.freeL [t] = true := by
    rcases ht with rfl | rfl <;> simp [T.freeL, T.free, ints_free]
  obtain ⟨ls, S', h1, h2, h3⟩ := lay (cond := fun e S => if false then evE (M (k + 1)) (.cst .non) e S else .ok (.bl true) S) (elt := fun e S => evE (M (k + 1)) (.lst true [(.call true 18 [(.var 0), (.var 2)]), (.cst (.int 0))]) e S) (e := [some t, some (.int 4), none]) (fun _ _ => rfl) (fun i S => by
    obtain ⟨c, h⟩ := cell (k := k) ht i hl
    refine ⟨c, ?_⟩
    have fr' : T.freeL [t, .int (i : Nat)] = true := by
      rcases ht with rfl | rfl <;> simp [T.freeL, T.free, ints_free]
    have cp : callP (M (k + 1)) 18 [t, .int (i : Nat)] S = .ok (.int c) S := by
      unfold callP
      rw [if_pos fr', h]
      rfl
    simp [evE, evEs, FC.R.bind, cp, lim, put]) (List.range m) [] [] (by rw [List.length_range]; exact Nat.le_trans (show 0 + m ≤ 4 by omega) (by decide))
  refine ⟨ls, S', run_rt rfl ?_, h2⟩
  have h1' : compL (fun e S => if false then evE (M (k + 1)) (.cst .non) e S else .ok (.bl true) S) (fun e S => evE (M (k + 1)) (.lst true [(.call true 18 [(.var 0), (.var 2)]), (.cst (.int 0))]) e S) (.nm 2) [some t, some (.int 4), none] ((List.range m).map fun i : Nat => T.int (i : Nat)) [] [] = .ok (ls.map .loc) S' := h1
  show evCs (M (k + 1)) fuel d_law_rounds.body [some t, some (.int 4), none] [] = _
  have i1 : evE (M (k + 1)) (.bfn .max false [(.cst (.int 1)), (.bfn .min false [(.var 1), (.bfn .len false [(.var 0)])])]) [some t, some (.int 4), none] [] = .ok (.int (m : Nat)) [] := by
    simp [evE, evEs, FC.R.bind, l, putN, mn, mx]
  have c0 : evE (M (k + 1)) (.comp false [2] (.lst true [(.call true 18 [(.var 0), (.var 2)]), (.cst (.int 0))]) (.nm 2) .range1 (.bfn .max false [(.cst (.int 1)), (.bfn .min false [(.var 1), (.bfn .len false [(.var 0)])])]) (.cst .non) false (.cst .non)) [some t, some (.int 4), none] [] = .ok (.lst (ls.map .loc)) S' := by
    exact ev_comp (al := false) (hc := false) i1 rfl it h1'
  simp only [d_law_rounds, evCs, evC, c0, R.out, O.then]
end P21
end

section
set_option Elab.async false
set_option linter.all false
set_option maxRecDepth 100000
set_option maxHeartbeats 4000000
namespace P21
open FC PySem D21
/-! ### texts -/
abbrev tl (z : Str) : List Nat := z.cps.toList
def okS (z : Str) : Prop := ∀ c ∈ tl z, c < 1114112
theorem okS.str {z : Str} (h : okS z) : PyData.strOk z = true := by
  unfold PyData.strOk
  rw [← Array.all_toList]
  exact List.all_eq_true.mpr fun c hc => decide_eq_true (h c hc)
theorem okS_app {a b : Str} (ha : okS a) (hb : okS b) : okS (a ++ b) := fun c hc => by
  rw [show tl (a ++ b) = tl a ++ tl b from TL.tl_append a b] at hc
  rcases List.mem_append.mp hc with h | h
  · exact ha c h
  · exact hb c h
theorem okS_cut {z : Str} (h : okS z) (lo hi : Option Int) : okS (L2.cutS z lo hi) := fun c hc => h c (List.mem_of_mem_drop (List.mem_of_mem_take hc))
theorem okS_one {z : Str} {i : Int} {c : Nat} (h : okS z) (hc : c ∈ tl z) : okS ⟨#[c]⟩ := fun d hd => by
  rw [List.mem_singleton.mp (show d ∈ [c] from hd)]
  exact h c hc
theorem spl_mem (S : List Nat) : ∀ (k : Nat) (acc l : List Nat), ∀ p ∈ TL.spl S k acc l, ∀ c ∈ p, c ∈ acc ∨ c ∈ l
  | k, acc, [], p, hp, c, hc => by
    rw [TL.spl_nil] at hp
    rw [List.mem_singleton.mp hp] at hc
    exact .inl hc
  | 0, acc, d :: r, p, hp, c, hc => by
    unfold TL.spl at hp
    split at hp
    · rcases List.mem_cons.mp hp with rfl | hp
      · exact .inl hc
      · rcases spl_mem S _ [] r p hp c hc with h | h
        · simp at h
        · exact .inr (List.mem_cons_of_mem _ h)
    · rcases spl_mem S 0 (acc ++ [d]) r p hp c hc with h | h
      · rcases List.mem_append.mp h with h | h
        · exact .inl h
        · rw [List.mem_singleton.mp h]; exact .inr List.mem_cons_self
      · exact .inr (List.mem_cons_of_mem _ h)
  | k + 1, acc, d :: r, p, hp, c, hc => by
    unfold TL.spl at hp
    rcases spl_mem S k acc r p hp c hc with h | h
    · exact .inl h
    · exact .inr (List.mem_cons_of_mem _ h)
theorem split_tl {z : Str} {y : List Nat} (hy : y ≠ []) (hk : y.all (· < 256) = true) : (Txt.split z (SX.S y)).map tl = TL.spl y 0 [] (tl z) :=
  TL.split_spl z (SX.S y) hy (TL.kind_ok (SX.all256 hk))
theorem split_mem {z : Str} {y : List Nat} (hy : y ≠ []) (hk : y.all (· < 256) = true) {p : Str} (hp : p ∈ Txt.split z (SX.S y)) : ∀ c ∈ tl p, c ∈ tl z := fun c hc => by
  have m : tl p ∈ (Txt.split z (SX.S y)).map tl := List.mem_map_of_mem hp
  rw [split_tl hy hk] at m
  rcases spl_mem y 0 [] (tl z) _ m c hc with h | h
  · simp at h
  · exact h
theorem spl_len (S : List Nat) : ∀ (k : Nat) (acc l : List Nat), (TL.spl S k acc l).length ≤ l.length + 1
  | k, acc, [] => by rw [TL.spl_nil]; simp
  | 0, acc, d :: r => by
    unfold TL.spl
    split
    · have := spl_len S (S.length - 1) [] r
      simp
      omega
    · have := spl_len S 0 (acc ++ [d]) r
      simp
      omega
  | k + 1, acc, d :: r => by
    unfold TL.spl
    have := spl_len S k acc r
    simp
    omega
theorem spl_ne (S : List Nat) : ∀ (k : Nat) (acc l : List Nat), TL.spl S k acc l ≠ []
  | k, acc, [] => by rw [TL.spl_nil]; simp
  | 0, acc, d :: r => by
    unfold TL.spl
    split
    · simp
    · exact spl_ne S 0 _ r
  | k + 1, acc, d :: r => by
    unfold TL.spl
    exact spl_ne S k _ r
theorem split_len {z : Str} {y : List Nat} (hy : y ≠ []) (hk : y.all (· < 256) = true) : (Txt.split z (SX.S y)).length ≤ z.length + 1 := by
  have e := congrArg List.length (split_tl (z := z) hy hk)
  rw [List.length_map] at e
  rw [e, TL.len_tl z]
  exact spl_len _ _ _ _
theorem split_ne {z : Str} {y : List Nat} (hy : y ≠ []) (hk : y.all (· < 256) = true) : Txt.split z (SX.S y) ≠ [] := fun h => by
  have e := split_tl (z := z) hy hk
  rw [h] at e
  exact spl_ne _ _ _ _ e.symm
theorem spl_short (S : List Nat) : ∀ (k : Nat) (acc l : List Nat), ∀ p ∈ TL.spl S k acc l, p.length ≤ acc.length + l.length
  | k, acc, [], p, hp => by
    rw [TL.spl_nil] at hp
    rw [List.mem_singleton.mp hp]
    simp
  | 0, acc, d :: r, p, hp => by
    unfold TL.spl at hp
    split at hp
    · rcases List.mem_cons.mp hp with rfl | hp
      · simp
      · have := spl_short S _ [] r p hp
        simp at this ⊢
        omega
    · have := spl_short S 0 (acc ++ [d]) r p hp
      simp at this ⊢
      omega
  | k + 1, acc, d :: r, p, hp => by
    unfold TL.spl at hp
    have := spl_short S k acc r p hp
    simp at this ⊢
    omega
theorem split_short {z : Str} {y : List Nat} (hy : y ≠ []) (hk : y.all (· < 256) = true) {p : Str} (hp : p ∈ Txt.split z (SX.S y)) : p.length ≤ z.length := by
  have m : tl p ∈ (Txt.split z (SX.S y)).map tl := List.mem_map_of_mem hp
  rw [split_tl hy hk] at m
  have := spl_short y 0 [] (tl z) _ m
  rw [TL.len_tl p, TL.len_tl z]
  simpa using this
theorem split_app {z : Str} {y : List Nat} (hy : y ≠ []) (hk : y.all (· < 256) = true) (h : okS z) {p : Str} (hp : p ∈ Txt.split z (SX.S y)) : okS p := fun c hc => h c (split_mem hy hk hp c hc)
theorem str_eq {S : Sto} {a b : Str} (ha : okS a) (hb : okS b) : eqT S (.str a) (.str b) = some (decide (a = b)) := by
  show eqD (.str a) (.str b) = _
  unfold eqD
  simp only [SeqAt.shaped, PyData.canLay0, PyData.depth, ha.str, hb.str]
  by_cases h : a = b
  · subst h
    simp [PyData.eqv]
  · simp [PyData.eqv, h]
/-! ### joined texts -/
theorem okS_join {y : Str} (hy : okS y) : ∀ ps : List Str, (∀ p ∈ ps, okS p) → okS (Txt.join y ps) := fun ps h => by
  rw [TL.join_eq]
  induction ps with
  | nil => exact fun c hc => by simp [Str.join, tl] at hc; exact absurd hc (by simp [Str.empty])
  | cons p r ih =>
    cases r with
    | nil => exact h p List.mem_cons_self
    | cons q r => exact okS_app (okS_app (h p List.mem_cons_self) hy) (ih fun x hx => h x (List.mem_cons_of_mem _ hx))
abbrev bar : List Nat := [32, 124, 32]
theorem free_bar : ∀ {p : List Nat}, 124 ∉ p → SX.free bar p = true
  | [], _ => rfl
  | c :: r, h => by
    show (!(TL.pre bar (c :: (r ++ bar))) && SX.free bar r) = true
    rw [Bool.and_eq_true, Bool.not_eq_true']
    refine ⟨?_, free_bar fun hm => h (List.mem_cons_of_mem _ hm)⟩
    cases r with
    | nil => cases hp : TL.pre bar (c :: ([] ++ bar)) with
      | false => rfl
      | true => exact absurd (eq_of_beq hp) (by simp [bar])
    | cons d r => cases hp : TL.pre bar (c :: ((d :: r) ++ bar)) with
      | false => rfl
      | true =>
        have e := eq_of_beq hp
        have e2 : [c, d] = [32, 124] := by
          have := congrArg (List.take 2) e
          simpa [bar] using this
        injection e2 with e3 e4
        injection e4 with e5
        exact absurd (by rw [e5]; simp) h
theorem last_bar : ∀ {p : List Nat}, 124 ∉ p → TL.spl bar 0 [] p = [p] := fun {p} h => by
  have e := TL.spl_last (S := bar) (p := p) (acc := []) fun i hi => by
    cases hp : TL.pre bar (p.drop i) with
    | false => rfl
    | true =>
      have e := eq_of_beq hp
      have m : 124 ∈ (p.drop i).take 3 := by
        rw [show ((p.drop i).take bar.length) = (p.drop i).take 3 from rfl] at e
        rw [e]
        simp [bar]
      exact absurd (List.mem_of_mem_drop (List.mem_of_mem_take m)) h
  rw [e, List.nil_append]
theorem spl_bar : ∀ {ps : List (List Nat)}, ps ≠ [] → (∀ p ∈ ps, 124 ∉ p) → TL.spl bar 0 [] (TL.joinL bar ps) = ps
  | [], h, _ => absurd rfl h
  | [p], _, hp => last_bar (hp p (List.mem_singleton.mpr rfl))
  | p :: q :: r, _, hp => by
    show TL.spl bar 0 [] (p ++ (bar ++ TL.joinL bar (q :: r))) = p :: q :: r
    rw [SX.spl_free _ (by decide) (free_bar (hp p (List.mem_cons_self ..))), spl_bar (by simp) fun z hz => hp z (List.mem_cons_of_mem _ hz)]
theorem split_bar {ps : List Str} (h : ps ≠ []) (hp : ∀ p ∈ ps, 124 ∉ tl p) : Txt.split (Txt.join (SX.S bar) ps) (SX.S bar) = ps := by
  refine TL.map_tl_inj ?_
  rw [show (Txt.split (Txt.join (SX.S bar) ps) (SX.S bar)).map TL.tl = TL.spl bar 0 [] (tl (Txt.join (SX.S bar) ps)) from split_tl (by decide) (by decide)]
  rw [TL.join_eq, show tl (Str.join (SX.S bar) ps) = TL.joinL bar (ps.map TL.tl) from TL.tl_join _ _]
  exact spl_bar (fun e => h (List.map_eq_nil_iff.mp e)) fun p hm => by
    obtain ⟨z, hz, rfl⟩ := List.mem_map.mp hm
    exact hp z hz
end P21
end

section
set_option Elab.async false
set_option linter.all false
set_option maxRecDepth 100000
set_option maxHeartbeats 4000000
namespace P21
open FC PySem D21
/-! ### is_chain answers at any rows of a word and numbers -/
/-- a truth, the same one at each level -/
def isB (r : Nat → R T) (S : Sto) : Prop := ∃ b, ∀ k, r k = .ok (.bl b) S
def rtB (r : Nat → O) (S : Sto) : Prop := ∃ b, ∀ k, r k = .rt (.bl b) S
theorem e_int {S : Sto} {a b : Int} : eqT S (.int a) (.int b) = some (decide (a = b)) := by
  show eqD (.int a) (.int b) = _
  unfold eqD
  simp [SeqAt.shaped, PyData.canLay0, PyData.depth, PyData.eqv]
  rfl
section
variable {fe : Nat → FEnv} {a b : E} {e : FC.Env} {S : Sto}
theorem t_and (ha : isB (fun k => evE (fe k) a e S) S) (hb : (∀ k, evE (fe k) a e S = .ok (.bl true) S) → isB (fun k => evE (fe k) b e S) S) : isB (fun k => evE (fe k) (.and a b) e S) S := by
  obtain ⟨p, h⟩ := ha
  cases p with
  | false => exact ⟨false, fun k => by simp [evE, FC.R.bind, h k]⟩
  | true =>
    obtain ⟨q, hq⟩ := hb h
    exact ⟨q, fun k => by simp [evE, FC.R.bind, h k, hq k]⟩
theorem t_or (ha : isB (fun k => evE (fe k) a e S) S) (hb : isB (fun k => evE (fe k) b e S) S) : isB (fun k => evE (fe k) (.or a b) e S) S := by
  obtain ⟨p, h⟩ := ha
  cases p with
  | true => exact ⟨true, fun k => by simp [evE, FC.R.bind, h k]⟩
  | false =>
    obtain ⟨q, hq⟩ := hb
    exact ⟨q, fun k => by simp [evE, FC.R.bind, h k, hq k]⟩
theorem t_not (ha : isB (fun k => evE (fe k) a e S) S) : isB (fun k => evE (fe k) (.not a) e S) S := by
  obtain ⟨p, h⟩ := ha
  exact ⟨!p, fun k => by simp [evE, FC.R.bind, h k]⟩
theorem t_ret {n : Nat} {cs : List C} (ha : isB (fun k => evE (fe k) a e S) S) : rtB (fun k => evCs (fe k) n (.ret a :: cs) e S) S := by
  obtain ⟨p, h⟩ := ha
  exact ⟨p, fun k => by simp [evCs, evC, R.out, h k, O.then]⟩
theorem t_ite {n : Nat} {A cs : List C} (ha : isB (fun k => evE (fe k) a e S) S) (h1 : (∀ k, evE (fe k) a e S = .ok (.bl true) S) → rtB (fun k => evCs (fe k) n A e S) S) (h2 : (∀ k, evE (fe k) a e S = .ok (.bl false) S) → rtB (fun k => evCs (fe k) n cs e S) S) : rtB (fun k => evCs (fe k) n (.ite a A [] :: cs) e S) S := by
  obtain ⟨p, h⟩ := ha
  cases p with
  | true =>
    obtain ⟨q, hq⟩ := h1 h
    refine ⟨q, fun k => ?_⟩
    have hq : evCs (fe k) n A e S = .rt (.bl q) S := hq k
    show evCs (fe k) n (.ite a A [] :: cs) e S = _
    rw [cs_cons (c_ite (v := true) (h k)), if_pos rfl, hq]
    rfl
  | false =>
    obtain ⟨q, hq⟩ := h2 h
    refine ⟨q, fun k => ?_⟩
    have hq : evCs (fe k) n cs e S = .rt (.bl q) S := hq k
    show evCs (fe k) n (.ite a A [] :: cs) e S = _
    rw [cs_cons (c_ite (v := false) (h k)), if_neg Bool.false_ne_true]
    simpa [evCs, O.then] using hq
theorem t_run {c i : Nat} {d : Fd} {as : List T} (hb : i < big) (hd : prog[i]? = some d) (h0 : as.length = d.np) (h : rtB (fun k => evCs (M (k + c)) fuel d.body (FC.start d.np d.nl as) S) S) (ht : d.td = false := by rfl) : isB (fun k => M (k + (c + 1)) i as S) S := by
  obtain ⟨b, h⟩ := h
  refine ⟨b, fun k => ?_⟩
  show M ((k + c) + 1) i as S = _
  rw [M_at hb hd ht]
  exact run_rt h0 (h k)
end
theorem whole_g {k : Nat} {S : Sto} {v lo hi : Int} : M (k + 1) 0 [.int v, .int lo, .int hi] S = .ok (.bl (decide (lo ≤ v) && decide (v ≤ hi))) S := by
  rw [M_at (by decide) (d := d_is_whole) rfl]
  refine run_rt rfl ?_
  by_cases h : lo ≤ v <;> simp [d_is_whole, FC.start, evCs, evC, evE, evEs, FC.R.bind, R.out, O.then, FC.ofO, isTy, cmpT, cmpI, h]
theorem rest_g {b r : Int} : isB (fun k => M (k + 2) 1 [.tup [.int b, .int r]] []) [] := by
  have w1 : ∀ k, M (k + 1) 0 [.int b, .int 2, .int 3] [] = .ok (.bl _) [] := fun k => whole_g
  have w2 : ∀ k, M (k + 1) 0 [.int r, .int 0, .int (b - 1)] [] = .ok (.bl _) [] := fun k => whole_g
  have a0 : L2.atI [T.int b, .int r] 0 = some (.int b) := rfl
  have a1 : L2.atI [T.int b, .int r] 1 = some (.int r) := rfl
  generalize (decide (2 ≤ b) && decide (b ≤ 3)) = p1 at w1
  generalize (decide (0 ≤ r) && decide (r ≤ b - 1)) = p2 at w2
  refine t_run (c := 1) (d := d_is_rest) (by decide) rfl rfl (t_ret (t_and ⟨p1, fun k => ?_⟩ fun _ => ⟨p2, fun k => ?_⟩))
  · simp [d_is_rest, FC.start, evE, evEs, FC.R.bind, FC.ofO, ixT, ixL, items, a0, a1, putN, binT, callP, T.freeL, T.free, w1, thaw]
  · simp [d_is_rest, FC.start, evE, evEs, FC.R.bind, FC.ofO, ixT, ixL, items, a0, a1, putN, binT, callP, T.freeL, T.free, w2, thaw]
theorem line_g {b r : Int} : isB (fun k => M (k + 2) 2 [.tup [.int b, .int r]] []) [] := by
  have w1 : ∀ k, M (k + 1) 0 [.int b, .int (-3), .int 3] [] = .ok (.bl _) [] := fun k => whole_g
  have w2 : ∀ k, M (k + 1) 0 [.int r, .int (-9), .int 9] [] = .ok (.bl _) [] := fun k => whole_g
  have a0 : L2.atI [T.int b, .int r] 0 = some (.int b) := rfl
  have a1 : L2.atI [T.int b, .int r] 1 = some (.int r) := rfl
  generalize (decide (-3 ≤ b) && decide (b ≤ 3)) = p1 at w1
  generalize (decide (-9 ≤ r) && decide (r ≤ 9)) = p2 at w2
  refine t_run (c := 1) (d := d_is_line) (by decide) rfl rfl (t_ret (t_and ⟨p1, fun k => ?_⟩ fun _ => ⟨p2, fun k => ?_⟩))
  · simp [d_is_line, FC.start, evE, evEs, FC.R.bind, FC.ofO, ixT, ixL, items, a0, a1, putN, binT, callP, T.freeL, T.free, w1, thaw]
  · simp [d_is_line, FC.start, evE, evEs, FC.R.bind, FC.ofO, ixT, ixL, items, a0, a1, putN, binT, callP, T.freeL, T.free, w2, thaw]
theorem nil_g {S : Sto} {is : List Int} : ∃ b, eqT S (.tup (is.map .int)) (.tup []) = some b := by
  obtain ⟨h1, h2⟩ := shI _ (ints_all is)
  have s : SeqAt.shaped (PyData.tuple (T.dataL (is.map .int))) = true := by
    simp [SeqAt.shaped, PyData.canLay0, PyData.depth, h1, h2]
  have s0 : SeqAt.shaped (PyData.tuple []) = true := by decide +kernel
  refine ⟨PyData.eqv (PyData.tuple (T.dataL (is.map .int))) (PyData.tuple []), ?_⟩
  show eqD (PyData.tuple (T.dataL (is.map .int))) (PyData.tuple []) = _
  unfold eqD
  rw [s, s0]
  rfl
abbrev stE (x : Str) (is : List Int) : FC.Env := [some (.tup (.str x :: is.map .int)), some (.str x), some (.tup (is.map .int))]
theorem len_g {k : Nat} {x : Str} {is : List Int} (n : Int) : evE (M k) (.cmp .eq (.bfn .len false [(.var 2)]) (.cst (.int n))) (stE x is) [] = .ok (.bl (decide (((is.length : Nat) : Int) = n))) [] := by
  have l : bfnT .len [] [.tup (is.map .int)] = some (.val (.int (is.length : Nat))) := by rw [len_tup, List.length_map]
  unfold stE
  generalize is.map T.int = q at l ⊢
  simp [evE, evEs, FC.R.bind, l, putN, cmpT, e_int, FC.ofO]
theorem kind_g {k : Nat} {x y : Str} {is : List Int} (hx : okS x) (hy : okS y) : evE (M k) (.cmp .eq (.var 1) (.cst (.str y))) (stE x is) [] = .ok (.bl (decide (x = y))) [] := by
  have e := str_eq (S := []) hx hy
  simp [evE, FC.R.bind, cmpT, e, FC.ofO]
theorem len_of {is : List Int} {n : Int} {S : Sto} (h : (R.ok (T.bl (decide (((is.length : Nat) : Int) = n))) S : R T) = .ok (.bl true) S) : ((is.length : Nat) : Int) = n := by
  injection h with h1 h2
  injection h1 with h3
  exact of_decide_eq_true h3
theorem len_of' {x : Str} {is : List Int} {n : Int} (h : ∀ k, evE (M (k + 2)) (.cmp .eq (.bfn .len false [(.var 2)]) (.cst (.int n))) (stE x is) [] = .ok (.bl true) []) : ((is.length : Nat) : Int) = n := by
  have h := h 0
  rw [len_g] at h
  exact len_of h
theorem is_step_g {x : Str} {is : List Int} (hx : okS x) : isB (fun k => M (k + 3) 3 [.tup (.str x :: is.map .int)] []) [] := by
  refine t_run (c := 2) (d := d_is_step) (by decide) rfl rfl ?_
  have hd := fun k {o : O} h => is_step_head (fe := M (k + 2)) (x := x) (r := is.map .int) (o := o) (q_ne (sh hx.str (ints_all is))) h
  refine (fun z : rtB (fun k => evCs (M (k + 2)) fuel (d_is_step.body.drop 2) (stE x is) []) [] => ?_) ?_
  · obtain ⟨b, z⟩ := z
    exact ⟨b, fun k => hd k (z k)⟩
  have ok : okS "groups" ∧ okS "line" ∧ okS "turn" := by
    refine ⟨?_, ?_, ?_⟩ <;> (unfold okS; decide +kernel)
  have m1 : isB (fun k => evE (M (k + 2)) (.cmp .isin (.var 1) (.cst (.tup [(.str "sums"), (.str "gaps"), (.str "count"), (.str "twice")]))) (stE x is) []) [] := ⟨_, fun k => rfl⟩
  have m2 : isB (fun k => evE (M (k + 2)) (.cmp .isin (.var 1) (.tup [(.cst (.str "anew")), (.cst (.str "keep")), (.cst (.str "every"))])) (stE x is) []) [] := ⟨_, fun k => rfl⟩
  refine t_ite m1 (fun _ => t_ret ?_) fun _ => ?_
  · obtain ⟨b, h⟩ := nil_g (S := []) (is := is)
    refine ⟨b, fun k => ?_⟩
    unfold stE
    generalize is.map T.int = q at h ⊢
    simp [evE, evEs, FC.R.bind, cmpT, h, FC.ofO]
  refine t_ite ⟨_, fun k => kind_g hx ok.1⟩ (fun _ => t_ret (t_and ⟨_, fun k => len_g 1⟩ fun h => ?_)) fun _ => ?_
  · have h := len_of' h
    match is, h with
    | [n], _ =>
      have w : ∀ k, M (k + 2) 0 [.int n, .int 2, .int 3] [] = .ok (.bl _) [] := fun k => whole_g
      have a0 : L2.atI [T.int n] 0 = some (.int n) := rfl
      generalize (decide (2 ≤ n) && decide (n ≤ 3)) = p at w
      exact ⟨p, fun k => by simp [evE, evEs, FC.R.bind, FC.ofO, ixT, ixL, items, a0, callP, T.freeL, T.free, w, thaw]⟩
  refine t_ite ⟨_, fun k => kind_g hx ok.2.1⟩ (fun _ => t_ret (t_and ⟨_, fun k => len_g 2⟩ fun h => ?_)) fun _ => ?_
  · have h := len_of' h
    match is, h with
    | [f, m], _ =>
      obtain ⟨p, w⟩ := line_g (b := f) (r := m)
      exact ⟨p, fun k => by simp [evE, evEs, FC.R.bind, FC.ofO, callP, T.freeL, T.free, w, thaw]⟩
  refine t_ite m2 (fun _ => t_ret (t_and ⟨_, fun k => len_g 2⟩ fun h => ?_)) fun _ => ?_
  · have h := len_of' h
    match is, h with
    | [f, m], _ =>
      obtain ⟨p, w⟩ := rest_g (b := f) (r := m)
      exact ⟨p, fun k => by simp [evE, evEs, FC.R.bind, FC.ofO, callP, T.freeL, T.free, w, thaw]⟩
  refine t_ret (t_and ⟨_, fun k => kind_g hx ok.2.2⟩ fun _ => t_and ⟨_, fun k => len_g 4⟩ fun h => ?_)
  have h := len_of' h
  match is, h with
  | [b, r, f, m], _ =>
    obtain ⟨p1, w1⟩ := rest_g (b := b) (r := r)
    obtain ⟨p2, w2⟩ := line_g (b := f) (r := m)
    have s1 : slcT [] (.tup [.int b, .int r, .int f, .int m]) none (some 2) = some (.val (.tup [.int b, .int r])) := rfl
    have s2 : slcT [] (.tup [.int b, .int r, .int f, .int m]) (some 2) none = some (.val (.tup [.int f, .int m])) := rfl
    refine t_and ⟨p1, fun k => ?_⟩ fun _ => ⟨p2, fun k => ?_⟩
    · simp [evE, evEs, FC.R.bind, FC.ofO, callP, T.freeL, T.free, w1, s1, asIdx, putN, thaw]
    · simp [evE, evEs, FC.R.bind, FC.ofO, callP, T.freeL, T.free, w2, s2, asIdx, putN, thaw]
end P21
end

section
set_option Elab.async false
set_option linter.all false
set_option maxRecDepth 100000
set_option maxHeartbeats 4000000
namespace P21
open FC PySem D21
/-! ### rows of a word and numbers -/
abbrev Gs := Str × List Int
def gT (p : Gs) : T := .tup (.str p.1 :: p.2.map .int)
theorem gT_free (p : Gs) : (gT p).free = true := by
  show (T.free (.str p.1) && T.freeL (p.2.map .int)) = true
  rw [ints_free]
  rfl
theorem freeL_of : ∀ ts : List T, (∀ t ∈ ts, T.free t = true) → T.freeL ts = true
  | [], _ => rfl
  | a :: r, h => Bool.and_eq_true_iff.mpr ⟨h a List.mem_cons_self, freeL_of r fun t ht => h t (List.mem_cons_of_mem _ ht)⟩
theorem gTs_free (ps : List Gs) : T.freeL (ps.map gT) = true := freeL_of _ fun t ht => by
  obtain ⟨p, _, rfl⟩ := List.mem_map.mp ht
  exact gT_free p
theorem bls_map (f : T → Bool) : ∀ ts : List T, blsOf (ts.map fun t => T.bl (f t)) = some (ts.map f)
  | [] => rfl
  | t :: ts => by
    show (blsOf (ts.map fun t => T.bl (f t))).map (f t :: ·) = _
    rw [bls_map f ts]
    rfl
def rb (r : R T) : Bool := match r with | .ok (.bl b) _ => b | _ => false
theorem is_chain_g {ps : List Gs} (hs : ∀ p ∈ ps, okS p.1) (hl : ps.length ≤ lim) : isB (fun k => M (k + 4) 5 [.tup (ps.map gT)] []) [] := by
  generalize hts : ps.map gT = ts
  have fr : T.freeL ts = true := by rw [← hts]; exact gTs_free ps
  have hl' : ts.length ≤ lim := by rw [← hts, List.length_map]; exact hl
  have hd0 : ∀ t ∈ ts, ∃ x r, t = .tup (.str x :: r) := fun t ht => by
    rw [← hts] at ht
    obtain ⟨p, _, rfl⟩ := List.mem_map.mp ht
    exact ⟨_, _, rfl⟩
  have st : ∀ t ∈ ts, isB (fun k => M (k + 3) 3 [t] []) [] := fun t ht => by
    rw [← hts] at ht
    obtain ⟨p, hp, rfl⟩ := List.mem_map.mp ht
    exact is_step_g (hs p hp)
  have ⟨f, hf⟩ : ∃ f : T → Bool, ∀ t ∈ ts, ∀ k, M (k + 3) 3 [t] [] = .ok (.bl (f t)) [] := by
    refine ⟨fun t => rb (M 3 3 [t] []), fun t ht k => ?_⟩
    obtain ⟨b, h⟩ := st t ht
    have h0 : M 3 3 [t] [] = .ok (.bl b) [] := h 0
    have hk : M (k + 3) 3 [t] [] = .ok (.bl b) [] := h k
    have e : rb (M 3 3 [t] []) = b := by rw [h0]; rfl
    show M (k + 3) 3 [t] [] = .ok (.bl (rb (M 3 3 [t] []))) []
    rw [e]
    exact hk
  refine t_run (c := 3) (d := d_is_chain) (by decide) rfl rfl ?_
  have frm : ∀ t ∈ ts, t.free = true := fun t ht => by
    rw [← hts] at ht
    obtain ⟨p, _, rfl⟩ := List.mem_map.mp ht
    exact gT_free p
  have ca : ∀ k, evE (M (k + 3)) (.bfn .all false [(.comp false [1] (.call true 3 [(.var 1)]) (.nm 1) .of (.var 0) (.cst .non) false (.cst .non))]) [some (.tup ts), none] [] = .ok (.bl ((ts.map f).all id)) [] := fun k => by
    have c := compL_ok (cond := fun e S => (if false then evE (M (k + 3)) (.cst .non) e S else .ok (.bl true) S : R T)) (elt := fun e S => evE (M (k + 3)) (.call true 3 [(.var 1)]) e S) (tg := .nm 1) (e := [some (.tup ts), none]) (S := []) (fun t => true) (fun t => .bl (f t)) ts [] (fun t ht => ⟨_, rfl, rfl, fun _ => by
      have w' : M (k + 3) 3 [t] [] = .ok (.bl (f t)) [] := hf t ht k
      have fr := frm t ht
      simp [evE, evEs, FC.R.bind, callP, T.freeL, fr, w', thaw, FC.ofO]⟩) (by simpa using hl')
    have e0 := ev_comp (fe := M (k + 3)) (al := false) (own := [1]) (elt := .call true 3 [(.var 1)]) (tg := .nm 1) (kk := .of) (i1 := .var 0) (i2 := .cst .non) (hc := false) (c := .cst .non) (e := [some (.tup ts), none]) (S := []) (S1 := []) (S2 := []) (x := .tup ts) (y := .non) rfl rfl rfl c
    have fl : ts.filter (fun _ => true) = ts := List.filter_eq_self.mpr (by simp)
    rw [fl, List.nil_append] at e0
    have b : bfnT .all [] [.lst (ts.map fun t => T.bl (f t))] = some (.val (.bl ((ts.map f).all id))) := by
      show (blsOf (ts.map fun t => T.bl (f t))).map (fun bs => NT.val (.bl (bs.all id))) = _
      rw [bls_map]
      rfl
    simp only [evE, evEs] at e0 ⊢
    rw [e0]
    show putN false [] (bfnT .all [] [.lst (ts.map fun t => T.bl (f t))]) = _
    rw [b]
    rfl
  have cn : ∀ (ks : List T) (n : Int) (c : COp), ks.all flat = true → ∀ k, M (k + 3) 4 [.tup ts, .tup ks] [] = .ok (.int ((ts.filter fun t => inT (hd t) ks).length : Nat)) [] := fun ks n c hk k => count (k := k + 2) hd0 hk hl'
  have c1 := cn [.str "sums", .str "gaps", .str "anew", .str "groups", .str "count"] 2 .gt rfl
  have c2 := cn [.str "anew", .str "keep", .str "turn"] 2 .gt rfl
  have c3 := cn [.str "twice"] 1 .le rfl
  generalize (ts.filter fun t => inT (hd t) [.str "sums", .str "gaps", .str "anew", .str "groups", .str "count"]).length = n1 at c1
  generalize (ts.filter fun t => inT (hd t) [.str "anew", .str "keep", .str "turn"]).length = n2 at c2
  generalize (ts.filter fun t => inT (hd t) [.str "twice"]).length = n3 at c3
  have l1 : (1 : Nat) ≤ lim := by decide
  refine t_ite (t_or ⟨_, fun k => rfl⟩ (t_or ⟨_, fun k => rfl⟩ (t_not ⟨_, ca⟩))) (fun _ => t_ret ⟨_, fun k => rfl⟩) fun _ => ?_
  refine t_ite (t_or ⟨decide ((2 : Int) < (n1 : Nat)), fun k => ?_⟩ ⟨decide ((2 : Int) < (n2 : Nat)), fun k => ?_⟩) (fun _ => t_ret ⟨_, fun k => rfl⟩) fun _ => t_ret ⟨decide (((n3 : Nat) : Int) ≤ 1), fun k => ?_⟩
  · simp [FC.start, d_is_chain, evE, evEs, FC.R.bind, callP, T.freeL, T.free, fr, c1, thaw, FC.ofO, cmpT, cmpI]
  · simp [FC.start, d_is_chain, evE, evEs, FC.R.bind, callP, T.freeL, T.free, fr, c2, thaw, FC.ofO, cmpT, cmpI]
  · simp [FC.start, d_is_chain, evE, evEs, FC.R.bind, callP, T.freeL, T.free, fr, c3, l1, thaw, FC.ofO, cmpT, cmpI]
end P21
end

section
set_option Elab.async false
set_option linter.all false
set_option maxRecDepth 100000
set_option maxHeartbeats 4000000
namespace P21
open FC PySem D21
/-! ### written -/
def strI (i : Int) : Str := Str.ofString (toString i)
theorem sp_eq : (" " : Str) = SX.S [32] := TL.ext_tl (by decide +kernel)
theorem bar_eq : (" | " : Str) = SX.S bar := TL.ext_tl (by decide +kernel)
def wordsOf (p : Gs) : List Str := p.1 :: p.2.map strI
def stepS (p : Gs) : Str := Txt.join " " (wordsOf p)
def W (ps : List Gs) : Str := Txt.join " | " (ps.map stepS)
/-- a small number's text -/
def chkI (i : Int) : Bool := decide ((strI i).length ≤ 2) && ((tl (strI i)).all fun c => decide (c < 124) && decide (c ≠ 32))
theorem chk_all : (List.range 19).all (fun n => chkI ((n : Int) - 9)) = true := by decide +kernel
theorem chk {i : Int} (h : -9 ≤ i ∧ i ≤ 9) : (strI i).length ≤ 2 ∧ ∀ c ∈ tl (strI i), c < 124 ∧ c ≠ 32 := by
  have m : (i + 9).toNat ∈ List.range 19 := List.mem_range.mpr (by omega)
  have c := List.all_eq_true.mp chk_all _ m
  rw [show (((i + 9).toNat : Nat) : Int) - 9 = i by omega] at c
  obtain ⟨c1, c2⟩ := Bool.and_eq_true_iff.mp c
  refine ⟨of_decide_eq_true c1, fun d hd => ?_⟩
  obtain ⟨d1, d2⟩ := Bool.and_eq_true_iff.mp (List.all_eq_true.mp c2 d hd)
  exact ⟨of_decide_eq_true d1, of_decide_eq_true d2⟩
structure Wf (p : Gs) : Prop where
  ok : okS p.1
  len : p.1.length ≤ 300
  many : p.2.length ≤ 301
  small : ∀ i ∈ p.2, -9 ≤ i ∧ i ≤ 9
theorem strs_of : ∀ ys : List Str, strsOf (ys.map .str) = some ys
  | [] => rfl
  | y :: ys => by
    show (strsOf (ys.map .str)).map (y :: ·) = _
    rw [strs_of ys]
    rfl
theorem join_at {S : Sto} {z : Str} {ys : List Str} (h : (ys.map (·.length)).sum + ys.length * z.length ≤ lim) : joinT S z (.lst (ys.map .str)) = some (.val (.str (Txt.join z ys))) := by
  unfold joinT
  rw [show (items S (.lst (ys.map .str))).bind strsOf = some ys from strs_of ys]
  show FC.guard (decide ((ys.map (·.length)).sum + ys.length * z.length ≤ lim)) _ = _
  rw [decide_eq_true h]
  rfl
theorem sum_le {ys : List Str} {b : Nat} (h : ∀ y ∈ ys, y.length ≤ b) : (ys.map (·.length)).sum ≤ ys.length * b := by
  induction ys with
  | nil => simp
  | cons y ys ih =>
    have h1 := h y List.mem_cons_self
    have h2 := ih fun z hz => h z (List.mem_cons_of_mem _ hz)
    simp only [List.map_cons, List.sum_cons, List.length_cons, Nat.add_mul, Nat.one_mul]
    omega
theorem words_len {p : Gs} (h : Wf p) : (wordsOf p).length ≤ 302 ∧ ∀ y ∈ wordsOf p, y.length ≤ 300 := by
  refine ⟨by have := h.many; simp [wordsOf]; omega, fun y hy => ?_⟩
  rcases List.mem_cons.mp hy with rfl | hy
  · exact h.len
  · obtain ⟨i, hi, rfl⟩ := List.mem_map.mp hy
    have := (chk (h.small i hi)).1
    omega
theorem join_len {y : Str} : ∀ ps : List Str, (Txt.join y ps).length ≤ (ps.map (·.length)).sum + ps.length * y.length := fun ps => by
  rw [TL.join_eq]
  exact StrLaws.join_length_le y ps
theorem sp_len : (" " : Str).length = 1 := by decide +kernel
theorem bar_len : (" | " : Str).length = 3 := by decide +kernel
theorem words_fit {p : Gs} (h : Wf p) : ((wordsOf p).map (·.length)).sum + (wordsOf p).length * (" " : Str).length ≤ 90902 := by
  obtain ⟨h1, h2⟩ := words_len h
  have := sum_le h2
  rw [sp_len]
  omega
/-- the sum is small: one long word, short numbers -/
theorem words_fit2 {p : Gs} (h : Wf p) : ((wordsOf p).map (·.length)).sum + (wordsOf p).length * (" " : Str).length ≤ 1204 := by
  have h2 : ∀ y ∈ p.2.map strI, y.length ≤ 2 := fun y hy => by
    obtain ⟨i, hi, rfl⟩ := List.mem_map.mp hy
    exact (chk (h.small i hi)).1
  have s := sum_le h2
  rw [List.length_map] at s
  have h3 := h.many
  have h4 := h.len
  rw [sp_len]
  simp only [wordsOf, List.map_cons, List.sum_cons, List.length_cons, List.length_map]
  omega
theorem step_len {p : Gs} (h : Wf p) : (stepS p).length ≤ 1204 := Nat.le_trans (join_len _) (words_fit2 h)
theorem steps_fit {ps : List Gs} (h : ∀ p ∈ ps, Wf p) (hl : ps.length ≤ 301) : ((ps.map stepS).map (·.length)).sum + (ps.map stepS).length * (" | " : Str).length ≤ 400000 := by
  have s := sum_le (ys := ps.map stepS) (b := 1204) fun y hy => by
    obtain ⟨p, hp, rfl⟩ := List.mem_map.mp hy
    exact step_len (h p hp)
  rw [bar_len]
  rw [List.length_map] at *
  omega
def strT : T → T
  | .int i => .str (strI i)
  | t => t
abbrev partE : E := .comp false [2] (.bfn .str false [(.var 2)]) (.nm 2) .of (.slc false (.var 1) true false (.cst (.int 1)) (.cst .non)) (.cst .non) false (.cst .non)
abbrev stepE : E := .met .join false (.cst (.str " ")) [(.bin .add false (.lst false [(.idx (.var 1) (.cst (.int 0)))]) partE)]
theorem str_num {S : Sto} {i : Int} (h : -9 ≤ i ∧ i ≤ 9) : bfnT .str S [.int i] = some (.val (.str (strI i))) := by
  have g : decide (i.natAbs.log2 < 1000) = true := by
    refine decide_eq_true ?_
    by_cases h0 : i.natAbs = 0
    · rw [h0]; decide
    · exact Nat.lt_trans ((Nat.log2_lt h0).mpr (show i.natAbs < 2 ^ 5 by omega)) (by decide)
  show FC.guard (decide (i.natAbs.log2 < 1000)) _ = _
  rw [g]
  rfl
theorem part {k : Nat} {p : Gs} (h : Wf p) {a0 a2 : Option T} : evE (M k) partE [a0, some (gT p), a2] [] = .ok (.lst ((p.2.map strI).map .str)) [] := by
  have c := compL_ok (cond := fun e S => (if false then evE (M k) (.cst .non) e S else .ok (.bl true) S : R T)) (elt := fun e S => evE (M k) (.bfn .str false [(.var 2)]) e S) (tg := .nm 2) (e := [a0, some (gT p), none]) (S := []) (fun t => true) strT (p.2.map .int) [] (fun t ht => ⟨_, rfl, rfl, fun _ => by
    obtain ⟨i, hi, rfl⟩ := List.mem_map.mp ht
    have e := str_num (S := []) (h.small i hi)
    simp [evE, evEs, FC.R.bind, e, putN, strT]⟩) (by
    have := h.many
    simp
    exact Nat.le_trans this (by decide))
  have i1 : evE (M k) (.slc false (.var 1) true false (.cst (.int 1)) (.cst .non)) [a0, some (gT p), a2] [] = .ok (.tup (p.2.map .int)) [] := by
    have e : slcT [] (gT p) (some 1) none = some (.val (.tup (p.2.map .int))) := t_cut
    simp [evE, FC.R.bind, FC.ofO, asIdx, e, putN]
  have e0 := ev_comp (fe := M k) (al := false) (own := [2]) (elt := .bfn .str false [(.var 2)]) (tg := .nm 2) (kk := .of) (i2 := .cst .non) (hc := false) (c := .cst .non) (e := [a0, some (gT p), a2]) (S2 := []) (y := .non) i1 rfl rfl c
  have fl : (p.2.map T.int).filter (fun _ => true) = p.2.map T.int := List.filter_eq_self.mpr (by simp)
  rw [e0, fl, List.nil_append, List.map_map, List.map_map]
  rfl
theorem ev_bin {fe : FEnv} {op : BOp} {al : Bool} {a b : E} {e : FC.Env} {S S1 S2 : Sto} {x y : T} {r : R T} (h1 : evE fe a e S = .ok x S1) (h2 : evE fe b e S1 = .ok y S2) (h3 : putN al S2 (binT op S2 x y) = r) : evE fe (.bin op al a b) e S = r := by
  simp [evE, FC.R.bind, h1, h2, h3]
theorem ev_bfn1 {fe : FEnv} {f : BFn} {al : Bool} {a : E} {e : FC.Env} {S S1 : Sto} {x : T} {r : R T} (h1 : evE fe a e S = .ok x S1) (h3 : putN al S1 (bfnT f S1 [x]) = r) : evE fe (.bfn f al [a]) e S = r := by
  simp [evE, evEs, FC.R.bind, h1, h3]
theorem ev_join {fe : FEnv} {z : Str} {a : E} {e : FC.Env} {S S1 : Sto} {x : T} {y : Str} (h1 : evE fe a e S = .ok x S1) (h3 : joinT S1 z x = some (.val (.str y))) : evE fe (.met .join false (.cst (.str z)) [a]) e S = .ok (.str y) S1 := by
  have h4 : bfnT .join S1 [.str z, x] = some (.val (.str y)) := h3
  have h5 : metOk .join S (.str z) = true := rfl
  simp [evE, evEs, FC.R.bind, h1, h4, h5, putN]
theorem step_w {k : Nat} {p : Gs} (h : Wf p) {a0 a2 : Option T} : evE (M k) stepE [a0, some (gT p), a2] [] = .ok (.str (stepS p)) [] := by
  refine ev_join (ev_bin (S1 := []) (S2 := []) (x := .lst [.str p.1]) (y := .lst ((p.2.map strI).map .str)) (r := .ok (.lst ((wordsOf p).map .str)) []) ?_ (part h) ?_) (join_at (Nat.le_trans (words_fit2 h) (by decide)))
  · have a0' : ixT [] (gT p) (.int 0) = some (.str p.1) := t_at0
    have l1 : (1 : Nat) ≤ lim := by decide
    simp [evE, evEs, FC.R.bind, FC.ofO, a0', l1, put]
  · have g : decide ([T.str p.1].length + ((p.2.map strI).map T.str).length ≤ lim) = true := by
      refine decide_eq_true ?_
      have := h.many
      simp
      exact Nat.le_trans (show 1 + p.2.length ≤ 302 by omega) (by decide)
    show putN false [] (FC.guard (decide ([T.str p.1].length + ((p.2.map strI).map T.str).length ≤ lim)) (.new ([T.str p.1] ++ (p.2.map strI).map T.str))) = _
    rw [g]
    rfl
def stepT : T → T
  | .tup (.str x :: r) => .str (stepS (x, r.map fun t => match t with | .int i => i | _ => 0))
  | t => t
theorem stepT_g (p : Gs) : stepT (gT p) = .str (stepS p) := by
  show T.str (stepS (p.1, (p.2.map T.int).map _)) = _
  rw [List.map_map]
  congr 2
  exact Prod.ext rfl (by simp [Function.comp_def])
theorem cs_rt {fe : FEnv} {n : Nat} {c : C} {cs : List C} {e : FC.Env} {S S1 : Sto} {t : T} (h : evC fe n c e S = .rt t S1) : evCs fe n (c :: cs) e S = .rt t S1 := by
  rw [cs_cons h]
  rfl
theorem cs_nx {fe : FEnv} {n : Nat} {c : C} {cs : List C} {e e1 : FC.Env} {S S1 : Sto} {o : O} (h : evC fe n c e S = .nx e1 S1) (h2 : evCs fe n cs e1 S1 = o) : evCs fe n (c :: cs) e S = o := by
  rw [cs_cons h]
  exact h2
theorem cs_exc {fe : FEnv} {n i : Nat} {c : C} {cs : List C} {e : FC.Env} {S S1 : Sto} (h : evC fe n c e S = .exc i S1) : evCs fe n (c :: cs) e S = .exc i S1 := by
  rw [cs_cons h]
  rfl
theorem c_ret {fe : FEnv} {n : Nat} {a : E} {e : FC.Env} {S S1 : Sto} {t : T} (h : evE fe a e S = .ok t S1) : evC fe n (.ret a) e S = .rt t S1 := by
  simp [evC, h, R.out]
theorem written {k : Nat} {ps : List Gs} (h : ∀ p ∈ ps, Wf p) (hl : ps.length ≤ 301) : M (k + 1) 14 [.tup (ps.map gT)] [] = .ok (.str (W ps)) [] := by
  rw [M_at (by decide) (d := d_written) rfl]
  refine run_rt rfl ?_
  have c := compL_ok (cond := fun e S => (if false then evE (M k) (.cst .non) e S else .ok (.bl true) S : R T)) (elt := fun e S => evE (M k) stepE e S) (tg := .nm 1) (e := [some (.tup (ps.map gT)), none, none]) (S := []) (fun t => true) stepT (ps.map gT) [] (fun t ht => ⟨_, rfl, rfl, fun _ => by
    obtain ⟨p, hp, rfl⟩ := List.mem_map.mp ht
    rw [stepT_g]
    exact step_w (h p hp)⟩) (by
    simp
    exact Nat.le_trans hl (by decide))
  have e0 := ev_comp (fe := M k) (al := false) (own := [1]) (elt := stepE) (tg := .nm 1) (kk := .of) (i1 := .var 0) (i2 := .cst .non) (hc := false) (c := .cst .non) (e := [some (.tup (ps.map gT)), none, none]) (S := []) (S1 := []) (S2 := []) (x := .tup (ps.map gT)) (y := .non) rfl rfl rfl c
  have fl : (ps.map gT).filter (fun _ => true) = ps.map gT := List.filter_eq_self.mpr (by simp)
  have mm : (ps.map gT).map stepT = (ps.map stepS).map .str := by
    rw [List.map_map, List.map_map]
    exact List.map_congr_left fun p _ => stepT_g p
  rw [fl, List.nil_append, mm] at e0
  exact cs_rt (c_ret (ev_join e0 (join_at (Nat.le_trans (steps_fit h hl) (by decide)))))
end P21
end

section
set_option Elab.async false
set_option linter.all false
set_option maxRecDepth 100000
set_option maxHeartbeats 4000000
namespace P21
open FC PySem D21
/-! ### a number is read -/
abbrev figs : Str := "0123456789"
def signS (w : Str) : Bool := decide (L2.cutS w none (some 1) = "-")
def digW (w : Str) : Str := if signS w then L2.cutS w (some 1) none else w
def inD (x : Str) : Bool := !(Builtin.Str.occurrences figs x 0 figs.length 1).isEmpty
def numW (w : Str) : Option Int := if (digW w).length = 1 ∧ inD (digW w) = true then (digitOf (digW w)).map fun d => d * (if signS w then -1 else 1) else none
theorem okS_lit : okS "-" ∧ okS figs ∧ okS "" := by
  refine ⟨?_, ?_, ?_⟩ <;> (unfold okS; decide +kernel)
theorem dig_ok {w : Str} (h : okS w) : okS (digW w) := by
  unfold digW
  split
  · exact okS_cut h _ _
  · exact h
theorem one_of {x : Str} (h : x.length = 1) : ∃ c, x = ⟨#[c]⟩ := by
  rw [TL.len_tl] at h
  obtain ⟨c, hc⟩ := List.length_eq_one_iff.mp h
  exact ⟨c, TL.ext_tl hc⟩
theorem digit_of {x : Str} (h : x.length = 1) (hd : inD x = true) : ∃ d : Int, digitOf x = some d ∧ 0 ≤ d ∧ d ≤ 9 := by
  obtain ⟨c, rfl⟩ := one_of h
  unfold inD at hd
  rw [PySem.StrLaws.found_one] at hd
  have m : c ∈ figs.cps.toList := of_decide_eq_true hd
  have all : ∀ c ∈ figs.cps.toList, 48 ≤ c ∧ c ≤ 57 := by decide +kernel
  obtain ⟨h1, h2⟩ := all c m
  refine ⟨(c : Int) - 48, ?_, by omega, by omega⟩
  show (if decide (48 ≤ c) && decide (c ≤ 57) then some ((c : Int) - 48) else none) = _
  rw [decide_eq_true h1, decide_eq_true h2]
  rfl
theorem numW_small {w : Str} {i : Int} (h : numW w = some i) : -9 ≤ i ∧ i ≤ 9 := by
  unfold numW at h
  split at h
  · rename_i c
    obtain ⟨d, e, h1, h2⟩ := digit_of c.1 c.2
    rw [e] at h
    injection h with h
    subst h
    show -9 ≤ d * (if signS w = true then -1 else 1) ∧ d * (if signS w = true then -1 else 1) ≤ 9
    split <;> omega
  · cases h
theorem slc_to {S : Sto} {w : Str} (h : w.length ≤ lim) {lo hi : Option Int} : slcT S (.str w) lo hi = some (.val (.str (L2.cutS w lo hi))) := by
  show FC.guard (decide (w.length ≤ lim)) _ = _
  rw [decide_eq_true h]
  rfl
abbrev sgE : E := .cmp .eq (.slc false (.var 0) false true (.cst .non) (.cst (.int 1))) (.cst (.str "-"))
theorem sg {k : Nat} {w : Str} {a1 : Option T} (h : okS w) (hl : w.length ≤ lim) : evE (M k) sgE [some (.str w), a1] [] = .ok (.bl (signS w)) [] := by
  have e := str_eq (S := []) (okS_cut h none (some 1)) okS_lit.1
  have s := slc_to (S := []) hl (lo := none) (hi := some 1)
  simp [sgE, evE, FC.R.bind, FC.ofO, asIdx, s, putN, cmpT, e, signS]
theorem len_s {S : Sto} {x : Str} (h : x.length ≤ lim) : bfnT .len S [.str x] = some (.val (.int (x.length : Nat))) := by
  show vI (if decide (x.length ≤ lim) then some (x.length : Int) else none) = _
  rw [decide_eq_true h]
  rfl
theorem c_asg {fe : FEnv} {n i : Nat} {a : E} {e : FC.Env} {S S1 : Sto} {t : T} (h : evE fe a e S = .ok t S1) : evC fe n (.asg (.name i) a) e S = .nx (e.set i (some t)) S1 := by
  simp [evC, h, R.out, asg_name]
theorem number_body : d_number_of.body = [.asg (.name 1) (.ite sgE (.slc false (.var 0) true false (.cst (.int 1)) (.cst .non)) (.var 0)), .ite (.or (.cmp .ne (.bfn .len false [(.var 1)]) (.cst (.int 1))) (.cmp .notin (.var 1) (.cst (.str figs)))) [.raise 3] [], .ret (.bin .mul false (.bfn .int false [(.var 1)]) (.ite sgE (.neg (.cst (.int 1))) (.cst (.int 1))))] := rfl
theorem number {k : Nat} {w : Str} (h : okS w) (hl : w.length ≤ 10000) : M (k + 1) 15 [.str w] [] = match numW w with | some i => .ok (.int i) [] | none => .exc 3 [] := by
  have hl' : w.length ≤ lim := Nat.le_trans hl (by decide)
  have hdl : (digW w).length ≤ lim := by
    unfold digW
    split
    · exact Nat.le_trans (L2.cutS_length _ _ _) hl'
    · exact hl'
  rw [M_at (by decide) (d := d_number_of) rfl]
  have q1 : evC (M k) fuel (.asg (.name 1) (.ite sgE (.slc false (.var 0) true false (.cst (.int 1)) (.cst .non)) (.var 0))) [some (.str w), none] [] = .nx [some (.str w), some (.str (digW w))] [] := by
    refine c_asg (i := 1) (t := .str (digW w)) ?_
    have s := slc_to (S := []) hl' (lo := some 1) (hi := none)
    rw [evE, sg h hl']
    unfold digW
    cases signS w
    · rfl
    · simp [evE, FC.R.bind, FC.ofO, asIdx, s, putN]
  have ln := len_s (S := []) hdl
  have c1 : evE (M k) (.cmp .ne (.bfn .len false [(.var 1)]) (.cst (.int 1))) [some (.str w), some (.str (digW w))] [] = .ok (.bl (!decide (((digW w).length : Int) = 1))) [] := by
    simp [evE, evEs, FC.R.bind, FC.ofO, ln, putN, cmpT, e_int]
  have c2 : evE (M k) (.cmp .notin (.var 1) (.cst (.str figs))) [some (.str w), some (.str (digW w))] [] = .ok (.bl (!inD (digW w))) [] := rfl
  have run : ∀ o, evCs (M k) fuel d_number_of.body [some (.str w), none] [] = o → runFd (M k) fuel d_number_of [.str w] [] = (match o with | .nx _ S' => R.ok T.non S' | .rt t S' => .ok t S' | .exc c S' => .exc c S' | .bad => .bad) := fun o ho => by
    rw [← ho]
    rfl
  rw [number_body] at run
  unfold numW
  by_cases hd : (digW w).length = 1 ∧ inD (digW w) = true
  · rw [if_pos hd]
    obtain ⟨d, e, d0, d9⟩ := digit_of hd.1 hd.2
    rw [hd.1] at c1
    rw [hd.2] at c2
    have q2 : evE (M k) (.or (.cmp .ne (.bfn .len false [(.var 1)]) (.cst (.int 1))) (.cmp .notin (.var 1) (.cst (.str figs)))) [some (.str w), some (.str (digW w))] [] = .ok (.bl false) [] := ev_or0 c1 c2
    have it : bfnT .int [] [.str (digW w)] = some (.val (.int d)) := by
      show vI (digitOf (digW w)) = _
      rw [e]
      rfl
    have g2 : evE (M k) (.ite sgE (.neg (.cst (.int 1))) (.cst (.int 1))) [some (.str w), some (.str (digW w))] [] = .ok (.int (if signS w then -1 else 1)) [] := by
      rw [evE, sg h hl']
      cases signS w <;> rfl
    have m : mulOk d (if signS w then -1 else 1) = true := mulOk_right (by split <;> decide)
    have q3 : evE (M k) (.bin .mul false (.bfn .int false [(.var 1)]) (.ite sgE (.neg (.cst (.int 1))) (.cst (.int 1)))) [some (.str w), some (.str (digW w))] [] = .ok (.int (d * (if signS w then -1 else 1))) [] := by
      refine ev_bin (ev_bfn1 (S1 := []) (x := .str (digW w)) (r := .ok (.int d) []) rfl (by rw [it]; rfl)) g2 ?_
      show putN false [] (FC.guard (mulOk d (if signS w then -1 else 1)) _) = _
      rw [m]
      rfl
    rw [run _ (cs_nx q1 (cs_nx (by rw [c_ite (v := false) q2]; rfl) (cs_rt (c_ret q3)))), e]
    rfl
  · rw [if_neg hd]
    have q2 : evE (M k) (.or (.cmp .ne (.bfn .len false [(.var 1)]) (.cst (.int 1))) (.cmp .notin (.var 1) (.cst (.str figs)))) [some (.str w), some (.str (digW w))] [] = .ok (.bl true) [] := by
      by_cases h1 : (digW w).length = 1
      · have h2 : inD (digW w) = false := by
          cases hh : inD (digW w) with
          | false => rfl
          | true => exact absurd ⟨h1, hh⟩ hd
        rw [h1] at c1
        rw [h2] at c2
        exact ev_or0 c1 c2
      · rw [decide_eq_false (show ¬ (((digW w).length : Nat) : Int) = 1 by omega)] at c1
        exact ev_or1 c1
    rw [run _ (cs_nx q1 (cs_exc (i := 3) (S1 := []) (by rw [c_ite (v := true) q2]; rfl)))]
end P21
end

section
set_option Elab.async false
set_option linter.all false
set_option maxRecDepth 100000
set_option maxHeartbeats 4000000
namespace P21
open FC PySem D21
/-! ### a step is read -/
def omap {α β : Type} (f : α → Option β) : List α → Option (List β)
  | [] => some []
  | a :: r => match f a with
    | some b => (omap f r).map (b :: ·)
    | none => none
theorem omap_map {α β γ δ : Type} (f : α → Option β) (g : γ → Option δ) (u : γ → α) (v : δ → β) (h : ∀ c, f (u c) = (g c).map v) : ∀ cs : List γ, omap f (cs.map u) = (omap g cs).map (·.map v)
  | [] => rfl
  | c :: cs => by
    show (match f (u c) with | some b => (omap f (cs.map u)).map (b :: ·) | none => none) = _
    rw [h c, omap_map f g u v h cs]
    cases e : g c with
    | none => simp [omap, e]
    | some d => cases e2 : omap g cs <;> simp [omap, e, e2]
theorem omap_len {α β : Type} {f : α → Option β} : ∀ {as : List α} {bs : List β}, omap f as = some bs → bs.length = as.length
  | [], bs, h => by cases h; rfl
  | a :: as, bs, h => by
    unfold omap at h
    split at h
    · cases e : omap f as with
      | none => rw [e] at h; cases h
      | some cs =>
        rw [e] at h
        cases h
        simp [omap_len e]
    · cases h
theorem omap_mem {α β : Type} {f : α → Option β} : ∀ {as : List α} {bs : List β}, omap f as = some bs → ∀ b ∈ bs, ∃ a ∈ as, f a = some b
  | [], bs, h, b, hb => by cases h; simp at hb
  | a :: as, bs, h, b, hb => by
    unfold omap at h
    split at h
    · rename_i d hd
      cases e : omap f as with
      | none => rw [e] at h; cases h
      | some cs =>
        rw [e] at h
        cases h
        rcases List.mem_cons.mp hb with rfl | hb
        · exact ⟨a, List.mem_cons_self, hd⟩
        · obtain ⟨x, h1, h2⟩ := omap_mem e b hb
          exact ⟨x, List.mem_cons_of_mem _ h1, h2⟩
    · cases h
theorem omap_all {α β : Type} {f : α → Option β} {g : β → α} : ∀ {bs : List β}, (∀ b ∈ bs, f (g b) = some b) → omap f (bs.map g) = some bs
  | [], _ => rfl
  | b :: bs, h => by
    show (match f (g b) with | some c => (omap f (bs.map g)).map (c :: ·) | none => none) = _
    rw [h b List.mem_cons_self, omap_all fun c hc => h c (List.mem_cons_of_mem _ hc)]
    rfl
theorem compL_one {cond elt : FC.Env → Sto → R T} {tg : P} {e e' : FC.Env} {t y : T} {ts acc : List T} {S S2 : Sto} (hb : bindT tg t e = some e') (hc : cond e' S = .ok (.bl true) S) (he : elt e' S = .ok y S2) (hl : acc.length < lim) : compL cond elt tg e (t :: ts) acc S = compL cond elt tg e ts (acc ++ [y]) S2 := by
  simp [compL, hb, hc, he, FC.R.bind, hl]
theorem compL_opt {cond elt : FC.Env → Sto → R T} {tg : P} {e : FC.Env} {S : Sto} {c : Nat} (f : T → Option T) : ∀ (ts acc : List T), (∀ t ∈ ts, ∃ e', bindT tg t e = some e' ∧ cond e' S = .ok (.bl true) S ∧ elt e' S = (match f t with | some y => .ok y S | none => .exc c S)) → acc.length + ts.length ≤ lim →
    compL cond elt tg e ts acc S = match omap f ts with | some ys => .ok (acc ++ ys) S | none => .exc c S
  | [], acc, _, _ => by simp [compL, omap]
  | t :: ts, acc, h, hl => by
    obtain ⟨e', h1, h2, h3⟩ := h t List.mem_cons_self
    have hl' : acc.length + (ts.length + 1) ≤ lim := hl
    cases hf : f t with
    | none =>
      rw [hf] at h3
      have : compL cond elt tg e (t :: ts) acc S = .exc c S := by simp [compL, h1, h2, h3, FC.R.bind]
      rw [this]
      simp [omap, hf]
    | some y =>
      rw [hf] at h3
      rw [compL_one h1 h2 h3 (by omega), compL_opt f ts (acc ++ [y]) (fun t ht => h t (List.mem_cons_of_mem _ ht)) (by simp; omega)]
      cases e2 : omap f ts <;> simp [omap, hf, e2]
theorem ev_comp_exc {fe : FEnv} {al : Bool} {own : List Nat} {elt i1 i2 c : E} {tg : P} {kk : ItK} {hc : Bool} {e : FC.Env} {S S1 S2 S3 : Sto} {x y : T} {xs : List T} {i : Nat} (h1 : evE fe i1 e S = .ok x S1) (h2 : evE fe i2 e S1 = .ok y S2) (h3 : itT kk S2 x y = some xs)
    (h4 : compL (fun e S => if hc then evE fe c e S else .ok (.bl true) S) (fun e S => evE fe elt e S) tg (wipeE e own) xs [] S2 = .exc i S3) : evE fe (.comp al own elt tg kk i1 i2 hc c) e S = .exc i S3 := by
  rw [evE, h1]
  show (evE fe i2 e S1).bind _ = _
  rw [h2]
  show (match itT kk S2 x y with | none => R.bad | some xs => _) = _
  rw [h3]
  show (compL _ _ _ _ _ _ _).bind _ = _
  rw [h4]
  rfl
theorem ev_bfn1_exc {fe : FEnv} {f : BFn} {al : Bool} {a : E} {e : FC.Env} {S S1 : Sto} {i : Nat} (h1 : evE fe a e S = .exc i S1) : evE fe (.bfn f al [a]) e S = .exc i S1 := by
  simp [evE, evEs, FC.R.bind, h1]
theorem ev_bin_exc {fe : FEnv} {op : BOp} {al : Bool} {a b : E} {e : FC.Env} {S S1 S2 : Sto} {x : T} {i : Nat} (h1 : evE fe a e S = .ok x S1) (h2 : evE fe b e S1 = .exc i S2) : evE fe (.bin op al a b) e S = .exc i S2 := by
  simp [evE, FC.R.bind, h1, h2]
theorem at0 {α : Type} {a : α} {r : List α} : L2.atI (a :: r) 0 = some a := by
  unfold L2.atI L2.ixN
  rw [if_pos (by decide), if_pos (by simp only [List.length_cons]; omega)]
  rfl
theorem cut1 {α : Type} {a : α} {r : List α} : cutT (a :: r) (some 1) none = r := by
  unfold cutT
  have e1 : HT.sIx (a :: r).length 0 (some 1) = 1 := by
    unfold HT.sIx
    simp
  have e2 : HT.sIx (a :: r).length (a :: r).length none = r.length + 1 := rfl
  rw [e1, e2]
  simp
def stepW (z : Str) : Option Gs := match Txt.split z " " with
  | [] => none
  | x :: r => (omap numW r).map fun is => (x, is)
def numT : T → Option T
  | .str w => (numW w).map .int
  | _ => none
theorem ev_split {fe : FEnv} {y z : Str} {i : Nat} {e : FC.Env} {S : Sto} (h : e[i]? = some (some (.str z))) (hy : (y.length == 0) = false) (hl : z.length + 2 ≤ lim) : evE fe (.met .split false (.var i) [.cst (.str y)]) e S = .ok (.lst ((Txt.split z y).map .str)) S := by
  have h4 : bfnT .split S [.str z, .str y] = some (.new ((Txt.split z y).map .str)) := by
    show FC.guard (!(y.length == 0) && decide (z.length + 2 ≤ lim)) _ = _
    rw [hy, decide_eq_true hl]
    rfl
  have h5 : metOk .split S (.str z) = true := rfl
  simp [evE, evEs, FC.R.bind, h, h4, h5, putN, put]
abbrev numsE : E := .comp false [2] (.call true 15 [(.var 2)]) (.nm 2) .of (.slc false (.var 1) true false (.cst (.int 1)) (.cst .non)) (.cst .non) false (.cst .non)
theorem step_body : d_step_of.body = [.asg (.name 1) (.met .split false (.var 0) [.cst (.str " ")]), .ret (.bin .add false (.tup [(.idx (.var 1) (.cst (.int 0)))]) (.bfn .tuple false [numsE]))] := rfl
theorem step_of {k : Nat} {z : Str} (h : okS z) (hl : z.length ≤ 10000) : M (k + 2) 16 [.str z] [] = match stepW z with | some p => .ok (gT p) [] | none => .exc 3 [] := by
  have hsp : Txt.split z " " ≠ [] := by rw [sp_eq]; exact split_ne (by decide) (by decide)
  have hok : ∀ p ∈ Txt.split z " ", okS p ∧ p.length ≤ 10000 := fun p hp => by
    rw [sp_eq] at hp
    exact ⟨split_app (by decide) (by decide) h hp, Nat.le_trans (split_short (by decide) (by decide) hp) hl⟩
  have hln : (Txt.split z " ").length ≤ 10001 := by
    rw [sp_eq]
    exact Nat.le_trans (split_len (by decide) (by decide)) (by omega)
  have hlim : lim = 16777216 := rfl
  rw [M_at (k := k + 1) (by decide) (d := d_step_of) rfl]
  have q1 : evC (M (k + 1)) fuel (.asg (.name 1) (.met .split false (.var 0) [.cst (.str " ")])) [some (.str z), none, none] [] = .nx [some (.str z), some (.lst ((Txt.split z " ").map .str)), none] [] :=
    c_asg (i := 1) (ev_split (i := 0) rfl (by decide +kernel) (Nat.le_trans (show z.length + 2 ≤ 10002 by omega) (by decide)))
  unfold stepW
  cases hs : Txt.split z " " with
  | nil => exact absurd hs hsp
  | cons x r =>
    rw [hs] at q1 hok hln
    have c := compL_opt (cond := fun e S => (if false then evE (M (k + 1)) (.cst .non) e S else .ok (.bl true) S : R T)) (elt := fun e S => evE (M (k + 1)) (.call true 15 [(.var 2)]) e S) (tg := .nm 2) (e := [some (.str z), some (.lst ((x :: r).map .str)), none]) (S := []) (c := 3) numT (r.map .str) [] (fun t ht => ⟨_, rfl, rfl, by
      obtain ⟨w, hw, rfl⟩ := List.mem_map.mp ht
      have n := number (k := k) (hok w (List.mem_cons_of_mem _ hw)).1 (hok w (List.mem_cons_of_mem _ hw)).2
      cases e : numW w with
      | none =>
        rw [e] at n
        simp [evE, evEs, FC.R.bind, callP, T.freeL, T.free, n, numT, e]
      | some i =>
        rw [e] at n
        simp [evE, evEs, FC.R.bind, callP, T.freeL, T.free, n, numT, e, thaw, FC.ofO]⟩) (by
      simp at hln ⊢
      omega)
    rw [omap_map numT numW .str .int (fun _ => rfl)] at c
    have i1 : evE (M (k + 1)) (.slc false (.var 1) true false (.cst (.int 1)) (.cst .non)) [some (.str z), some (.lst ((x :: r).map .str)), none] [] = .ok (.lst (r.map .str)) [] := by
      have e : slcT [] (.lst ((x :: r).map .str)) (some 1) none = some (.new (r.map .str)) := by
        show some (NT.new (cutT (T.str x :: r.map .str) (some 1) none)) = _
        rw [cut1]
      generalize (x :: r).map T.str = q at e ⊢
      simp [evE, FC.R.bind, FC.ofO, asIdx, e, putN, put]
    have i0 : evE (M (k + 1)) (.tup [(.idx (.var 1) (.cst (.int 0)))]) [some (.str z), some (.lst ((x :: r).map .str)), none] [] = .ok (.tup [.str x]) [] := by
      have e : ixT [] (.lst ((x :: r).map .str)) (.int 0) = some (.str x) := at0
      have l1 : (1 : Nat) ≤ lim := by decide
      generalize (x :: r).map T.str = q at e ⊢
      simp [evE, evEs, FC.R.bind, FC.ofO, e, l1]
    have run : ∀ o, evCs (M (k + 1)) fuel d_step_of.body [some (.str z), none, none] [] = o → runFd (M (k + 1)) fuel d_step_of [.str z] [] = (match o with | .nx _ S' => R.ok T.non S' | .rt t S' => .ok t S' | .exc c S' => .exc c S' | .bad => .bad) := fun o ho => by
      rw [← ho]
      rfl
    rw [step_body] at run
    cases hm : omap numW r with
    | none =>
      rw [hm] at c
      have e0 := ev_comp_exc (fe := M (k + 1)) (al := false) (own := [2]) (elt := .call true 15 [(.var 2)]) (tg := .nm 2) (kk := .of) (i2 := .cst .non) (hc := false) (c := .cst .non) (e := [some (.str z), some (.lst ((x :: r).map .str)), none]) (S2 := []) (y := .non) i1 rfl rfl c
      have e1 := ev_bin_exc (op := .add) (al := false) i0 (ev_bfn1_exc (f := .tuple) (al := false) e0)
      rw [run _ (cs_nx q1 (cs_exc (i := 3) (S1 := []) (by rw [evC, e1]; rfl)))]
      show _ = (match Option.map (fun is => (x, is)) (omap numW r) with | some p => R.ok (gT p) [] | none => .exc 3 [])
      rw [hm]
      rfl
    | some is =>
      rw [hm] at c
      have e0 := ev_comp (fe := M (k + 1)) (al := false) (own := [2]) (elt := .call true 15 [(.var 2)]) (tg := .nm 2) (kk := .of) (i2 := .cst .non) (hc := false) (c := .cst .non) (e := [some (.str z), some (.lst ((x :: r).map .str)), none]) (S2 := []) (y := .non) i1 rfl rfl c
      have lis := omap_len hm
      have g : decide ([T.str x].length + (is.map T.int).length ≤ lim) = true := decide_eq_true (by simp at hln ⊢; omega)
      have e1 : evE (M (k + 1)) (.bin .add false (.tup [(.idx (.var 1) (.cst (.int 0)))]) (.bfn .tuple false [numsE])) [some (.str z), some (.lst ((x :: r).map .str)), none] [] = .ok (gT (x, is)) [] := by
        refine ev_bin i0 (ev_bfn1 (r := .ok (.tup (is.map .int)) []) e0 rfl) ?_
        show putN false [] (FC.guard (decide ([T.str x].length + (is.map T.int).length ≤ lim)) (.val (.tup ([T.str x] ++ is.map T.int)))) = _
        rw [g]
        rfl
      rw [run _ (cs_nx q1 (cs_rt (c_ret e1)))]
      show _ = (match Option.map (fun is => (x, is)) (omap numW r) with | some p => R.ok (gT p) [] | none => .exc 3 [])
      rw [hm]
      rfl
end P21
end

section
set_option Elab.async false
set_option linter.all false
set_option maxRecDepth 100000
set_option maxHeartbeats 4000000
namespace P21
open FC PySem D21
/-! ### a text is read -/
def parseW (z : Str) : Option (List Gs) := if z = "" then some [] else omap stepW (Txt.split z " | ")
def stpT : T → Option T
  | .str w => (stepW w).map gT
  | _ => none
abbrev foundE : E := .ite (.cmp .eq (.var 0) (.cst (.str ""))) (.tup []) (.bfn .tuple false [(.comp false [2] (.call true 16 [(.var 2)]) (.nm 2) .of (.met .split false (.var 0) [(.cst (.str " | "))]) (.cst .non) false (.cst .non))])
theorem found {k : Nat} {z : Str} (h : okS z) (hl : z.length ≤ 10000) : evE (M (k + 2)) foundE [some (.str z), none, none] [] = match parseW z with | some ps => .ok (.tup (ps.map gT)) [] | none => .exc 3 [] := by
  have eq := str_eq (S := []) h okS_lit.2.2
  have c0 : evE (M (k + 2)) (.cmp .eq (.var 0) (.cst (.str ""))) [some (.str z), none, none] [] = .ok (.bl (decide (z = ""))) [] := by
    simp [evE, FC.R.bind, cmpT, eq, FC.ofO]
  rw [evE, c0]
  unfold parseW
  by_cases hz : z = ""
  · rw [if_pos hz, decide_eq_true hz]
    rfl
  · rw [if_neg hz, decide_eq_false hz]
    show evE (M (k + 2)) (.bfn .tuple false [(.comp false [2] (.call true 16 [(.var 2)]) (.nm 2) .of (.met .split false (.var 0) [(.cst (.str " | "))]) (.cst .non) false (.cst .non))]) [some (.str z), none, none] [] = _
    have hok : ∀ p ∈ Txt.split z " | ", okS p ∧ p.length ≤ 10000 := fun p hp => by
      rw [bar_eq] at hp
      exact ⟨split_app (by decide) (by decide) h hp, Nat.le_trans (split_short (by decide) (by decide) hp) hl⟩
    have hln : (Txt.split z " | ").length ≤ 10001 := by
      rw [bar_eq]
      exact Nat.le_trans (split_len (by decide) (by decide)) (by omega)
    have hlim : lim = 16777216 := rfl
    have i1 : evE (M (k + 2)) (.met .split false (.var 0) [(.cst (.str " | "))]) [some (.str z), none, none] [] = .ok (.lst ((Txt.split z " | ").map .str)) [] :=
      ev_split (i := 0) rfl (by decide +kernel) (Nat.le_trans (show z.length + 2 ≤ 10002 by omega) (by decide))
    generalize Txt.split z " | " = ws at *
    have c := compL_opt (cond := fun e S => (if false then evE (M (k + 2)) (.cst .non) e S else .ok (.bl true) S : R T)) (elt := fun e S => evE (M (k + 2)) (.call true 16 [(.var 2)]) e S) (tg := .nm 2) (e := [some (.str z), none, none]) (S := []) (c := 3) stpT (ws.map .str) [] (fun t ht => ⟨_, rfl, rfl, by
      obtain ⟨w, hw, rfl⟩ := List.mem_map.mp ht
      have n := step_of (k := k) (hok w hw).1 (hok w hw).2
      cases e : stepW w with
      | none =>
        rw [e] at n
        simp [evE, evEs, FC.R.bind, callP, T.freeL, T.free, n, stpT, e]
      | some p =>
        rw [e] at n
        have th : thaw [] (gT p) = some (gT p) := by
          show (thaw.thawL [] (.str p.1 :: p.2.map .int)).map T.tup = _
          have e : ∀ is : List Int, thaw.thawL [] (is.map .int) = some (is.map .int) := fun is => by
            induction is with
            | nil => rfl
            | cons i is ih => 
              show (thaw.thawL [] (is.map .int)).map (T.int i :: ·) = _
              rw [ih]
              rfl
          show ((thaw.thawL [] (p.2.map .int)).map (T.str p.1 :: ·)).map T.tup = _
          rw [e]
          rfl
        simp [evE, evEs, FC.R.bind, callP, T.freeL, T.free, n, stpT, e, th, FC.ofO]⟩) (by
      simp
      omega)
    rw [omap_map stpT stepW .str gT (fun _ => rfl)] at c
    cases hm : omap stepW ws with
    | none =>
      rw [hm] at c
      have e0 := ev_comp_exc (fe := M (k + 2)) (al := false) (own := [2]) (elt := .call true 16 [(.var 2)]) (tg := .nm 2) (kk := .of) (i2 := .cst .non) (hc := false) (c := .cst .non) (e := [some (.str z), none, none]) (S2 := []) (y := .non) i1 rfl rfl c
      exact ev_bfn1_exc e0
    | some ps =>
      rw [hm] at c
      have e0 := ev_comp (fe := M (k + 2)) (al := false) (own := [2]) (elt := .call true 16 [(.var 2)]) (tg := .nm 2) (kk := .of) (i2 := .cst .non) (hc := false) (c := .cst .non) (e := [some (.str z), none, none]) (S2 := []) (y := .non) i1 rfl rfl c
      exact ev_bfn1 e0 rfl
theorem parse_wf {z : Str} (h : okS z) (hl : z.length ≤ 300) {ps : List Gs} (e : parseW z = some ps) : (∀ p ∈ ps, Wf p) ∧ ps.length ≤ 301 := by
  unfold parseW at e
  split at e
  · cases e
    exact ⟨fun p hp => by simp at hp, by simp⟩
  · constructor
    · intro p hp
      obtain ⟨w, hw, e2⟩ := omap_mem e p hp
      rw [bar_eq] at hw
      have wl := Nat.le_trans (split_short (by decide) (by decide) hw) hl
      have wo := split_app (by decide) (by decide) h hw
      unfold stepW at e2
      split at e2
      · cases e2
      · rename_i x r hs
        cases hm : omap numW r with
        | none => rw [hm] at e2; cases e2
        | some is =>
          rw [hm] at e2
          cases e2
          have mem : ∀ y ∈ x :: r, okS y ∧ y.length ≤ 300 := fun y hy => by
            rw [← hs, sp_eq] at hy
            exact ⟨split_app (by decide) (by decide) wo hy, Nat.le_trans (split_short (by decide) (by decide) hy) wl⟩
          have ln : (x :: r).length ≤ 301 := by
            rw [← hs, sp_eq]
            exact Nat.le_trans (split_len (by decide) (by decide)) (by omega)
          refine ⟨(mem x List.mem_cons_self).1, (mem x List.mem_cons_self).2, ?_, fun i hi => ?_⟩
          · rw [omap_len hm]
            simp at ln
            omega
          · obtain ⟨w2, _, e3⟩ := omap_mem hm i hi
            exact numW_small e3
    · rw [omap_len e, bar_eq]
      exact Nat.le_trans (split_len (by decide) (by decide)) (by omega)
theorem parse_body : d_parse_chain.body = [.ite (.not (.isi .str (.var 0))) [.raise 3] [], .asg (.name 1) foundE, .ite (.or (.not (.call true 5 [(.var 1)])) (.cmp .ne (.call true 14 [(.var 1)]) (.var 0))) [.raise 3] [], .ret (.var 1)] := rfl
theorem W_ok {ps : List Gs} (h : ∀ p ∈ ps, Wf p) : okS (W ps) := by
  have s1 : okS " " := by unfold okS; decide +kernel
  have s2 : okS " | " := by unfold okS; decide +kernel
  refine okS_join s2 _ fun y hy => ?_
  obtain ⟨p, hp, rfl⟩ := List.mem_map.mp hy
  refine okS_join s1 _ fun w hw => ?_
  rcases List.mem_cons.mp hw with rfl | hw
  · exact (h p hp).ok
  · obtain ⟨i, hi, rfl⟩ := List.mem_map.mp hw
    exact fun c hc => by
      have := ((chk ((h p hp).small i hi)).2 c hc).1
      omega
theorem parse {z : Str} (h : okS z) (hl : z.length ≤ 300) : ∃ o : Option (List Gs), (∀ k, M (k + 5) 17 [.str z] [] = match o with | some ps => .ok (.tup (ps.map gT)) [] | none => .exc 3 []) ∧
    (∀ ps, o = some ps → parseW z = some ps ∧ W ps = z ∧ ∀ k, M (k + 4) 5 [.tup (ps.map gT)] [] = .ok (.bl true) []) ∧
    (∀ ps, parseW z = some ps → W ps = z → (∀ k, M (k + 4) 5 [.tup (ps.map gT)] [] = .ok (.bl true) []) → o = some ps) := by
  have run : ∀ k o, evCs (M (k + 4)) fuel d_parse_chain.body [some (.str z), none, none] [] = o → M (k + 5) 17 [.str z] [] = (match o with | .nx _ S' => R.ok T.non S' | .rt t S' => .ok t S' | .exc c S' => .exc c S' | .bad => .bad) := fun k o ho => by
    rw [M_at (k := k + 4) (by decide) (d := d_parse_chain) rfl, ← ho]
    rfl
  rw [parse_body] at run
  have q0 : ∀ k, evC (M (k + 4)) fuel (.ite (.not (.isi .str (.var 0))) [.raise 3] []) [some (.str z), none, none] [] = .nx [some (.str z), none, none] [] := fun k => rfl
  have fd := fun k => found (k := k + 2) h (Nat.le_trans hl (by decide))
  cases hp : parseW z with
  | none =>
    rw [hp] at fd
    refine ⟨none, fun k => ?_, fun ps e => (by cases e), fun ps e => (by cases e)⟩
    rw [run k _ (cs_nx (q0 k) (cs_exc (i := 3) (S1 := []) (by rw [evC, fd k]; rfl)))]
  | some ps =>
    rw [hp] at fd
    obtain ⟨wf, ln⟩ := parse_wf h hl hp
    obtain ⟨b, hb⟩ := is_chain_g (ps := ps) (fun p h => (wf p h).ok) (Nat.le_trans ln (by decide))
    have hb : ∀ k, M (k + 4) 5 [.tup (ps.map gT)] [] = .ok (.bl b) [] := hb
    have q1 : ∀ k, evC (M (k + 4)) fuel (.asg (.name 1) foundE) [some (.str z), none, none] [] = .nx [some (.str z), some (.tup (ps.map gT)), none] [] := fun k => c_asg (i := 1) (fd k)
    have fr : T.freeL [.tup (ps.map gT)] = true := by simp [T.freeL, T.free, gTs_free]
    have c1 : ∀ k, evE (M (k + 4)) (.not (.call true 5 [(.var 1)])) [some (.str z), some (.tup (ps.map gT)), none] [] = .ok (.bl (!b)) [] := fun k => by
      refine ev_not ?_
      simp [evE, evEs, FC.R.bind, callP, fr, hb, thaw, FC.ofO]
    have wr := fun k => written (k := k + 3) wf ln
    have eq := str_eq (S := []) (W_ok wf) h
    have c2 : ∀ k, evE (M (k + 4)) (.cmp .ne (.call true 14 [(.var 1)]) (.var 0)) [some (.str z), some (.tup (ps.map gT)), none] [] = .ok (.bl (!decide (W ps = z))) [] := fun k => by
      have w : M (k + 4) 14 [.tup (ps.map gT)] [] = .ok (.str (W ps)) [] := wr k
      simp [evE, evEs, FC.R.bind, callP, fr, w, thaw, FC.ofO, cmpT, eq]
    by_cases good : b = true ∧ W ps = z
    · obtain ⟨rfl, hw⟩ := good
      rw [decide_eq_true hw] at c2
      have q2 : ∀ k, evE (M (k + 4)) (.or (.not (.call true 5 [(.var 1)])) (.cmp .ne (.call true 14 [(.var 1)]) (.var 0))) [some (.str z), some (.tup (ps.map gT)), none] [] = .ok (.bl false) [] := fun k => ev_or0 (c1 k) (c2 k)
      refine ⟨some ps, fun k => ?_, fun qs e => (by cases e; exact ⟨rfl, hw, hb⟩), fun qs e _ _ => (by cases e; rfl)⟩
      rw [run k _ (cs_nx (q0 k) (cs_nx (q1 k) (cs_nx (by rw [c_ite (v := false) (q2 k)]; rfl) (cs_rt (t := .tup (ps.map gT)) (S1 := []) rfl))))]
    · have q2 : ∀ k, evE (M (k + 4)) (.or (.not (.call true 5 [(.var 1)])) (.cmp .ne (.call true 14 [(.var 1)]) (.var 0))) [some (.str z), some (.tup (ps.map gT)), none] [] = .ok (.bl true) [] := fun k => by
        cases b with
        | false => exact ev_or1 (c1 k)
        | true =>
          have hw : ¬ W ps = z := fun e => good ⟨rfl, e⟩
          have c2 := c2 k
          rw [decide_eq_false hw] at c2
          exact ev_or0 (c1 k) c2
      refine ⟨none, fun k => ?_, fun qs e => (by cases e), fun qs e hw hc => ?_⟩
      · rw [run k _ (cs_nx (q0 k) (cs_nx (q1 k) (cs_exc (i := 3) (S1 := []) (by rw [c_ite (v := true) (q2 k)]; rfl))))]
      · cases e
        have := hc 0
        rw [hb 0] at this
        injection this with h1 h2
        injection h1 with h3
        exact absurd ⟨h3, hw⟩ good
end P21
end

section
set_option Elab.async false
set_option linter.all false
set_option maxRecDepth 100000
set_option maxHeartbeats 4000000
namespace P21
open FC PySem D21
/-! ### what is drawn, written and read again -/
theorem num_all : (List.range 19).all (fun n => decide (numW (strI ((n : Int) - 9)) = some ((n : Int) - 9))) = true := by decide +kernel
theorem num_back {i : Int} (h : -9 ≤ i ∧ i ≤ 9) : numW (strI i) = some i := by
  have m : (i + 9).toNat ∈ List.range 19 := List.mem_range.mpr (by omega)
  have c := of_decide_eq_true (List.all_eq_true.mp num_all _ m)
  rwa [show (((i + 9).toNat : Nat) : Int) - 9 = i by omega] at c
structure Wd (p : Gs) : Prop extends Wf p where
  nsp : 32 ∉ tl p.1
  nbar : 124 ∉ tl p.1
  ne : p.1 ≠ ""
theorem tl_sp : TL.tl (" " : Str) = [32] := by decide +kernel
theorem step_back {p : Gs} (h : Wd p) : stepW (stepS p) = some p := by
  have e : Txt.split (stepS p) " " = wordsOf p := by
    refine TL.split_join tl_sp (by decide +kernel) (by simp [wordsOf]) fun w hw => ?_
    rcases List.mem_cons.mp hw with rfl | hw
    · exact h.nsp
    · obtain ⟨i, hi, rfl⟩ := List.mem_map.mp hw
      exact fun hc => ((chk (h.small i hi)).2 32 hc).2 rfl
  unfold stepW
  rw [e]
  show (omap numW (p.2.map strI)).map (fun is => (p.1, is)) = some p
  rw [omap_all fun i hi => num_back (h.small i hi)]
  rfl
theorem join_mem {y : Str} {c : Nat} : ∀ ps : List Str, c ∈ tl (Txt.join y ps) → c ∈ tl y ∨ ∃ p ∈ ps, c ∈ tl p := fun ps h => by
  rw [TL.join_eq] at h
  induction ps with
  | nil => exact absurd h (by simp [Str.join, tl, Str.empty])
  | cons p r ih =>
    cases r with
    | nil => exact .inr ⟨p, List.mem_cons_self, h⟩
    | cons q r =>
      rw [show tl (Str.join y (p :: q :: r)) = tl p ++ tl y ++ tl (Str.join y (q :: r)) by
        show tl (p ++ y ++ Str.join y (q :: r)) = _
        rw [show tl (p ++ y ++ Str.join y (q :: r)) = tl (p ++ y) ++ tl (Str.join y (q :: r)) from TL.tl_append _ _, show tl (p ++ y) = tl p ++ tl y from TL.tl_append _ _]] at h
      rcases List.mem_append.mp h with h | h
      · rcases List.mem_append.mp h with h | h
        · exact .inr ⟨p, List.mem_cons_self, h⟩
        · exact .inl h
      · rcases ih h with h | ⟨x, hx, h⟩
        · exact .inl h
        · exact .inr ⟨x, List.mem_cons_of_mem _ hx, h⟩
theorem step_nobar {p : Gs} (h : Wd p) : 124 ∉ tl (stepS p) := fun hc => by
  rcases join_mem _ hc with hc | ⟨w, hw, hc⟩
  · rw [show tl (" " : Str) = [32] from tl_sp] at hc
    simp at hc
  · rcases List.mem_cons.mp hw with rfl | hw
    · exact h.nbar hc
    · obtain ⟨i, hi, rfl⟩ := List.mem_map.mp hw
      exact absurd ((chk (h.small i hi)).2 124 hc).1 (by omega)
theorem W_split {ps : List Gs} (h : ∀ p ∈ ps, Wd p) (hne : ps ≠ []) : Txt.split (W ps) " | " = ps.map stepS := by
  have e : W ps = Txt.join (SX.S bar) (ps.map stepS) := by
    unfold W
    rw [bar_eq]
  rw [e, bar_eq]
  refine split_bar (fun z => hne (List.map_eq_nil_iff.mp z)) fun y hy => ?_
  obtain ⟨p, hp, rfl⟩ := List.mem_map.mp hy
  exact step_nobar (h p hp)
theorem stepW_nil : stepW "" = some ((("" : Str), ([] : List Int)) : Gs) := by decide +kernel
theorem split_nil : Txt.split "" " | " = [("" : Str)] := by decide +kernel
theorem W_nil : W [] = "" := by decide +kernel
theorem W_ne {ps : List Gs} (h : ∀ p ∈ ps, Wd p) (hne : ps ≠ []) : W ps ≠ "" := fun e => by
  have s := W_split h hne
  rw [e, split_nil] at s
  match ps, s with
  | [p], s =>
    have e1 : stepS p = "" := (List.cons.inj s).1.symm
    have b := step_back (h p List.mem_cons_self)
    rw [e1, stepW_nil] at b
    injection b with b
    exact (h p List.mem_cons_self).ne (by rw [← b])
  | [], s => simp at s
  | p :: q :: r, s => simp at s
theorem parse_back {ps : List Gs} (h : ∀ p ∈ ps, Wd p) : parseW (W ps) = some ps := by
  unfold parseW
  by_cases hne : ps = []
  · subst hne
    rw [W_nil, if_pos rfl]
  · rw [if_neg (W_ne h hne), W_split h hne]
    exact omap_all fun p hp => step_back (h p hp)
/-! ### the steps that are drawn -/
def wordB (x : Str) : Bool := decide (x.length ≤ 300) && ((tl x).all fun c => decide (c < 124) && decide (c ≠ 32)) && decide (x ≠ "")
theorem word_wd {x : Str} {is : List Int} (hx : wordB x = true) (hm : is.length ≤ 301) (hi : ∀ i ∈ is, -9 ≤ i ∧ i ≤ 9) : Wd (x, is) := by
  unfold wordB at hx
  simp only [Bool.and_eq_true, decide_eq_true_eq] at hx
  have al : ∀ c ∈ tl x, c < 124 ∧ c ≠ 32 := fun c hc => by
    have := List.all_eq_true.mp hx.1.2 c hc
    simpa using this
  exact { ok := fun c hc => by have := (al c hc).1; omega, len := hx.1.1, many := hm, small := hi, nsp := fun hc => (al _ hc).2 rfl, nbar := fun hc => absurd (al _ hc).1 (by omega), ne := hx.2 }
theorem of_stp {t : T} (h : Stp t) : ∃ p : Gs, t = gT p ∧ Wd p ∧ p.2.length ≤ 4 ∧ p.1.length ≤ 6 := by
  cases h with
  | plain h =>
    rename_i x
    refine ⟨(x, []), rfl, word_wd ?_ (by simp) (fun i hi => by simp at hi), by simp, ?_⟩
    · rcases h with rfl | rfl | rfl | rfl <;> decide +kernel
    · rcases h with rfl | rfl | rfl | rfl <;> decide +kernel
  | groups h1 h2 =>
    rename_i n
    refine ⟨("groups", [n]), rfl, word_wd (by decide +kernel) (by simp) (fun i hi => ?_), by simp, (show ("groups" : Str).length ≤ 6 by decide +kernel)⟩
    rw [List.mem_singleton.mp hi]
    omega
  | line h1 h2 h3 h4 =>
    rename_i f m
    refine ⟨("line", [f, m]), rfl, word_wd (by decide +kernel) (by simp) (fun i hi => ?_), by simp, (show ("line" : Str).length ≤ 6 by decide +kernel)⟩
    simp at hi
    rcases hi with rfl | rfl <;> omega
  | kar h0 h1 h2 h3 =>
    rename_i x b r
    refine ⟨(x, [b, r]), rfl, word_wd ?_ (by simp) (fun i hi => ?_), by simp, ?_⟩
    · rcases h0 with rfl | rfl | rfl <;> decide +kernel
    · simp at hi
      rcases hi with rfl | rfl <;> omega
    · show x.length ≤ 6
      clear h1 h2 h3
      rcases h0 with rfl | rfl | rfl <;> decide +kernel
  | turn h0 h1 h2 h3 h4 h5 h6 =>
    rename_i b r f m
    refine ⟨("turn", [b, r, f, m]), rfl, word_wd (by decide +kernel) (by simp) (fun i hi => ?_), by simp, (show ("turn" : Str).length ≤ 6 by decide +kernel)⟩
    simp at hi
    rcases hi with rfl | rfl | rfl | rfl <;> omega
theorem of_chain : ∀ ts : List T, (∀ t ∈ ts, Stp t) → ∃ ps : List Gs, ts = ps.map gT ∧ ∀ p ∈ ps, Wd p ∧ p.2.length ≤ 4 ∧ p.1.length ≤ 6
  | [], _ => ⟨[], rfl, fun _ h => by simp at h⟩
  | t :: ts, h => by
    obtain ⟨p, h1, h2⟩ := of_stp (h t List.mem_cons_self)
    obtain ⟨ps, h3, h4⟩ := of_chain ts fun t ht => h t (List.mem_cons_of_mem _ ht)
    refine ⟨p :: ps, by rw [h1, h3]; rfl, fun q hq => ?_⟩
    rcases List.mem_cons.mp hq with rfl | hq
    · exact h2
    · exact h4 q hq
/-- its text is short -/
theorem W_len {ps : List Gs} (h : ∀ p ∈ ps, Wd p ∧ p.2.length ≤ 4 ∧ p.1.length ≤ 6) (hl : ps.length ≤ 4) : (W ps).length ≤ 100 := by
  have st : ∀ y ∈ ps.map stepS, y.length ≤ 19 := fun y hy => by
    obtain ⟨p, hp, rfl⟩ := List.mem_map.mp hy
    obtain ⟨h1, h2, h3⟩ := h p hp
    have s := sum_le (ys := p.2.map strI) (b := 2) fun y hy => by
      obtain ⟨i, hi, rfl⟩ := List.mem_map.mp hy
      exact (chk (h1.small i hi)).1
    rw [List.length_map] at s
    refine Nat.le_trans (join_len _) ?_
    rw [sp_len]
    simp only [wordsOf, List.map_cons, List.sum_cons, List.length_cons, List.length_map]
    omega
  have s := sum_le st
  refine Nat.le_trans (join_len _) ?_
  rw [bar_len]
  rw [List.length_map] at *
  omega
end P21
end

section
set_option Elab.async false
set_option linter.all false
set_option maxRecDepth 100000
set_option maxHeartbeats 4000000
namespace P21
open FC PySem D21
abbrev L13 (a0 a1 a2 a3 a4 a5 a6 a7 a8 a9 a10 a11 a12 : Option T) : FC.Env := [a0, a1, a2, a3, a4, a5, a6, a7, a8, a9, a10, a11, a12]
/-! ### the law's text of a step -/
abbrev textE : E := .met .join false (.cst (.str " ")) [(.comp false [12] (.bfn .str false [(.var 12)]) (.nm 12) .of (.var 4) (.cst .non) false (.cst .non))]
def gS : T → T | .str x => .str x | .int i => .str (strI i) | _ => .non
theorem text_e {k : Nat} {p : Gs} (h : Wf p) {S : Sto} {a0 a1 a2 a3 a5 a6 a7 a8 a9 a10 a11 a12 : Option T} : evE (M k) textE (L13 a0 a1 a2 a3 (some (gT p)) a5 a6 a7 a8 a9 a10 a11 a12) S = .ok (.str (stepS p)) S := by
  have c := compL_ok (cond := fun e S => (if false then evE (M k) (.cst .non) e S else .ok (.bl true) S : R T)) (elt := fun e S => evE (M k) (.bfn .str false [(.var 12)]) e S) (tg := .nm 12) (e := L13 a0 a1 a2 a3 (some (gT p)) a5 a6 a7 a8 a9 a10 a11 none) (S := S) (fun t => true) gS (.str p.1 :: p.2.map .int) [] (fun t ht => ⟨_, rfl, rfl, fun _ => by
    rcases List.mem_cons.mp ht with rfl | ht
    · rfl
    · obtain ⟨i, hi, rfl⟩ := List.mem_map.mp ht
      have e := str_num (S := S) (h.small i hi)
      simp [evE, evEs, FC.R.bind, e, putN, gS]⟩) (by
    have := h.many
    have hlim : lim = 16777216 := rfl
    simp
    omega)
  have e1 : [] ++ ((T.str p.1 :: p.2.map T.int).filter fun _ => true).map gS = (wordsOf p).map .str := by
    rw [List.filter_eq_self.mpr fun _ _ => rfl]
    simp [wordsOf, gS, Function.comp_def]
  rw [e1] at c
  have e0 := ev_comp (fe := M k) (al := false) (own := [12]) (elt := .bfn .str false [(.var 12)]) (tg := .nm 12) (kk := .of) (i1 := .var 4) (i2 := .cst .non) (hc := false) (c := .cst .non) (e := L13 a0 a1 a2 a3 (some (gT p)) a5 a6 a7 a8 a9 a10 a11 a12) (S := S) (S1 := S) (S2 := S) (x := gT p) (y := .non) rfl rfl rfl c
  exact ev_join e0 (join_at (Nat.le_trans (words_fit2 h) (by decide)))
theorem W_one (p : Gs) : W [p] = stepS p := by
  unfold W
  rfl
theorem parse_step {p : Gs} (h : Wd p) (h4 : p.2.length ≤ 4) (h6 : p.1.length ≤ 6) (hc : ∀ k, M (k + 4) 5 [.tup [gT p]] [] = .ok (.bl true) []) (k : Nat) : M (k + 5) 17 [.str (stepS p)] [] = .ok (.tup [gT p]) [] := by
  have hW : ∀ q ∈ [p], Wd q := fun q hq => by rw [List.mem_singleton.mp hq]; exact h
  have l := W_len (ps := [p]) (fun q hq => by rw [List.mem_singleton.mp hq]; exact ⟨h, h4, h6⟩) (show 1 ≤ 4 by decide)
  obtain ⟨o, o1, o2, o3⟩ := parse (z := W [p]) (W_ok fun q hq => (hW q hq).toWf) (by omega)
  have e := o3 [p] (parse_back hW) rfl hc
  subst e
  have := o1 k
  rw [W_one] at this
  exact this
end P21
end

section
set_option Elab.async false
set_option linter.all false
set_option maxRecDepth 100000
set_option maxHeartbeats 4000000
namespace P21
open FC PySem D21
mutual
theorem thaw_free {S : Sto} : ∀ t : T, t.free = true → thaw S t = some t
  | .non, _ => rfl
  | .bl _, _ => rfl
  | .int _, _ => rfl
  | .str _, _ => rfl
  | .tup xs, h => by
    show (thaw.thawL S xs).map T.tup = _
    rw [thawL_free xs h]
    rfl
  | .lst xs, h => by
    show (thaw.thawL S xs).map T.lst = _
    rw [thawL_free xs h]
    rfl
  | .fro xs, h => by
    show (if T.freeL xs then some (T.fro xs) else none) = _
    rw [show T.freeL xs = true from h]
    rfl
  | .loc _, h => by cases h
theorem thawL_free {S : Sto} : ∀ t : List T, T.freeL t = true → thaw.thawL S t = some t
  | [], _ => rfl
  | x :: xs, h => by
    have h := Bool.and_eq_true_iff.mp (show (x.free && T.freeL xs) = true from h)
    show (match thaw S x with | some y => (thaw.thawL S xs).map (y :: ·) | none => none) = _
    rw [thaw_free x h.1, thawL_free xs h.2]
    rfl
end
theorem callP_exc {k i c : Nat} {as : List T} {S : Sto} (f : T.freeL as = true) {S' : Sto} (h : M k i as [] = .exc c S') : callP (M k) i as S = .exc c S := by
  simp [callP, f, h]
theorem callP_ok {k i : Nat} {as : List T} {t : T} {S : Sto} (f : T.freeL as = true) (ft : t.free = true) {S' : Sto} (h : M k i as [] = .ok t S') : callP (M k) i as S = .ok t S := by
  simp [callP, f, h, thaw_free t ft, FC.ofO]
def okB (v : Bool) (r : R T) : Bool := match r with | .ok (.bl b) _ => b == v | _ => false
theorem okB_ok {v : Bool} {r : R T} (h : okB v r = true) : ∃ S, r = .ok (.bl v) S := by
  unfold okB at h
  split at h
  · rw [beq_iff_eq.mp h]; exact ⟨_, rfl⟩
  · cases h
/-- the greatest numbers -/
theorem right_numbers : ∃ S, M 22 22 [] [] = .ok (.bl true) S := okB_ok (by decide +kernel)
/-! ### bent steps -/
abbrev things : List T := [.non, .bl true, .str "1", .tup [.int 1], .int 10, .int (-10)]
theorem bad_whole {k : Nat} {S : Sto} {v : T} {lo hi : Int} (hv : v ∈ things) (h1 : -10 < lo) (h2 : hi < 10) : M (k + 1) 0 [v, .int lo, .int hi] S = .ok (.bl false) S := by
  rw [M_at (by decide) (d := d_is_whole) rfl]
  refine run_rt rfl ?_
  simp only [things, List.mem_cons, List.not_mem_nil, or_false] at hv
  have a1 : ¬ (10 ≤ hi) := by omega
  have a2 : ¬ (lo ≤ -10) := by omega
  have a3 : lo ≤ 10 ∨ ¬ lo ≤ 10 := by omega
  rcases hv with rfl | rfl | rfl | rfl | rfl | rfl
  · rfl
  · rfl
  · rfl
  · rfl
  · rcases a3 with a3 | a3 <;> simp [d_is_whole, FC.start, evCs, evC, evE, evEs, FC.R.bind, R.out, O.then, FC.ofO, isTy, cmpT, cmpI, a1, a3]
  · simp [d_is_whole, FC.start, evCs, evC, evE, evEs, FC.R.bind, R.out, O.then, FC.ofO, isTy, cmpT, cmpI, a2]
theorem chain_bad {k : Nat} {t : T} (f : t.free = true) (h : M (k + 3) 3 [t] [] = .ok (.bl false) []) : M (k + 4) 5 [.tup [t]] [] = .ok (.bl false) [] := by
  rw [M_at (k := k + 3) (by decide) (d := d_is_chain) rfl]
  refine run_rt rfl ?_
  have ca : callP (M (k + 3)) 3 [t] [] = .ok (.bl false) [] := callP_ok (k := k + 3) (by simp [T.freeL, f]) rfl h
  have c := compL_ok (cond := fun e S => (if false then evE (M (k + 3)) (.cst .non) e S else .ok (.bl true) S : R T)) (elt := fun e S => evE (M (k + 3)) (.call true 3 [(.var 1)]) e S) (tg := .nm 1) (e := [some (.tup [t]), none]) (S := []) (fun _ => true) (fun _ => .bl false) [t] [] (fun u hu => ⟨_, rfl, rfl, fun _ => by
    rw [List.mem_singleton.mp hu]
    simp [evE, evEs, FC.R.bind, ca]⟩) (show 0 + 1 ≤ lim by decide)
  have e0 := ev_comp (fe := M (k + 3)) (al := false) (own := [1]) (elt := .call true 3 [(.var 1)]) (tg := .nm 1) (kk := .of) (i1 := .var 0) (i2 := .cst .non) (hc := false) (c := .cst .non) (e := [some (.tup [t]), none]) (S := []) (S1 := []) (S2 := []) (x := .tup [t]) (y := .non) rfl rfl rfl c
  have e1 : evE (M (k + 3)) (.bfn .all false [(.comp false [1] (.call true 3 [(.var 1)]) (.nm 1) .of (.var 0) (.cst .non) false (.cst .non))]) [some (.tup [t]), none] [] = .ok (.bl false) [] := ev_bfn1 e0 rfl
  show evCs (M (k + 3)) fuel (.ite (.or (.not (.isi .tup (.var 0))) (.or (.cmp .gt (.bfn .len false [(.var 0)]) (.cst (.int 4))) (.not (.bfn .all false [(.comp false [1] (.call true 3 [(.var 1)]) (.nm 1) .of (.var 0) (.cst .non) false (.cst .non))])))) [.ret (.cst (.bl false))] [] :: d_is_chain.body.drop 1) [some (.tup [t]), none] [] = _
  have e2 : evE (M (k + 3)) (.not (.isi .tup (.var 0))) [some (.tup [t]), none] [] = .ok (.bl false) [] := rfl
  have e3 : evE (M (k + 3)) (.cmp .gt (.bfn .len false [(.var 0)]) (.cst (.int 4))) [some (.tup [t]), none] [] = .ok (.bl false) [] := rfl
  have e4 := ev_or0 e2 (ev_or0 e3 (ev_not e1))
  refine cs_rt ?_
  rw [c_ite (v := true) e4]
  rfl
end P21
end

section
set_option Elab.async false
set_option linter.all false
set_option maxRecDepth 100000
set_option maxHeartbeats 4000000
namespace P21
open FC PySem D21
theorem len_eq {n : Nat} {m : Nat} : eqT [] (.int (n : Nat)) (.int (m : Nat)) = some (decide (n = m)) := by
  rw [e_int]
  by_cases h : n = m
  · subst h; simp
  · have : ¬ ((n : Int) = (m : Int)) := by omega
    simp [h, this]
theorem kar_bad {k : Nat} {x : Str} {r : List T} (h : x = "anew" ∨ x = "keep" ∨ x = "every") (hs : SeqAt.shaped (PyData.tuple (.str x :: T.dataL r)) = true) (hb : r.length ≠ 2 ∨ callP (M (k + 2)) 1 [.tup r] [] = .ok (.bl false) []) :
    M (k + 3) 3 [.tup (.str x :: r)] [] = .ok (.bl false) [] := by
  rw [M_at (by decide) (d := d_is_step) rfl]
  obtain ⟨a, b, c, d, e, sx⟩ := kd_kar h
  refine run_rt rfl (is_step_head (q_ne hs) ?_)
  have q : eqT [] (.int (r.length : Nat)) (.int 2) = some (decide (r.length = 2)) := len_eq
  simp only [cmpT] at b c
  have l3 : (3 : Nat) ≤ lim := by decide
  by_cases h2 : r.length = 2
  · have hb := hb.resolve_left (fun z => z h2)
    rw [decide_eq_true h2] at q
    simp [d_is_step, evCs, evC, evE, evEs, FC.R.bind, R.out, O.then, FC.ofO, cmpT, a, b, c, d, len_tup, putN, q, hb, l3]
  · rw [decide_eq_false h2] at q
    simp [d_is_step, evCs, evC, evE, evEs, FC.R.bind, R.out, O.then, FC.ofO, cmpT, a, b, c, d, len_tup, putN, q, l3]
theorem line_bad {k : Nat} {r : List T} (hs : SeqAt.shaped (PyData.tuple (.str "line" :: T.dataL r)) = true) (hb : r.length ≠ 2 ∨ callP (M (k + 2)) 2 [.tup r] [] = .ok (.bl false) []) :
    M (k + 3) 3 [.tup (.str "line" :: r)] [] = .ok (.bl false) [] := by
  rw [M_at (by decide) (d := d_is_step) rfl]
  obtain ⟨a, b, c, d, e, sx⟩ := kd_line
  refine run_rt rfl (is_step_head (q_ne hs) ?_)
  have q : eqT [] (.int (r.length : Nat)) (.int 2) = some (decide (r.length = 2)) := len_eq
  simp only [cmpT] at b c
  by_cases h2 : r.length = 2
  · have hb := hb.resolve_left (fun z => z h2)
    rw [decide_eq_true h2] at q
    simp [d_is_step, evCs, evC, evE, evEs, FC.R.bind, R.out, O.then, FC.ofO, cmpT, a, b, c, len_tup, putN, q, hb]
  · rw [decide_eq_false h2] at q
    simp [d_is_step, evCs, evC, evE, evEs, FC.R.bind, R.out, O.then, FC.ofO, cmpT, a, b, c, len_tup, putN, q]
end P21
end

section
set_option Elab.async false
set_option linter.all false
set_option maxRecDepth 100000
set_option maxHeartbeats 4000000
namespace P21
open FC PySem D21
theorem turn_len {k : Nat} {r : List T} (hs : SeqAt.shaped (PyData.tuple (.str "turn" :: T.dataL r)) = true) (hl : r.length ≠ 4) :
    M (k + 3) 3 [.tup (.str "turn" :: r)] [] = .ok (.bl false) [] := by
  rw [M_at (by decide) (d := d_is_step) rfl]
  obtain ⟨a, b, c, d, e, sx⟩ := kd_turn
  refine run_rt rfl (is_step_head (q_ne hs) ?_)
  have q : eqT [] (.int (r.length : Nat)) (.int 4) = some (decide (r.length = 4)) := len_eq
  rw [decide_eq_false hl] at q
  have l3 : (3 : Nat) ≤ lim := by decide
  simp only [cmpT] at b c e
  simp [d_is_step, evCs, evC, evE, evEs, FC.R.bind, R.out, O.then, FC.ofO, cmpT, a, b, c, d, e, len_tup, putN, q, l3]
theorem groups_len {k : Nat} {r : List T} (hs : SeqAt.shaped (PyData.tuple (.str "groups" :: T.dataL r)) = true) (hl : r.length ≠ 1) :
    M (k + 3) 3 [.tup (.str "groups" :: r)] [] = .ok (.bl false) [] := by
  rw [M_at (by decide) (d := d_is_step) rfl]
  obtain ⟨a, b, c, d, e, sx⟩ := kd_groups
  refine run_rt rfl (is_step_head (q_ne hs) ?_)
  have q : eqT [] (.int (r.length : Nat)) (.int 1) = some (decide (r.length = 1)) := len_eq
  rw [decide_eq_false hl] at q
  simp only [cmpT] at b
  simp [d_is_step, evCs, evC, evE, evEs, FC.R.bind, R.out, O.then, FC.ofO, cmpT, a, b, len_tup, putN, q]
theorem groups_bad {k : Nat} {v : T} (hs : SeqAt.shaped (PyData.tuple (.str "groups" :: T.dataL [v])) = true) (hb : callP (M (k + 2)) 0 [v, .int 2, .int 3] [] = .ok (.bl false) []) :
    M (k + 3) 3 [.tup [.str "groups", v]] [] = .ok (.bl false) [] := by
  rw [M_at (by decide) (d := d_is_step) rfl]
  obtain ⟨a, b, c, d, e, sx⟩ := kd_groups
  refine run_rt rfl (is_step_head (q_ne hs) ?_)
  have q : eqT [] (.int 1) (.int 1) = some true := by decide +kernel
  have a0 : L2.atI [v] 0 = some v := rfl
  simp only [cmpT] at b
  simp [d_is_step, evCs, evC, evE, evEs, FC.R.bind, R.out, O.then, FC.ofO, cmpT, a, b, len_tup, putN, q, ixT, ixL, items, a0, hb]
theorem turn_bad {k : Nat} {p q u v : T} (hs : SeqAt.shaped (PyData.tuple (.str "turn" :: T.dataL [p, q, u, v])) = true)
    (hb : callP (M (k + 2)) 1 [.tup [p, q]] [] = .ok (.bl false) [] ∨ (callP (M (k + 2)) 1 [.tup [p, q]] [] = .ok (.bl true) [] ∧ callP (M (k + 2)) 2 [.tup [u, v]] [] = .ok (.bl false) [])) :
    M (k + 3) 3 [.tup [.str "turn", p, q, u, v]] [] = .ok (.bl false) [] := by
  rw [M_at (by decide) (d := d_is_step) rfl]
  obtain ⟨a, b, c, d, e, sx⟩ := kd_turn
  refine run_rt rfl (is_step_head (q_ne hs) ?_)
  have q4 : eqT [] (.int 4) (.int 4) = some true := by decide +kernel
  have l3 : (3 : Nat) ≤ lim := by decide
  have s1 : slcT [] (.tup [p, q, u, v]) none (some 2) = some (.val (.tup [p, q])) := rfl
  have s2 : slcT [] (.tup [p, q, u, v]) (some 2) none = some (.val (.tup [u, v])) := rfl
  simp only [cmpT] at b c e
  rcases hb with h1 | ⟨h1, h2⟩
  · simp [d_is_step, evCs, evC, evE, evEs, FC.R.bind, R.out, O.then, FC.ofO, cmpT, a, b, c, d, e, len_tup, putN, q4, l3, s1, asIdx, h1]
  · simp [d_is_step, evCs, evC, evE, evEs, FC.R.bind, R.out, O.then, FC.ofO, cmpT, a, b, c, d, e, len_tup, putN, q4, l3, s1, s2, asIdx, h1, h2]
end P21
end

section
set_option Elab.async false
set_option linter.all false
set_option maxRecDepth 100000
set_option maxHeartbeats 4000000
namespace P21
open FC PySem D21
theorem things_free {v : T} (hv : v ∈ things) : v.free = true := by
  simp only [things, List.mem_cons, List.not_mem_nil, or_false] at hv
  rcases hv with rfl | rfl | rfl | rfl | rfl | rfl <;> rfl
theorem call_bad {k : Nat} {v : T} {lo hi : Int} (hv : v ∈ things) (h1 : -10 < lo) (h2 : hi < 10) : callP (M (k + 1)) 0 [v, .int lo, .int hi] [] = .ok (.bl false) [] :=
  callP_ok (k := k + 1) (by simp [T.freeL, T.free, things_free hv]) rfl (bad_whole (k := k) (S := []) hv h1 h2)
theorem call_whole {k : Nat} {v lo hi : Int} (h1 : lo ≤ v) (h2 : v ≤ hi) : callP (M (k + 1)) 0 [.int v, .int lo, .int hi] [] = .ok (.bl true) [] := callP_ok (k := k + 1) rfl rfl (whole (k := k) (S := []) h1 h2)
theorem rest_bad1 {k : Nat} {v q : T} (hv : v ∈ things) (fq : q.free = true) : callP (M (k + 2)) 1 [.tup [v, q]] [] = .ok (.bl false) [] := by
  have c := call_bad (k := k) (lo := 2) (hi := 3) hv (by decide) (by decide)
  have a0 : L2.atI [v, q] 0 = some v := rfl
  have h : M (k + 2) 1 [.tup [v, q]] [] = .ok (.bl false) [] := by
    rw [M_at (by decide) (d := d_is_rest) rfl]
    refine run_rt rfl ?_
    simp [d_is_rest, FC.start, evCs, evC, evE, evEs, FC.R.bind, R.out, O.then, FC.ofO, ixT, ixL, items, a0, c]
  exact callP_ok (k := k + 2) (by simp [T.freeL, T.free, things_free hv, fq]) rfl h
theorem rest_bad2 {k : Nat} {m : Int} {v : T} (hm : m = 2 ∨ m = 3) (hv : v ∈ things) : callP (M (k + 2)) 1 [.tup [.int m, v]] [] = .ok (.bl false) [] := by
  have c0 := call_whole (k := k) (v := m) (lo := 2) (hi := 3) (by omega) (by omega)
  have c := call_bad (k := k) (lo := 0) (hi := m - 1) hv (by decide) (by omega)
  have a0 : L2.atI [T.int m, v] 0 = some (.int m) := rfl
  have a1 : L2.atI [T.int m, v] 1 = some v := rfl
  have h : M (k + 2) 1 [.tup [.int m, v]] [] = .ok (.bl false) [] := by
    rw [M_at (by decide) (d := d_is_rest) rfl]
    refine run_rt rfl ?_
    simp [d_is_rest, FC.start, evCs, evC, evE, evEs, FC.R.bind, R.out, O.then, FC.ofO, ixT, ixL, items, a0, a1, c0, c, putN, binT]
  exact callP_ok (k := k + 2) (by simp [T.freeL, T.free, things_free hv]) rfl h
theorem line_bad1 {k : Nat} {v q : T} (hv : v ∈ things) (fq : q.free = true) : callP (M (k + 2)) 2 [.tup [v, q]] [] = .ok (.bl false) [] := by
  have c := call_bad (k := k) (lo := -3) (hi := 3) hv (by decide) (by decide)
  have a0 : L2.atI [v, q] 0 = some v := rfl
  have h : M (k + 2) 2 [.tup [v, q]] [] = .ok (.bl false) [] := by
    rw [M_at (by decide) (d := d_is_line) rfl]
    refine run_rt rfl ?_
    simp [d_is_line, FC.start, evCs, evC, evE, evEs, FC.R.bind, R.out, O.then, FC.ofO, ixT, ixL, items, a0, c]
  exact callP_ok (k := k + 2) (by simp [T.freeL, T.free, things_free hv, fq]) rfl h
theorem line_bad2 {k : Nat} {a : Int} {v : T} (h1 : -3 ≤ a) (h2 : a ≤ 3) (hv : v ∈ things) : callP (M (k + 2)) 2 [.tup [.int a, v]] [] = .ok (.bl false) [] := by
  have c0 := call_whole (k := k) (v := a) (lo := -3) (hi := 3) h1 h2
  have c := call_bad (k := k) (lo := -9) (hi := 9) hv (by decide) (by decide)
  have a0 : L2.atI [T.int a, v] 0 = some (.int a) := rfl
  have a1 : L2.atI [T.int a, v] 1 = some v := rfl
  have h : M (k + 2) 2 [.tup [.int a, v]] [] = .ok (.bl false) [] := by
    rw [M_at (by decide) (d := d_is_line) rfl]
    refine run_rt rfl ?_
    simp [d_is_line, FC.start, evCs, evC, evE, evEs, FC.R.bind, R.out, O.then, FC.ofO, ixT, ixL, items, a0, a1, c0, c]
  exact callP_ok (k := k + 2) (by simp [T.freeL, T.free, things_free hv]) rfl h
end P21
end

section
set_option Elab.async false
set_option linter.all false
set_option maxRecDepth 100000
set_option maxHeartbeats 4000000
namespace P21
open FC PySem D21
def Lay (t : T) : Prop := PyData.canLay0 t.data = true ∧ t.data.depth ≤ 1
theorem lay_int (i : Int) : Lay (.int i) := by simp [Lay, T.data, PyData.canLay0, PyData.depth]
theorem lay_thing {v : T} (hv : v ∈ things) : Lay v := by
  simp only [things, List.mem_cons, List.not_mem_nil, or_false] at hv
  rcases hv with rfl | rfl | rfl | rfl | rfl | rfl <;> exact ⟨by decide +kernel, by decide +kernel⟩
theorem lays : ∀ r : List T, (∀ t ∈ r, Lay t) → PyData.canLayAll0 (T.dataL r) = true ∧ PyData.depthAll (T.dataL r) ≤ 1
  | [], _ => by simp [T.dataL, PyData.canLayAll0, PyData.depthAll]
  | t :: r, h => by
    obtain ⟨h1, h2⟩ := h t List.mem_cons_self
    obtain ⟨h3, h4⟩ := lays r fun u hu => h u (List.mem_cons_of_mem _ hu)
    constructor
    · simp [T.dataL, PyData.canLayAll0, h1, h3]
    · simp [T.dataL, PyData.depthAll]
      omega
theorem sh_parts {x : Str} {r : List T} (hx : PyData.strOk x = true) (h : ∀ t ∈ r, Lay t) : SeqAt.shaped (PyData.tuple (.str x :: T.dataL r)) = true := by
  obtain ⟨h1, h2⟩ := lays r h
  simp [SeqAt.shaped, PyData.canLay0, PyData.canLayAll0, PyData.depth, PyData.depthAll, h1, hx]
  omega
theorem free_parts {x : Str} {r : List T} (h : ∀ t ∈ r, t.free = true) : (T.tup (.str x :: r)).free = true := by
  show (T.free (.str x) && T.freeL r) = true
  rw [freeL_of _ h]
  rfl
end P21
end

section
set_option Elab.async false
set_option linter.all false
set_option maxRecDepth 100000
set_option maxHeartbeats 4000000
namespace P21
open FC PySem D21
abbrev NoCh (t : T) : Prop := ∀ k, M (k + 4) 5 [.tup [t]] [] = .ok (.bl false) []
structure Bent (ps : List T) : Prop where
  pl : ∀ i, 1 ≤ i → i < ps.length → ∀ v ∈ things, NoCh (.tup (ps.take i ++ [v] ++ ps.drop (i + 1)))
  dl : NoCh (.tup ps.dropLast)
  mo : NoCh (.tup (ps ++ [.int 0]))
  wd : NoCh (.tup (ps.take 1))
theorem lay2 {a b : T} (ha : Lay a) (hb : Lay b) : ∀ t ∈ [a, b], Lay t := fun t ht => by
  simp only [List.mem_cons, List.not_mem_nil, or_false] at ht
  rcases ht with rfl | rfl <;> assumption
theorem lay4 {a b c d : T} (ha : Lay a) (hb : Lay b) (hc : Lay c) (hd : Lay d) : ∀ t ∈ [a, b, c, d], Lay t := fun t ht => by
  simp only [List.mem_cons, List.not_mem_nil, or_false] at ht
  rcases ht with rfl | rfl | rfl | rfl <;> assumption
theorem lay_ints (is : List Int) : ∀ t ∈ is.map T.int, Lay t := fun t ht => by
  obtain ⟨i, _, rfl⟩ := List.mem_map.mp ht
  exact lay_int i
theorem bent_turn {m r a b : Int} (hm : m = 2 ∨ m = 3) (h0 : 0 ≤ r) (h1 : r < m) (h2 : -3 ≤ a) (h3 : a ≤ 3) : Bent [.str "turn", .int m, .int r, .int a, .int b] := by
  have sx := kd_turn.s
  have li := lay_int
  refine ⟨fun i hi hl v hv k => ?_, fun k => ?_, fun k => ?_, fun k => ?_⟩
  · have lv := lay_thing hv
    have fv := things_free hv
    have hi4 : i = 1 ∨ i = 2 ∨ i = 3 ∨ i = 4 := by
      have : i < 5 := hl
      omega
    have rt : callP (M (k + 2)) 1 [.tup [.int m, .int r]] [] = .ok (.bl true) [] := callP_ok (k := k + 2) rfl rfl (is_rest (k := k) (S := []) hm h0 h1)
    rcases hi4 with rfl | rfl | rfl | rfl
    · exact chain_bad (t := .tup [.str "turn", v, .int r, .int a, .int b]) (by simp [T.free, T.freeL, fv]) (turn_bad (sh_parts sx (lay4 lv (li _) (li _) (li _))) (.inl (rest_bad1 hv rfl)))
    · exact chain_bad (t := .tup [.str "turn", .int m, v, .int a, .int b]) (by simp [T.free, T.freeL, fv]) (turn_bad (sh_parts sx (lay4 (li _) lv (li _) (li _))) (.inl (rest_bad2 hm hv)))
    · exact chain_bad (t := .tup [.str "turn", .int m, .int r, v, .int b]) (by simp [T.free, T.freeL, fv]) (turn_bad (sh_parts sx (lay4 (li _) (li _) lv (li _))) (.inr ⟨rt, line_bad1 hv rfl⟩))
    · exact chain_bad (t := .tup [.str "turn", .int m, .int r, .int a, v]) (by simp [T.free, T.freeL, fv]) (turn_bad (sh_parts sx (lay4 (li _) (li _) (li _) lv)) (.inr ⟨rt, line_bad2 h2 h3 hv⟩))
  · exact chain_bad (t := .tup [.str "turn", .int m, .int r, .int a]) rfl (turn_len (sh_parts sx (lay_ints [m, r, a])) (by simp))
  · exact chain_bad (t := .tup [.str "turn", .int m, .int r, .int a, .int b, .int 0]) rfl (turn_len (sh_parts sx (lay_ints [m, r, a, b, 0])) (by simp))
  · exact chain_bad (t := .tup [.str "turn"]) rfl (turn_len (sh_parts sx (lay_ints [])) (by simp))
theorem bent_line {a b : Int} (h2 : -3 ≤ a) (h3 : a ≤ 3) : Bent [.str "line", .int a, .int b] := by
  have sx := kd_line.s
  have li := lay_int
  refine ⟨fun i hi hl v hv k => ?_, fun k => ?_, fun k => ?_, fun k => ?_⟩
  · have lv := lay_thing hv
    have fv := things_free hv
    have hi4 : i = 1 ∨ i = 2 := by
      have : i < 3 := hl
      omega
    rcases hi4 with rfl | rfl
    · exact chain_bad (t := .tup [.str "line", v, .int b]) (by simp [T.free, T.freeL, fv]) (line_bad (sh_parts sx (lay2 lv (li _))) (.inr (line_bad1 hv rfl)))
    · exact chain_bad (t := .tup [.str "line", .int a, v]) (by simp [T.free, T.freeL, fv]) (line_bad (sh_parts sx (lay2 (li _) lv)) (.inr (line_bad2 h2 h3 hv)))
  · exact chain_bad (t := .tup [.str "line", .int a]) rfl (line_bad (sh_parts sx (lay_ints [a])) (.inl (by simp)))
  · exact chain_bad (t := .tup [.str "line", .int a, .int b, .int 0]) rfl (line_bad (sh_parts sx (lay_ints [a, b, 0])) (.inl (by simp)))
  · exact chain_bad (t := .tup [.str "line"]) rfl (line_bad (sh_parts sx (lay_ints [])) (.inl (by simp)))
theorem bent_kar {x : Str} {m r : Int} (hx : x = "anew" ∨ x = "keep" ∨ x = "every") (hm : m = 2 ∨ m = 3) : Bent [.str x, .int m, .int r] := by
  have sx := (kd_kar hx).s
  have li := lay_int
  refine ⟨fun i hi hl v hv k => ?_, fun k => ?_, fun k => ?_, fun k => ?_⟩
  · have lv := lay_thing hv
    have fv := things_free hv
    have hi4 : i = 1 ∨ i = 2 := by
      have : i < 3 := hl
      omega
    rcases hi4 with rfl | rfl
    · exact chain_bad (t := .tup [.str x, v, .int r]) (by simp [T.free, T.freeL, fv]) (kar_bad hx (sh_parts sx (lay2 lv (li _))) (.inr (rest_bad1 hv rfl)))
    · exact chain_bad (t := .tup [.str x, .int m, v]) (by simp [T.free, T.freeL, fv]) (kar_bad hx (sh_parts sx (lay2 (li _) lv)) (.inr (rest_bad2 hm hv)))
  · exact chain_bad (t := .tup [.str x, .int m]) rfl (kar_bad hx (sh_parts sx (lay_ints [m])) (.inl (by simp)))
  · exact chain_bad (t := .tup [.str x, .int m, .int r, .int 0]) rfl (kar_bad hx (sh_parts sx (lay_ints [m, r, 0])) (.inl (by simp)))
  · exact chain_bad (t := .tup [.str x]) rfl (kar_bad hx (sh_parts sx (lay_ints [])) (.inl (by simp)))
theorem bent_groups {m : Int} : Bent [.str "groups", .int m] := by
  have sx := kd_groups.s
  refine ⟨fun i hi hl v hv k => ?_, fun k => ?_, fun k => ?_, fun k => ?_⟩
  · have lv := lay_thing hv
    have fv := things_free hv
    have hi1 : i = 1 := by
      have : i < 2 := hl
      omega
    subst hi1
    exact chain_bad (t := .tup [.str "groups", v]) (by simp [T.free, T.freeL, fv]) (groups_bad (sh_parts sx fun t ht => by rw [List.mem_singleton.mp ht]; exact lv) (call_bad (k := k + 1) hv (by decide) (by decide)))
  · exact chain_bad (t := .tup [.str "groups"]) rfl (groups_len (sh_parts sx (lay_ints [])) (by simp))
  · exact chain_bad (t := .tup [.str "groups", .int m, .int 0]) rfl (groups_len (sh_parts sx (lay_ints [m, 0])) (by simp))
  · exact chain_bad (t := .tup [.str "groups"]) rfl (groups_len (sh_parts sx (lay_ints [])) (by simp))
end P21
end

section
set_option Elab.async false
set_option linter.all false
set_option maxRecDepth 100000
set_option maxHeartbeats 4000000
namespace P21
open FC PySem D21
/-! ### the six cases -/
def casesT (m r : Int) : List T := [.tup [.str "turn", .int 4, .int 0, .int 1, .int 0], .tup [.str "turn", .int 1, .int 0, .int 1, .int 0], .tup [.str "turn", .int m, .int m, .int 1, .int 0],
  .tup [.str "turn", .int m, .int (-1), .int 1, .int 0], .tup [.str "turn", .int m, .int r, .int 4, .int 0], .tup [.str "turn", .int m, .int r, .int 0, .int 10]]
def excB (c : Nat) (r : R T) : Bool := match r with | .exc d _ => d == c | _ => false
theorem excB_ok {c : Nat} {r : R T} (h : excB c r = true) : ∃ S, r = .exc c S := by
  unfold excB at h
  split at h
  · rw [beq_iff_eq.mp h]; exact ⟨_, rfl⟩
  · cases h
def caseB (t : T) : Bool := t.free && okB false (M 22 5 [.tup [t]] []) && excB 0 (M 20 12 [.tup [t], .tup []] [])
theorem cases_all : [(2, 0), (2, 1), (3, 0), (3, 1), (3, 2)].all (fun p : Int × Int => (casesT p.1 p.2).all caseB) = true := by decide +kernel
theorem cases_ok {m r : Int} (hm : m = 2 ∨ m = 3) (h0 : 0 ≤ r) (h1 : r < m) : (casesT m r).all caseB = true := by
  have h := List.all_eq_true.mp cases_all (m, r) (by
    have h : (m = 2 ∧ r = 0) ∨ (m = 2 ∧ r = 1) ∨ (m = 3 ∧ r = 0) ∨ (m = 3 ∧ r = 1) ∨ (m = 3 ∧ r = 2) := by omega
    rcases h with ⟨rfl, rfl⟩ | ⟨rfl, rfl⟩ | ⟨rfl, rfl⟩ | ⟨rfl, rfl⟩ | ⟨rfl, rfl⟩ <;> simp)
  exact h
end P21
end

section
set_option Elab.async false
set_option linter.all false
set_option maxRecDepth 100000
set_option maxHeartbeats 4000000
namespace P21
open FC PySem D21
/-! ### steps of expressions -/
theorem ev_cmp {fe : FEnv} {op : COp} {a b : E} {e : FC.Env} {S S1 S2 : Sto} {x y : T} {v : Bool} (h1 : evE fe a e S = .ok x S1) (h2 : evE fe b e S1 = .ok y S2) (h3 : cmpT op S2 x y = some v) : evE fe (.cmp op a b) e S = .ok (.bl v) S2 := by
  rw [evE, h1]
  simp only [FC.R.bind]
  rw [h2]
  simp only [h3, FC.ofO, Option.map_some]
theorem evs_cons {fe : FEnv} {a : E} {r : List E} {e : FC.Env} {S S1 S2 : Sto} {x : T} {xs : List T} (h1 : evE fe a e S = .ok x S1) (h2 : evEs fe r e S1 = .ok xs S2) : evEs fe (a :: r) e S = .ok (x :: xs) S2 := by
  rw [evEs, h1]
  simp only [FC.R.bind]
  rw [h2]
theorem ev_tup {fe : FEnv} {es : List E} {e : FC.Env} {S S1 : Sto} {xs : List T} (h : evEs fe es e S = .ok xs S1) (hl : xs.length ≤ lim) : evE fe (.tup es) e S = .ok (.tup xs) S1 := by
  rw [evE, h]
  simp only [FC.R.bind, decide_eq_true hl, if_true]
theorem ev_call {fe : FEnv} {f : Nat} {es : List E} {e : FC.Env} {S S1 : Sto} {xs : List T} {r : R T} (h : evEs fe es e S = .ok xs S1) (h2 : fe f xs S1 = r) : evE fe (.call false f es) e S = r := by
  rw [evE, h]
  exact h2
theorem ev_callP {fe : FEnv} {f : Nat} {es : List E} {e : FC.Env} {S S1 : Sto} {xs : List T} {r : R T} (h : evEs fe es e S = .ok xs S1) (h2 : callP fe f xs S1 = r) : evE fe (.call true f es) e S = r := by
  rw [evE, h]
  exact h2
theorem ev_var {fe : FEnv} {i : Nat} {e : FC.Env} {S : Sto} {t : T} (h : e[i]? = some (some t)) : evE fe (.var i) e S = .ok t S := by
  rw [evE, h]
theorem ev_told {k : Nat} {a : E} {e : FC.Env} {S S1 : Sto} {t : T} (h : evE (M k) a e S = .ok t S1) : evE (M (k + 2)) (.told a) e S = .ok t S1 := by
  rw [evE]
  rw [show lowE (M (k + 2)) = M k from mean_low, h]
theorem ev_told_exc {k : Nat} {a : E} {e : FC.Env} {S S1 : Sto} {c : Nat} (hc : c < 6) (h : evE (M k) a e S = .exc c S1) : evE (M (k + 2)) (.told a) e S = .ok (.tup [.str "error", .str (excName c)]) S1 := by
  rw [evE]
  rw [show lowE (M (k + 2)) = M k from mean_low, h]
  simp [hc]
theorem ev_cut {fe : FEnv} {a lo hi : E} {e : FC.Env} {S S1 S2 : Sto} {x : T} {b : Int} {r : R T} (h1 : evE fe a e S = .ok x S1) (h2 : evE fe hi e S1 = .ok (.int b) S2) (h3 : putN false S2 (slcT S2 x none (some b)) = r) : evE fe (.slc false a false true lo hi) e S = r := by
  rw [evE, h1]
  simp only [FC.R.bind, Bool.false_eq_true, if_false, if_true]
  rw [h2]
  exact h3
theorem add_tup {S : Sto} {xs ys : List T} (h : xs.length + ys.length ≤ lim) : putN false S (binT .add S (.tup xs) (.tup ys)) = .ok (.tup (xs ++ ys)) S := by
  show putN false S (FC.guard (decide (xs.length + ys.length ≤ lim)) (.val (.tup (xs ++ ys)))) = _
  rw [decide_eq_true h]
  rfl
/-! ### a good step -/
abbrev outC : List C := [.ret (.cst (.bl false))]
abbrev is1 (a : E) : E := .call true 5 [(.tup [a])]
abbrev goodE : E := .or (.not (is1 (.var 4))) (.cmp .ne (.told (.call true 17 [(.var 9)])) (.tup [(.var 4)]))
structure Gd (p : Gs) : Prop where
  w : Wd p
  h4 : p.2.length ≤ 4
  h6 : p.1.length ≤ 6
  ch : ∀ k, M (k + 4) 5 [.tup [gT p]] [] = .ok (.bl true) []
  bt : Bent (.str p.1 :: p.2.map .int)
theorem gT_lay {p : Gs} (h : okS p.1) : PyData.canLay0 (gT p).data = true ∧ (gT p).data.depth ≤ 1 := by
  obtain ⟨h1, h2⟩ := shI _ (ints_all p.2)
  have hx := h.str
  simp [gT, T.data, T.dataL, PyData.canLay0, PyData.canLayAll0, PyData.depth, PyData.depthAll, h1, h2, hx]
theorem gTs_lay : ∀ ps : List Gs, (∀ p ∈ ps, okS p.1) → PyData.canLayAll0 (T.dataL (ps.map gT)) = true ∧ PyData.depthAll (T.dataL (ps.map gT)) ≤ 1
  | [], _ => by simp [T.dataL, PyData.canLayAll0, PyData.depthAll]
  | p :: ps, h => by
    obtain ⟨h1, h2⟩ := gT_lay (h p List.mem_cons_self)
    obtain ⟨h3, h4⟩ := gTs_lay ps fun t ht => h t (List.mem_cons_of_mem _ ht)
    constructor
    · simp [T.dataL, PyData.canLayAll0, h1, h3]
    · simp [T.dataL, PyData.depthAll]
      omega
theorem gTs_sh {ps : List Gs} (h : ∀ p ∈ ps, okS p.1) : SeqAt.shaped (PyData.tuple (T.dataL (ps.map gT))) = true := by
  obtain ⟨h1, h2⟩ := gTs_lay ps h
  simp [SeqAt.shaped, PyData.canLay0, PyData.depth, h1]
  omega
theorem gTs_eq {ps : List Gs} {S : Sto} (h : ∀ p ∈ ps, okS p.1) : eqT S (.tup (ps.map gT)) (.tup (ps.map gT)) = some true := by
  show eqD (PyData.tuple (T.dataL (ps.map gT))) (PyData.tuple (T.dataL (ps.map gT))) = _
  unfold eqD
  rw [gTs_sh h]
  have r : PyData.eqv (PyData.tuple (T.dataL (ps.map gT))) (PyData.tuple (T.dataL (ps.map gT))) = true := SeqAt.eqv_refl _ (by simp [PyData.canLay0, (gTs_lay ps h).1])
  rw [r]
  rfl
abbrev errT (c : Nat) : T := .tup [.str "error", .str (excName c)]
abbrev badT : T := .tup [.str "error", .str "InvalidText"]
theorem gs_eq {p : Gs} (h : Wd p) {S : Sto} : cmpT .ne S (.tup [gT p]) (.tup [gT p]) = some false := by
  have e := gTs_eq (ps := [p]) (S := S) (fun q hq => by rw [List.mem_singleton.mp hq]; exact h.ok)
  show (eqT S (.tup ([p].map gT)) (.tup ([p].map gT))).map (!·) = _
  rw [e]
  rfl
theorem good_e {p : Gs} (g : Gd p) {S : Sto} {a0 a1 a2 a3 a5 a6 a7 a8 a10 a11 a12 : Option T} : evE (M 22) goodE (L13 a0 a1 a2 a3 (some (gT p)) a5 a6 a7 a8 (some (.str (stepS p))) a10 a11 a12) S = .ok (.bl false) S := by
  have l1 : (1 : Nat) ≤ lim := by decide
  have c1 := callP_ok (k := 22) (i := 5) (S := S) (as := [.tup [gT p]]) (by simp [T.freeL, T.free, gT_free]) rfl (g.ch 18)
  have c2 := callP_ok (k := 20) (i := 17) (S := S) (as := [.str (stepS p)]) (t := .tup [gT p]) rfl (by simp [T.freeL, T.free, gT_free]) (parse_step g.w g.h4 g.h6 g.ch 15)
  have et : evE (M 22) (.tup [(.var 4)]) (L13 a0 a1 a2 a3 (some (gT p)) a5 a6 a7 a8 (some (.str (stepS p))) a10 a11 a12) S = .ok (.tup [gT p]) S := ev_tup (evs_cons (ev_var (t := gT p) rfl) rfl) l1
  refine ev_or0 (ev_not (v := true) (ev_callP (evs_cons et rfl) c1)) ?_
  exact ev_cmp (ev_told (k := 20) (ev_callP (evs_cons (ev_var (t := .str (stepS p)) rfl) rfl) c2)) et (gs_eq g.w)
end P21
end

section
set_option Elab.async false
set_option linter.all false
set_option maxRecDepth 100000
set_option maxHeartbeats 4000000
namespace P21
open FC PySem D21
theorem sIx_n {n d i : Nat} (h : i ≤ n) : HT.sIx n d (some ((i : Nat) : Int)) = i := by
  unfold HT.sIx
  simp only
  rw [if_neg (by omega)]
  omega
theorem cut_take {S : Sto} {xs : List T} {b : Nat} (hb : b ≤ xs.length) : putN false S (slcT S (.tup xs) none (some ((b : Nat) : Int))) = .ok (.tup (xs.take b)) S := by
  show R.ok (T.tup (cutT xs none (some ((b : Nat) : Int)))) S = _
  unfold cutT
  rw [sIx_n hb]
  show R.ok (T.tup ((xs.drop 0).take (b - 0))) S = _
  rw [List.drop_zero, Nat.sub_zero]
theorem cut_drop {S : Sto} {xs : List T} {b : Nat} (hb : b ≤ xs.length) : putN false S (slcT S (.tup xs) (some ((b : Nat) : Int)) none) = .ok (.tup (xs.drop b)) S := by
  show R.ok (T.tup (cutT xs (some ((b : Nat) : Int)) none)) S = _
  unfold cutT
  rw [sIx_n hb]
  show R.ok (T.tup ((xs.drop b).take (xs.length - b))) S = _
  rw [List.take_of_length_le (by rw [List.length_drop]; omega)]
theorem ev_drop {fe : FEnv} {a lo hi : E} {e : FC.Env} {S S1 S2 : Sto} {x : T} {b : Int} {r : R T} (h1 : evE fe a e S = .ok x S1) (h2 : evE fe lo e S1 = .ok (.int b) S2) (h3 : putN false S2 (slcT S2 x (some b) none) = r) : evE fe (.slc false a true false lo hi) e S = r := by
  rw [evE, h1]
  simp only [FC.R.bind, Bool.false_eq_true, if_false, if_true]
  rw [h2]
  exact h3
abbrev bentV : E := .bin .add false (.bin .add false (.slc false (.var 4) false true (.cst .non) (.var 10)) (.tup [(.var 11)])) (.slc false (.var 4) true false (.bin .add false (.var 10) (.cst (.int 1))) (.cst .non))
theorem freeL_mem : ∀ ts : List T, T.freeL ts = true → ∀ t ∈ ts, t.free = true
  | [], _, t, h => by simp at h
  | u :: ts, hf, t, h => by
    have hf := Bool.and_eq_true_iff.mp (show (T.free u && T.freeL ts) = true from hf)
    rcases List.mem_cons.mp h with rfl | h
    · exact hf.1
    · exact freeL_mem ts hf.2 t h
theorem bent_e {ps : List T} (B : Bent ps) (hl : ps.length ≤ 100) (hf : T.freeL ps = true) {i : Nat} (h1 : 1 ≤ i) (h2 : i < ps.length) {v : T} (hv : v ∈ things) {S : Sto} {a0 a1 a2 a3 a5 a6 a7 a8 a9 a12 : Option T} :
    evE (M 22) (is1 bentV) (L13 a0 a1 a2 a3 (some (.tup ps)) a5 a6 a7 a8 a9 (some (.int (i : Nat))) (some v) a12) S = .ok (.bl false) S := by
  have hlim : lim = 16777216 := rfl
  have l1 : (1 : Nat) ≤ lim := by decide
  have e1 : evE (M 22) (.slc false (.var 4) false true (.cst .non) (.var 10)) (L13 a0 a1 a2 a3 (some (.tup ps)) a5 a6 a7 a8 a9 (some (.int (i : Nat))) (some v) a12) S = .ok (.tup (ps.take i)) S :=
    ev_cut (ev_var (t := .tup ps) rfl) (b := (i : Int)) (ev_var rfl) (cut_take (by omega))
  have e2 : evE (M 22) (.slc false (.var 4) true false (.bin .add false (.var 10) (.cst (.int 1))) (.cst .non)) (L13 a0 a1 a2 a3 (some (.tup ps)) a5 a6 a7 a8 a9 (some (.int (i : Nat))) (some v) a12) S = .ok (.tup (ps.drop (i + 1))) S :=
    ev_drop (ev_var (t := .tup ps) rfl) (b := ((i + 1 : Nat) : Int)) rfl (cut_drop (by omega))
  have e3 : evE (M 22) bentV (L13 a0 a1 a2 a3 (some (.tup ps)) a5 a6 a7 a8 a9 (some (.int (i : Nat))) (some v) a12) S = .ok (.tup (ps.take i ++ [v] ++ ps.drop (i + 1))) S := by
    refine ev_bin (r := .ok _ S) (ev_bin (r := .ok _ S) e1 (ev_tup (evs_cons (ev_var (t := v) rfl) rfl) l1) (add_tup ?_)) e2 (add_tup ?_)
    · rw [List.length_take, List.length_singleton]; omega
    · rw [List.length_append, List.length_take, List.length_singleton, List.length_drop]; omega
  have fr : T.freeL [.tup [.tup (ps.take i ++ [v] ++ ps.drop (i + 1))]] = true := by
    have f1 : T.freeL (ps.take i ++ [v] ++ ps.drop (i + 1)) = true := freeL_of _ fun t ht => by
      rcases List.mem_append.mp ht with ht | ht
      · rcases List.mem_append.mp ht with ht | ht
        · exact freeL_mem ps hf t (List.mem_of_mem_take ht)
        · rw [List.mem_singleton.mp ht]; exact things_free hv
      · exact freeL_mem ps hf t (List.mem_of_mem_drop ht)
    show ((T.freeL (ps.take i ++ [v] ++ ps.drop (i + 1)) && true) && true) = true
    rw [f1]
    rfl
  have c := callP_ok (k := 22) (i := 5) (S := S) fr rfl (B.pl i h1 h2 v hv 18)
  exact ev_callP (evs_cons (ev_tup (evs_cons e3 rfl) l1) rfl) c
end P21
end

section
set_option Elab.async false
set_option linter.all false
set_option maxRecDepth 100000
set_option maxHeartbeats 4000000
namespace P21
open FC PySem D21
theorem c_loop {fe : FEnv} {n : Nat} {tg : P} {kk : ItK} {i1 i2 : E} {b : List C} {e : FC.Env} {S S1 : Sto} {xs : List T} {o : O} (h1 : itR fe kk i1 i2 e S = .ok xs S1) (h2 : loopL (fun e S => evCs fe n b e S) tg xs e S1 = o) : evC fe n (.loop tg kk i1 i2 b) e S = o := by
  unfold itR at h1
  rw [evC]
  cases ha : evE fe i1 e S with
  | ok x S2 =>
    rw [ha] at h1
    simp only [FC.R.bind] at h1
    cases hb : evE fe i2 e S2 with
    | ok y S3 =>
      rw [hb] at h1
      simp only at h1
      cases hi : itT kk S3 x y with
      | none => rw [hi] at h1; cases h1
      | some zs =>
        rw [hi] at h1
        cases h1
        simp only [R.out, hb, hi]
        exact h2
    | exc c S3 => rw [hb] at h1; cases h1
    | bad => rw [hb] at h1; cases h1
  | exc c S2 => rw [ha] at h1; cases h1
  | bad => rw [ha] at h1; cases h1
abbrev bentC : List C := [.ite (is1 bentV) outC []]
theorem thing_loop {ps : List T} (B : Bent ps) (hl : ps.length ≤ 100) (hf : T.freeL ps = true) {i : Nat} (h1 : 1 ≤ i) (h2 : i < ps.length) {S : Sto} {a0 a1 a2 a3 a5 a6 a7 a8 a9 a12 : Option T} : ∀ (vs : List T) (a11 : Option T), (∀ v ∈ vs, v ∈ things) →
    ∃ b11, loopL (fun e S => evCs (M 22) fuel bentC e S) (.nm 11) vs (L13 a0 a1 a2 a3 (some (.tup ps)) a5 a6 a7 a8 a9 (some (.int (i : Nat))) a11 a12) S = .nx (L13 a0 a1 a2 a3 (some (.tup ps)) a5 a6 a7 a8 a9 (some (.int (i : Nat))) b11 a12) S
  | [], a11, _ => ⟨a11, rfl⟩
  | v :: vs, a11, hv => by
    obtain ⟨b, q⟩ := thing_loop B hl hf h1 h2 (S := S) (a0 := a0) (a1 := a1) (a2 := a2) (a3 := a3) (a5 := a5) (a6 := a6) (a7 := a7) (a8 := a8) (a9 := a9) (a12 := a12) vs (some v) fun u hu => hv u (List.mem_cons_of_mem _ hu)
    refine ⟨b, ?_⟩
    have e := bent_e B hl hf h1 h2 (hv v List.mem_cons_self) (S := S) (a0 := a0) (a1 := a1) (a2 := a2) (a3 := a3) (a5 := a5) (a6 := a6) (a7 := a7) (a8 := a8) (a9 := a9) (a12 := a12)
    have c := c_ite (fuel := fuel) (A := outC) (B := []) e
    show (evCs (M 22) fuel bentC (L13 a0 a1 a2 a3 (some (.tup ps)) a5 a6 a7 a8 a9 (some (.int (i : Nat))) (some v) a12) S).then _ = _
    rw [cs_nx (e1 := L13 a0 a1 a2 a3 (some (.tup ps)) a5 a6 a7 a8 a9 (some (.int (i : Nat))) (some v) a12) (S1 := S) (by rw [c]; rfl) rfl]
    exact q
end P21
end

section
set_option Elab.async false
set_option linter.all false
set_option maxRecDepth 100000
set_option maxHeartbeats 4000000
namespace P21
open FC PySem D21
abbrev thingsE : E := .tup [(.cst .non), (.cst (.bl true)), (.cst (.str "1")), (.tup [(.cst (.int 1))]), (.cst (.int 10)), (.neg (.cst (.int 10)))]
abbrev placeC : List C := [.loop (.nm 11) .of thingsE (.cst .non) bentC]
theorem place_loop {ps : List T} (B : Bent ps) (hl : ps.length ≤ 100) (hf : T.freeL ps = true) {S : Sto} {a0 a1 a2 a3 a5 a6 a7 a8 a9 a12 : Option T} : ∀ (is : List Nat) (a10 a11 : Option T), (∀ i ∈ is, 1 ≤ i ∧ i < ps.length) →
    ∃ b10 b11, loopL (fun e S => evCs (M 22) fuel placeC e S) (.nm 10) (is.map fun i : Nat => .int (i : Nat)) (L13 a0 a1 a2 a3 (some (.tup ps)) a5 a6 a7 a8 a9 a10 a11 a12) S = .nx (L13 a0 a1 a2 a3 (some (.tup ps)) a5 a6 a7 a8 a9 b10 b11 a12) S
  | [], a10, a11, _ => ⟨a10, a11, rfl⟩
  | i :: is, a10, a11, hi => by
    have hi0 := hi i List.mem_cons_self
    obtain ⟨c11, q1⟩ := thing_loop B hl hf hi0.1 hi0.2 (S := S) (a0 := a0) (a1 := a1) (a2 := a2) (a3 := a3) (a5 := a5) (a6 := a6) (a7 := a7) (a8 := a8) (a9 := a9) (a12 := a12) things a11 fun _ h => h
    obtain ⟨b10, b11, q2⟩ := place_loop B hl hf (S := S) (a0 := a0) (a1 := a1) (a2 := a2) (a3 := a3) (a5 := a5) (a6 := a6) (a7 := a7) (a8 := a8) (a9 := a9) (a12 := a12) is (some (.int (i : Nat))) c11 fun j hj => hi j (List.mem_cons_of_mem _ hj)
    refine ⟨b10, b11, ?_⟩
    have c := c_loop (fe := M 22) (n := fuel) (tg := .nm 11) (kk := .of) (i1 := thingsE) (i2 := .cst .non) (b := bentC) (xs := things) (S := S) (S1 := S) rfl q1
    show (evCs (M 22) fuel placeC (L13 a0 a1 a2 a3 (some (.tup ps)) a5 a6 a7 a8 a9 (some (.int (i : Nat))) a11 a12) S).then _ = _
    rw [cs_nx c rfl]
    exact q2
end P21
end

section
set_option Elab.async false
set_option linter.all false
set_option maxRecDepth 100000
set_option maxHeartbeats 4000000
namespace P21
open FC PySem D21
abbrev endE : E := .or (is1 (.slc false (.var 4) false true (.cst .non) (.neg (.cst (.int 1))))) (.or (is1 (.bin .add false (.var 4) (.tup [(.cst (.int 0))]))) (is1 (.slc false (.var 4) false true (.cst .non) (.cst (.int 1)))))
theorem sIx_m1 {n : Nat} : HT.sIx n n (some (-1)) = n - 1 := by
  show (if (-1 : Int) < 0 then ((-1 : Int) + (n : Int)).toNat else min (-1 : Int).toNat n) = n - 1
  rw [if_pos (by decide)]
  omega
theorem cut_last {S : Sto} {ps : List T} : putN false S (slcT S (.tup ps) none (some (-1))) = .ok (.tup ps.dropLast) S := by
  show R.ok (T.tup (cutT ps none (some (-1)))) S = _
  unfold cutT
  rw [sIx_m1]
  show R.ok (T.tup ((ps.drop 0).take (ps.length - 1 - 0))) S = _
  rw [List.drop_zero, Nat.sub_zero, List.dropLast_eq_take]
theorem is1_e {a : E} {t : T} {e : FC.Env} {S : Sto} (h1 : evE (M 22) a e S = .ok t S) (h2 : callP (M 22) 5 [.tup [t]] S = .ok (.bl false) S) : evE (M 22) (is1 a) e S = .ok (.bl false) S :=
  ev_callP (evs_cons (ev_tup (evs_cons h1 rfl) (show (1 : Nat) ≤ lim by decide)) rfl) h2
theorem is1_call {qs : List T} {S : Sto} (hf : T.freeL qs = true) (hb : NoCh (.tup qs)) : callP (M 22) 5 [.tup [.tup qs]] S = .ok (.bl false) S := by
  have fr : T.freeL [.tup [.tup qs]] = true := by
    show ((T.freeL qs && true) && true) = true
    rw [hf]
    rfl
  exact callP_ok (k := 22) (i := 5) (S := S) fr rfl (hb 18)
theorem neg1_e {e : FC.Env} {S : Sto} : evE (M 22) (.neg (.cst (.int 1))) e S = .ok (.int (-1)) S := by rw [evE, evE]; rfl
theorem tup0_e {e : FC.Env} {S : Sto} : evE (M 22) (.tup [(.cst (.int 0))]) e S = .ok (.tup [.int 0]) S := ev_tup (evs_cons (by rw [evE]) (by rw [evEs])) (show (1 : Nat) ≤ lim by decide)
theorem tA {ps : List T} (hl : ps.length ≤ 100) {e : FC.Env} {S : Sto} (v4 : evE (M 22) (.var 4) e S = .ok (.tup ps) S) : evE (M 22) (.slc false (.var 4) false true (.cst .non) (.neg (.cst (.int 1)))) e S = .ok (.tup ps.dropLast) S := ev_cut v4 neg1_e cut_last
theorem tB {ps : List T} (hl : ps.length ≤ 100) {e : FC.Env} {S : Sto} (v4 : evE (M 22) (.var 4) e S = .ok (.tup ps) S) : evE (M 22) (.bin .add false (.var 4) (.tup [(.cst (.int 0))])) e S = .ok (.tup (ps ++ [.int 0])) S := ev_bin v4 tup0_e (add_tup (by rw [List.length_singleton]; have hlim : lim = 16777216 := rfl; omega))
theorem tC {ps : List T} (hn : 1 ≤ ps.length) (hl : ps.length ≤ 100) {e : FC.Env} {S : Sto} (v4 : evE (M 22) (.var 4) e S = .ok (.tup ps) S) : evE (M 22) (.slc false (.var 4) false true (.cst .non) (.cst (.int 1))) e S = .ok (.tup (ps.take 1)) S := ev_cut v4 (b := ((1 : Nat) : Int)) (by rw [evE]; rfl) (cut_take hn)
theorem tD {ps : List T} (B : Bent ps) (hf : T.freeL ps = true) {S : Sto} : callP (M 22) 5 [.tup [.tup ps.dropLast]] S = .ok (.bl false) S := is1_call (S := S) (freeL_of ps.dropLast fun t ht => freeL_mem ps hf t (List.dropLast_subset _ ht)) B.dl
theorem tE {ps : List T} (B : Bent ps) (hf : T.freeL ps = true) {S : Sto} : callP (M 22) 5 [.tup [.tup (ps ++ [.int 0])]] S = .ok (.bl false) S := is1_call (S := S) (freeL_of (ps ++ [.int 0]) fun t ht => by
    rcases List.mem_append.mp ht with ht | ht
    · exact freeL_mem ps hf t ht
    · rw [List.mem_singleton.mp ht]; rfl) B.mo
theorem tF {ps : List T} (B : Bent ps) (hf : T.freeL ps = true) {S : Sto} : callP (M 22) 5 [.tup [.tup (ps.take 1)]] S = .ok (.bl false) S := is1_call (S := S) (freeL_of (ps.take 1) fun t ht => freeL_mem ps hf t (List.mem_of_mem_take ht)) B.wd
theorem end_e {ps : List T} (B : Bent ps) (hn : 1 ≤ ps.length) (hl : ps.length ≤ 100) (hf : T.freeL ps = true) {e : FC.Env} {S : Sto} (v4 : evE (M 22) (.var 4) e S = .ok (.tup ps) S) :
    evE (M 22) endE e S = .ok (.bl false) S :=
  ev_or0 (is1_e (tA hl v4) (tD B hf)) (ev_or0 (is1_e (tB hl v4) (tE B hf)) (is1_e (tC hn hl v4) (tF B hf)))
end P21
end

section
set_option Elab.async false
set_option linter.all false
set_option maxRecDepth 100000
set_option maxHeartbeats 400000
namespace P21
open FC PySem D21
/-! ### the walk at one good step -/
abbrev stepC : List C := [.asg (.name 9) textE, .ite goodE outC [], .loop (.nm 10) .range2 (.cst (.int 1)) (.bfn .len false [(.var 4)]) placeC, .ite endE outC []]
theorem rng_from (n : Nat) : rngL n 1 = ((List.range n).map fun i => i + 1).map fun i : Nat => T.int (i : Nat) := by
  unfold rngL
  rw [List.map_map]
  refine List.map_congr_left fun i _ => ?_
  show T.int (1 + (i : Int)) = T.int ((i + 1 : Nat) : Int)
  congr 1
  omega
theorem it_r2 {fe : FEnv} {e : FC.Env} {S : Sto} {ps : List T} (hl : ps.length ≤ 100) (h1 : 1 ≤ ps.length) (v4 : evE fe (.var 4) e S = .ok (.tup ps) S) : itR fe .range2 (.cst (.int 1)) (.bfn .len false [(.var 4)]) e S = .ok (((List.range (ps.length - 1)).map fun i => i + 1).map fun i : Nat => T.int (i : Nat)) S := by
  have e1 : evE fe (.bfn .len false [(.var 4)]) e S = .ok (.int (ps.length : Nat)) S := ev_bfn1 v4 rfl
  unfold itR
  rw [evE]
  simp only [FC.R.bind]
  rw [e1]
  have s1 : small62 1 = true := by decide
  have s2 : small62 (ps.length : Nat) = true := by
    unfold small62
    rw [Bool.and_eq_true]
    exact ⟨decide_eq_true (by omega), decide_eq_true (by omega)⟩
  have i1 : itT .range2 S (.int 1) (.int (ps.length : Nat)) = some (rngL ((ps.length : Int) - 1).toNat 1) := by
    show (if small62 1 && small62 (ps.length : Nat) then some (rngL ((ps.length : Int) - 1).toNat 1) else none) = _
    rw [s1, s2]
    rfl
  simp only
  rw [i1, show ((ps.length : Int) - 1).toNat = ps.length - 1 by omega, rng_from]
  rfl
theorem good_body {p : Gs} (g : Gd p) {S : Sto} {a0 a1 a2 a3 a5 a6 a7 a8 a9 a10 a11 a12 : Option T} :
    ∃ b9 b10 b11, evCs (M 22) fuel stepC (L13 a0 a1 a2 a3 (some (gT p)) a5 a6 a7 a8 a9 a10 a11 a12) S = .nx (L13 a0 a1 a2 a3 (some (gT p)) a5 a6 a7 a8 b9 b10 b11 a12) S := by
  have hl : (T.str p.1 :: p.2.map T.int).length ≤ 100 := by
    have := g.h4
    simp
    omega
  have h1 : 1 ≤ (T.str p.1 :: p.2.map T.int).length := by simp
  have hf : T.freeL (T.str p.1 :: p.2.map T.int) = true := gT_free p
  have q1 : evC (M 22) fuel (.asg (.name 9) textE) (L13 a0 a1 a2 a3 (some (gT p)) a5 a6 a7 a8 a9 a10 a11 a12) S = .nx (L13 a0 a1 a2 a3 (some (gT p)) a5 a6 a7 a8 (some (.str (stepS p))) a10 a11 a12) S := c_asg (i := 9) (text_e g.w.toWf)
  have q2 : evC (M 22) fuel (.ite goodE outC []) (L13 a0 a1 a2 a3 (some (gT p)) a5 a6 a7 a8 (some (.str (stepS p))) a10 a11 a12) S = .nx (L13 a0 a1 a2 a3 (some (gT p)) a5 a6 a7 a8 (some (.str (stepS p))) a10 a11 a12) S := by
    rw [c_ite (v := false) (good_e g)]
    rfl
  obtain ⟨b10, b11, q⟩ := place_loop g.bt hl hf (S := S) (a0 := a0) (a1 := a1) (a2 := a2) (a3 := a3) (a5 := a5) (a6 := a6) (a7 := a7) (a8 := a8) (a9 := some (.str (stepS p))) (a12 := a12) ((List.range ((T.str p.1 :: p.2.map T.int).length - 1)).map fun i => i + 1) a10 a11 fun i hi => by
    obtain ⟨j, hj, rfl⟩ := List.mem_map.mp hi
    have := List.mem_range.mp hj
    omega
  have q3 := c_loop (fe := M 22) (n := fuel) (tg := .nm 10) (kk := .range2) (i1 := .cst (.int 1)) (i2 := .bfn .len false [(.var 4)]) (b := placeC) (it_r2 hl h1 (ev_var (e := L13 a0 a1 a2 a3 (some (gT p)) a5 a6 a7 a8 (some (.str (stepS p))) a10 a11 a12) rfl)) q
  have q4 : evC (M 22) fuel (.ite endE outC []) (L13 a0 a1 a2 a3 (some (gT p)) a5 a6 a7 a8 (some (.str (stepS p))) b10 b11 a12) S = .nx (L13 a0 a1 a2 a3 (some (gT p)) a5 a6 a7 a8 (some (.str (stepS p))) b10 b11 a12) S := by
    rw [c_ite (v := false) (end_e g.bt h1 hl hf (ev_var rfl))]
    rfl
  exact ⟨_, _, _, cs_nx q1 (cs_nx q2 (cs_nx q3 (cs_nx q4 rfl)))⟩
theorem step_loop {S : Sto} {a0 a1 a2 a3 a5 a6 a7 a8 a12 : Option T} : ∀ (ps : List Gs) (a4 a9 a10 a11 : Option T), (∀ p ∈ ps, Gd p) →
    ∃ b4 b9 b10 b11, loopL (fun e S => evCs (M 22) fuel stepC e S) (.nm 4) (ps.map gT) (L13 a0 a1 a2 a3 a4 a5 a6 a7 a8 a9 a10 a11 a12) S = .nx (L13 a0 a1 a2 a3 b4 a5 a6 a7 a8 b9 b10 b11 a12) S
  | [], a4, a9, a10, a11, _ => ⟨_, _, _, _, rfl⟩
  | p :: ps, a4, a9, a10, a11, h => by
    obtain ⟨c9, c10, c11, q1⟩ := good_body (h p List.mem_cons_self) (S := S) (a0 := a0) (a1 := a1) (a2 := a2) (a3 := a3) (a5 := a5) (a6 := a6) (a7 := a7) (a8 := a8) (a9 := a9) (a10 := a10) (a11 := a11) (a12 := a12)
    obtain ⟨b4, b9, b10, b11, q2⟩ := step_loop (S := S) (a0 := a0) (a1 := a1) (a2 := a2) (a3 := a3) (a5 := a5) (a6 := a6) (a7 := a7) (a8 := a8) (a12 := a12) ps (some (gT p)) c9 c10 c11 fun q hq => h q (List.mem_cons_of_mem _ hq)
    refine ⟨b4, b9, b10, b11, ?_⟩
    show (evCs (M 22) fuel stepC (L13 a0 a1 a2 a3 (some (gT p)) a5 a6 a7 a8 a9 a10 a11 a12) S).then _ = _
    rw [q1]
    exact q2
end P21
end

section
set_option Elab.async false
set_option linter.all false
set_option maxRecDepth 100000
set_option maxHeartbeats 400000
namespace P21
open FC PySem D21
/-! ### the good steps -/
theorem isCh_one (t : T) : isCh [t] = true := by
  have h : ∀ p : T → Bool, ([t].filter p).length ≤ 1 := fun p => List.length_filter_le p [t]
  unfold isCh
  simp only [Bool.and_eq_true, decide_eq_true_eq]
  exact ⟨(show 1 ≤ 4 by decide), Nat.le_trans (h _) (by decide), Nat.le_trans (h _) (by decide), h _⟩
theorem one_ch {t : T} (h : Stp t) (k : Nat) : M (k + 4) 5 [.tup [t]] [] = .ok (.bl true) [] := by
  have e := is_chain (k := k) (ts := [t]) (fun u hu => by rw [List.mem_singleton.mp hu]; exact h) (show 1 ≤ 1000 by decide)
  rw [isCh_one] at e
  exact e
theorem gd_turn {m r a b : Int} (hm : m = 2 ∨ m = 3) (h0 : 0 ≤ r) (h1 : r < m) (h2 : -3 ≤ a) (h3 : a ≤ 3) (h4 : -9 ≤ b) (h5 : b ≤ 9) : Gd ("turn", [m, r, a, b]) where
  w := word_wd (by decide +kernel) (by simp) fun i hi => by
    simp at hi
    rcases hi with rfl | rfl | rfl | rfl <;> omega
  h4 := by simp
  h6 := (show ("turn" : Str).length ≤ 6 by decide +kernel)
  ch := one_ch (Stp.turn hm h0 h1 h2 h3 h4 h5)
  bt := bent_turn hm h0 h1 h2 h3
theorem gd_line {a b : Int} (h2 : -3 ≤ a) (h3 : a ≤ 3) (h4 : -9 ≤ b) (h5 : b ≤ 9) : Gd ("line", [a, b]) where
  w := word_wd (by decide +kernel) (by simp) fun i hi => by
    simp at hi
    rcases hi with rfl | rfl <;> omega
  h4 := by simp
  h6 := (show ("line" : Str).length ≤ 6 by decide +kernel)
  ch := one_ch (Stp.line h2 h3 h4 h5)
  bt := bent_line h2 h3
theorem gd_kar {x : Str} {m r : Int} (hx : x = "anew" ∨ x = "keep" ∨ x = "every") (hm : m = 2 ∨ m = 3) (h0 : 0 ≤ r) (h1 : r < m) : Gd (x, [m, r]) where
  w := word_wd (by rcases hx with rfl | rfl | rfl <;> decide +kernel) (by simp) fun i hi => by
    simp at hi
    rcases hi with rfl | rfl <;> omega
  h4 := by simp
  h6 := by
    show x.length ≤ 6
    clear h1 h0 hm
    rcases hx with rfl | rfl | rfl <;> decide +kernel
  ch := one_ch (Stp.kar hx hm h0 h1)
  bt := bent_kar hx hm
theorem gd_groups {m : Int} (hm : m = 2 ∨ m = 3) : Gd ("groups", [m]) where
  w := word_wd (by decide +kernel) (by simp) fun i hi => by
    rw [List.mem_singleton.mp hi]
    omega
  h4 := by simp
  h6 := (show ("groups" : Str).length ≤ 6 by decide +kernel)
  ch := one_ch (Stp.groups (by omega) (by omega))
  bt := bent_groups
def goodsA (m r a b : Int) : List Gs := [("turn", [m, r, a, b]), ("turn", [m, r, 3, -9]), ("turn", [3, 2, -3, 9]), ("line", [a, b])]
def goodsB (m r : Int) : List Gs := [("keep", [m, r]), ("anew", [m, r]), ("every", [m, r]), ("groups", [m])]
def goods (m r a b : Int) : List Gs := goodsA m r a b ++ goodsB m r
theorem goods_gd {m r a b : Int} (hm : m = 2 ∨ m = 3) (h0 : 0 ≤ r) (h1 : r < m) (h2 : -3 ≤ a) (h3 : a ≤ 3) (h4 : -9 ≤ b) (h5 : b ≤ 9) : ∀ p ∈ goods m r a b, Gd p := fun p hp => by
  simp only [goods, goodsA, goodsB, List.cons_append, List.nil_append, List.mem_cons, List.not_mem_nil, or_false] at hp
  rcases hp with rfl | rfl | rfl | rfl | rfl | rfl | rfl | rfl
  · exact gd_turn hm h0 h1 h2 h3 h4 h5
  · exact gd_turn hm h0 h1 (by decide) (by decide) (by decide) (by decide)
  · exact gd_turn (.inr rfl) (by decide) (by decide) (by decide) (by decide) (by decide) (by decide)
  · exact gd_line h2 h3 h4 h5
  · exact gd_kar (.inr (.inl rfl)) hm h0 h1
  · exact gd_kar (.inl rfl) hm h0 h1
  · exact gd_kar (.inr (.inr rfl)) hm h0 h1
  · exact gd_groups hm
/-! ### the cases -/
theorem err0_eq {S : Sto} : eqT S (errT 0) (.tup [.str "error", .str "InvalidChain"]) = some true := by
  show eqT [] (errT 0) (.tup [.str "error", .str "InvalidChain"]) = some true
  decide +kernel
abbrev caseE : E := .or (is1 (.var 4)) (.cmp .ne (.told (.call true 12 [(.tup [(.var 4)]), (.tup [])])) (.tup [(.cst (.str "error")), (.cst (.str "InvalidChain"))]))
abbrev caseC : List C := [.ite caseE outC []]
theorem case_e {t : T} (h : caseB t = true) {e : FC.Env} {S : Sto} (v4 : ∀ k, evE (M k) (.var 4) e S = .ok t S) : evE (M 22) caseE e S = .ok (.bl false) S := by
  have l1 : (1 : Nat) ≤ lim := by decide
  have l0 : (0 : Nat) ≤ lim := by decide
  have l2 : (2 : Nat) ≤ lim := by decide
  unfold caseB at h
  simp only [Bool.and_eq_true] at h
  obtain ⟨⟨hf, hb⟩, hx⟩ := h
  obtain ⟨S1, hb⟩ := okB_ok hb
  obtain ⟨S2, hx⟩ := excB_ok hx
  have f1 : T.freeL [.tup [t]] = true := by simp [T.freeL, T.free, hf]
  have f2 : T.freeL [.tup [t], .tup []] = true := by simp [T.freeL, T.free, hf]
  have c1 := callP_ok (k := 22) (i := 5) (S := S) f1 rfl hb
  have c2 := callP_exc (k := 20) (i := 12) (S := S) f2 hx
  have t1 : ∀ k, evE (M k) (.tup [(.var 4)]) e S = .ok (.tup [t]) S := fun k => ev_tup (evs_cons (v4 k) (by rw [evEs])) l1
  have t0 : evE (M 20) (.tup []) e S = .ok (.tup []) S := ev_tup (by rw [evEs]) l0
  have te : evE (M 22) (.tup [(.cst (.str "error")), (.cst (.str "InvalidChain"))]) e S = .ok (.tup [.str "error", .str "InvalidChain"]) S := ev_tup (evs_cons (by rw [evE]) (evs_cons (by rw [evE]) (by rw [evEs]))) l2
  have tl : evE (M 22) (.told (.call true 12 [(.tup [(.var 4)]), (.tup [])])) e S = .ok (errT 0) S := ev_told_exc (k := 20) (by decide) (ev_callP (evs_cons (t1 20) (evs_cons t0 (by rw [evEs]))) c2)
  refine ev_or0 (ev_callP (evs_cons (t1 22) (by rw [evEs])) c1) (ev_cmp tl te ?_)
  show (eqT S (errT 0) (.tup [.str "error", .str "InvalidChain"])).map (!·) = _
  rw [err0_eq]
  rfl
theorem case_loop {S : Sto} {a0 a1 a2 a3 a5 a6 a7 a8 a9 a10 a11 a12 : Option T} : ∀ (ts : List T) (a4 : Option T), ts.all caseB = true →
    ∃ b4, loopL (fun e S => evCs (M 22) fuel caseC e S) (.nm 4) ts (L13 a0 a1 a2 a3 a4 a5 a6 a7 a8 a9 a10 a11 a12) S = .nx (L13 a0 a1 a2 a3 b4 a5 a6 a7 a8 a9 a10 a11 a12) S
  | [], a4, _ => ⟨_, rfl⟩
  | t :: ts, a4, h => by
    have h := Bool.and_eq_true_iff.mp (show (caseB t && ts.all caseB) = true from h)
    obtain ⟨b4, q2⟩ := case_loop (S := S) (a0 := a0) (a1 := a1) (a2 := a2) (a3 := a3) (a5 := a5) (a6 := a6) (a7 := a7) (a8 := a8) (a9 := a9) (a10 := a10) (a11 := a11) (a12 := a12) ts (some t) h.2
    refine ⟨b4, ?_⟩
    have q1 : evC (M 22) fuel (.ite caseE outC []) (L13 a0 a1 a2 a3 (some t) a5 a6 a7 a8 a9 a10 a11 a12) S = .nx (L13 a0 a1 a2 a3 (some t) a5 a6 a7 a8 a9 a10 a11 a12) S := by
      rw [c_ite (v := false) (case_e h.1 fun k => ev_var rfl)]
      rfl
    show (evCs (M 22) fuel caseC (L13 a0 a1 a2 a3 (some t) a5 a6 a7 a8 a9 a10 a11 a12) S).then _ = _
    rw [cs_nx q1 rfl]
    exact q2
end P21
end

section
set_option Elab.async false
set_option linter.all false
set_option maxRecDepth 100000
set_option maxHeartbeats 400000
namespace P21
open FC PySem D21
/-! ### the law's body -/
def lawB : List C := match d_law.body with | .loop _ _ _ _ b :: _ => b | _ => []
def asgA : List C := (lawB.drop 2).take 2
def asgB : List C := (lawB.drop 5).take 2
abbrev drawE : E := .tup [(.bin .add false (.cst (.int 2)) (.call false 20 [(.var 1), (.cst (.int 2))])), (.bin .sub false (.call false 20 [(.var 1), (.cst (.int 7))]) (.cst (.int 3))), (.bin .sub false (.call false 20 [(.var 1), (.cst (.int 19))]) (.cst (.int 9)))]
abbrev drawC : C := .asg (.tup [(.name 6), (.name 7), (.name 8)]) drawE
abbrev drawR : C := .asg (.name 2) (.call false 20 [(.var 1), (.var 6)])
abbrev lastC : List C := [.ite (.not (.call true 22 [])) outC []]
theorem lawB_eq : lawB = drawC :: drawR :: (asgA ++ .loop (.nm 4) .of (.var 3) (.cst .non) stepC :: (asgB ++ .loop (.nm 4) .of (.var 5) (.cst .non) caseC :: lastC)) := rfl
theorem asgA_ok {a0 a1 a3 a4 a5 a9 a10 a11 a12 : Option T} {m r a b : Int} {S : Sto} : evCs (M 22) fuel asgA (L13 a0 a1 (some (.int r)) a3 a4 a5 (some (.int m)) (some (.int a)) (some (.int b)) a9 a10 a11 a12) S = .nx (L13 a0 a1 (some (.int r)) (some (.lst ((goods m r a b).map gT))) a4 a5 (some (.int m)) (some (.int a)) (some (.int b)) a9 a10 a11 a12) S := by kernel_rfl
theorem asgB_ok {a0 a1 a3 a4 a5 a7 a8 a9 a10 a11 a12 : Option T} {m r : Int} {S : Sto} : evCs (M 22) fuel asgB (L13 a0 a1 (some (.int r)) a3 a4 a5 (some (.int m)) a7 a8 a9 a10 a11 a12) S = .nx (L13 a0 a1 (some (.int r)) a3 a4 (some (.lst (casesT m r))) (some (.int m)) a7 a8 a9 a10 a11 a12) S := by kernel_rfl
theorem app_nx {fe : FEnv} {n : Nat} : ∀ {A B : List C} {e e1 : FC.Env} {S S1 : Sto} {o : O}, evCs fe n A e S = .nx e1 S1 → evCs fe n B e1 S1 = o → evCs fe n (A ++ B) e S = o := by
  have app : ∀ {A B : List C} {e : FC.Env} {S : Sto}, evCs fe n (A ++ B) e S = (evCs fe n A e S).then fun e S => evCs fe n B e S := by
    intro A
    induction A with
    | nil => intro B e S; simp [evCs, O.then]
    | cons c A ih =>
      intro B e S
      simp only [List.cons_append, evCs]
      cases evC fe n c e S with
      | nx e S => exact ih
      | rt => rfl
      | exc => rfl
      | bad => rfl
  intro A B e e1 S S1 o h1 h2
  rw [app, h1]
  exact h2
theorem ev_roll {l : Nat} {S S' : Sto} {a : E} {e : FC.Env} {n m : Int} (v1 : evE (M 22) (.var 1) e S = .ok (.loc l) S) (ha : evE (M 22) a e S = .ok (.int m) S) (h : M 22 20 [.loc l, .int m] S = .ok (.int n) S') : evE (M 22) (.call false 20 [(.var 1), a]) e S = .ok (.int n) S' :=
  ev_call (evs_cons v1 (evs_cons ha (by rw [evEs]))) h
theorem add_i {S : Sto} {i j : Int} : putN false S (binT .add S (.int i) (.int j)) = .ok (.int (i + j)) S := rfl
theorem sub_i {S : Sto} {i j : Int} : putN false S (binT .sub S (.int i) (.int j)) = .ok (.int (i - j)) S := rfl
theorem cst_e {fe : FEnv} {t : T} {e : FC.Env} {S : Sto} : evE fe (.cst t) e S = .ok t S := by rw [evE]
theorem nil_e {fe : FEnv} {e : FC.Env} {S : Sto} : evEs fe [] e S = .ok [] S := by rw [evEs]
theorem last_ok {e : FC.Env} {S : Sto} : evCs (M 22) fuel lastC e S = .nx e S := by
  obtain ⟨S1, h⟩ := right_numbers
  have c := callP_ok (k := 22) (i := 22) (S := S) (as := []) rfl rfl h
  have q : evC (M 22) fuel (.ite (.not (.call true 22 [])) outC []) e S = .nx e S := by
    rw [c_ite (v := false) (ev_not (v := true) (ev_callP nil_e c))]
    rfl
  exact cs_nx q rfl
theorem body {l : Nat} {a0 a2 a3 a4 a5 a6 a7 a8 a9 a10 a11 a12 : Option T} {S : Sto} (d : Dc S l) :
    ∃ (b2 b3 b4 b5 b6 b7 b8 b9 b10 b11 : Option T) (S' : Sto), Up S l S' ∧ evCs (M 22) fuel lawB (L13 a0 (some (.loc l)) a2 a3 a4 a5 a6 a7 a8 a9 a10 a11 a12) S = .nx (L13 a0 (some (.loc l)) b2 b3 b4 b5 b6 b7 b8 b9 b10 b11 a12) S' := by
  have l3 : (3 : Nat) ≤ lim := by decide
  obtain ⟨n1, S1, p1, p2, h1, u1, d1⟩ := rolls 20 d 2 (by decide) (by decide)
  obtain ⟨n2, S2, p3, p4, h2, u2, d2⟩ := rolls 20 d1 7 (by decide) (by decide)
  obtain ⟨n3, S3, p5, p6, h3, u3, d3⟩ := rolls 20 d2 19 (by decide) (by decide)
  obtain ⟨m, hm⟩ : ∃ m, m = 2 + n1 := ⟨_, rfl⟩
  obtain ⟨a, ha⟩ : ∃ a, a = n2 - 3 := ⟨_, rfl⟩
  obtain ⟨b, hb⟩ : ∃ b, b = n3 - 9 := ⟨_, rfl⟩
  have hm2 : m = 2 ∨ m = 3 := by omega
  obtain ⟨r, S4, p7, p8, h4, u4, d4⟩ := rolls 20 d3 m (by omega) (by omega)
  have v1 : ∀ S, evE (M 22) (.var 1) (L13 a0 (some (.loc l)) a2 a3 a4 a5 a6 a7 a8 a9 a10 a11 a12) S = .ok (.loc l) S := fun S => ev_var rfl
  have e1 := ev_bin (al := false) (op := .add) (cst_e (fe := M 22) (t := .int 2) (e := L13 a0 (some (.loc l)) a2 a3 a4 a5 a6 a7 a8 a9 a10 a11 a12) (S := S)) (ev_roll (v1 S) cst_e h1) add_i
  have e2 := ev_bin (al := false) (op := .sub) (ev_roll (v1 S1) cst_e h2) (cst_e (t := .int 3)) sub_i
  have e3 := ev_bin (al := false) (op := .sub) (ev_roll (v1 S2) cst_e h3) (cst_e (t := .int 9)) sub_i
  rw [← hm] at e1
  rw [← ha] at e2
  rw [← hb] at e3
  have e0 : evE (M 22) drawE (L13 a0 (some (.loc l)) a2 a3 a4 a5 a6 a7 a8 a9 a10 a11 a12) S = .ok (.tup [.int m, .int a, .int b]) S3 := ev_tup (evs_cons e1 (evs_cons e2 (evs_cons e3 nil_e))) l3
  have q1 : evC (M 22) fuel drawC (L13 a0 (some (.loc l)) a2 a3 a4 a5 a6 a7 a8 a9 a10 a11 a12) S = .nx (L13 a0 (some (.loc l)) a2 a3 a4 a5 (some (.int m)) (some (.int a)) (some (.int b)) a9 a10 a11 a12) S3 := by
    rw [evC, e0]
    rfl
  have q2 : evC (M 22) fuel drawR (L13 a0 (some (.loc l)) a2 a3 a4 a5 (some (.int m)) (some (.int a)) (some (.int b)) a9 a10 a11 a12) S3 = .nx (L13 a0 (some (.loc l)) (some (.int r)) a3 a4 a5 (some (.int m)) (some (.int a)) (some (.int b)) a9 a10 a11 a12) S4 := by
    rw [evC, ev_roll (ev_var (t := .loc l) rfl) (ev_var (t := .int m) rfl) h4]
    rfl
  obtain ⟨c4, c9, c10, c11, s1⟩ := step_loop (S := S4) (a0 := a0) (a1 := some (.loc l)) (a2 := some (.int r)) (a3 := some (.lst ((goods m r a b).map gT))) (a5 := a5) (a6 := some (.int m)) (a7 := some (.int a)) (a8 := some (.int b)) (a12 := a12) (goods m r a b) a4 a9 a10 a11 (goods_gd hm2 p7 p8 (by omega) (by omega) (by omega) (by omega))
  have i1 : itR (M 22) .of (.var 3) (.cst .non) (L13 a0 (some (.loc l)) (some (.int r)) (some (.lst ((goods m r a b).map gT))) a4 a5 (some (.int m)) (some (.int a)) (some (.int b)) a9 a10 a11 a12) S4 = .ok ((goods m r a b).map gT) S4 := rfl
  have q3 := c_loop (n := fuel) (b := stepC) i1 s1
  obtain ⟨d4', s2⟩ := case_loop (S := S4) (a0 := a0) (a1 := some (.loc l)) (a2 := some (.int r)) (a3 := some (.lst ((goods m r a b).map gT))) (a5 := some (.lst (casesT m r))) (a6 := some (.int m)) (a7 := some (.int a)) (a8 := some (.int b)) (a9 := c9) (a10 := c10) (a11 := c11) (a12 := a12) (casesT m r) c4 (cases_ok hm2 p7 p8)
  have i2 : itR (M 22) .of (.var 5) (.cst .non) (L13 a0 (some (.loc l)) (some (.int r)) (some (.lst ((goods m r a b).map gT))) c4 (some (.lst (casesT m r))) (some (.int m)) (some (.int a)) (some (.int b)) c9 c10 c11 a12) S4 = .ok (casesT m r) S4 := rfl
  have q4 := c_loop (n := fuel) (b := caseC) i2 s2
  refine ⟨some (.int r), some (.lst ((goods m r a b).map gT)), d4', some (.lst (casesT m r)), some (.int m), some (.int a), some (.int b), c9, c10, c11, S4, ((u1.trans u2).trans u3).trans u4, ?_⟩
  rw [lawB_eq]
  exact cs_nx q1 (cs_nx q2 (app_nx asgA_ok (cs_nx q3 (app_nx asgB_ok (cs_nx q4 last_ok)))))
theorem Up.keep {S S' : Sto} {l m : Nat} (u : Up S l S') (d : Dc S m) : Dc S' m := by
  by_cases h : l = m
  · subst h; exact u.dc d
  · obtain ⟨a, b, rfl⟩ := u
    obtain ⟨x, y, q⟩ := d
    refine ⟨x, y, ?_⟩
    unfold lstAt at q ⊢
    rw [List.getElem?_set_ne h]
    exact q
theorem all_rounds {a0 a12 : Option T} : ∀ (ls : List Nat) (S : Sto) (a1 a2 a3 a4 a5 a6 a7 a8 a9 a10 a11 : Option T), (∀ l ∈ ls, Dc S l) →
    ∃ e' S', loopL (fun e S => evCs (M 22) fuel lawB e S) (.nm 1) (ls.map .loc) (L13 a0 a1 a2 a3 a4 a5 a6 a7 a8 a9 a10 a11 a12) S = .nx e' S'
  | [], S, a1, a2, a3, a4, a5, a6, a7, a8, a9, a10, a11, _ => ⟨_, _, rfl⟩
  | l :: ls, S, a1, a2, a3, a4, a5, a6, a7, a8, a9, a10, a11, h => by
    obtain ⟨b2, b3, b4, b5, b6, b7, b8, b9, b10, b11, S1, u, q⟩ := body (a0 := a0) (a2 := a2) (a3 := a3) (a4 := a4) (a5 := a5) (a6 := a6) (a7 := a7) (a8 := a8) (a9 := a9) (a10 := a10) (a11 := a11) (a12 := a12) (h l List.mem_cons_self)
    obtain ⟨e', S', r⟩ := all_rounds (a0 := a0) (a12 := a12) ls S1 (some (.loc l)) b2 b3 b4 b5 b6 b7 b8 b9 b10 b11 fun m hm => u.keep (h m (List.mem_cons_of_mem _ hm))
    refine ⟨e', S', ?_⟩
    show (evCs (M 22) fuel lawB (L13 a0 (some (.loc l)) a2 a3 a4 a5 a6 a7 a8 a9 a10 a11 a12) S).then _ = _
    rw [q]
    exact r
end P21
open FC in
theorem D21.law_ok : ∀ ns : List Int, ns.length ≤ 63 → (∀ z ∈ ns, PySem.Builtin.Int.intBits z ≤ 1048576) → ∀ t, (t = .lst (ns.map .int) ∨ t = .fro (ns.map .int)) → ∃ S', mean D21.prog D21.fuel (D21.lev + 3) D21.i_law [t] [] = .ok (.bl true) S' := by
  intro ns hl _ t ht
  obtain ⟨ls, S0, h1, h2⟩ := P21.rounds (k := 20) ht hl
  obtain ⟨e', S', h3⟩ := P21.all_rounds (a0 := some t) (a12 := none) ls S0 none none none none none none none none none none none h2
  refine ⟨S', ?_⟩
  show P21.M 23 D21.i_law [t] [] = _
  rw [P21.M_at (k := 22) (by decide) (d := D21.d_law) rfl]
  refine P21.run_rt rfl ?_
  have h1' : P21.M 22 21 [t, .int 4] [] = .ok (.lst (ls.map .loc)) S0 := h1
  have e1 : itR (P21.M 22) .of (.call false 21 [(.var 0), (.cst (.int 4))]) (.cst .non) [some t, none, none, none, none, none, none, none, none, none, none, none, none] [] = .ok (ls.map .loc) S0 := by
    simp [itR, evE, evEs, FC.R.bind, h1', itT, titems, FC.ofO]
  have lp := P21.c_loop (n := D21.fuel) (b := P21.lawB) e1 h3
  show evCs (P21.M 22) D21.fuel (.loop (.nm 1) .of (.call false 21 [(.var 0), (.cst (.int 4))]) (.cst .non) P21.lawB :: [.ret (.cst (.bl true))]) [some t, none, none, none, none, none, none, none, none, none, none, none, none] [] = _
  exact P21.cs_nx lp (P21.cs_rt rfl)
end

section
open PySem PySem.W PyProof.Rows FC
set_option Elab.async false
set_option maxRecDepth 100000 in
set_option maxHeartbeats 40000000 in
theorem PySem.Challenge.cw_foldchains_k21_whole_bounds_holds : PySem.Challenge.rw_foldchains_k21_whole_bounds.Holds := by
  w_on; o_law; k_head; (case hw => w_witness2)
  k_fill
  refine LamX.walk_ofTs (l := PySem.Challenge.rw_foldchains_k21_whole_bounds) (n := 63) (k := D21.lev + 3) (CX := fun w => L2N.CX PySem.Challenge.rw_foldchains_k21_whole_bounds.prog w) (x := "_law_script") rfl (by decide) rfl ⟨rfl, by decide, by decide⟩ (fun w h Y => PySem.W.km_in_of Y) ?F (fun w H s e s' z => FC.no_cx w H s e s' z)
  intro w mg fa h Y KX G hmg
  refine' FC.cont (FC.fnf_mk KX G (x := "is_whole") (pm := D21.pm) (exs := D21.exs) (d := D21.d_is_whole) D21.sc_is_whole D21.b_is_whole rfl rfl D21.ck_is_whole ?a1 ?l1 ?c1 ?k1) ?_
  (case a1 => k_is); (case l1 => k_is); (case c1 => k_is); (case k1 => k_is)
  intro h0
  refine' FC.cont (FC.fnf_mk KX G (x := "is_rest") (pm := D21.pm) (exs := D21.exs) (d := D21.d_is_rest) D21.sc_is_rest D21.b_is_rest rfl rfl D21.ck_is_rest ?a2 ?l2 ?c2 ?k2) ?_
  (case a2 => k_is); (case l2 => k_is); (case c2 => k_is); (case k2 => k_is)
  intro h1
  refine' FC.cont (FC.fnf_mk KX G (x := "is_line") (pm := D21.pm) (exs := D21.exs) (d := D21.d_is_line) D21.sc_is_line D21.b_is_line rfl rfl D21.ck_is_line ?a3 ?l3 ?c3 ?k3) ?_
  (case a3 => k_is); (case l3 => k_is); (case c3 => k_is); (case k3 => k_is)
  intro h2
  refine' FC.cont (FC.fnf_mk KX G (x := "is_step") (pm := D21.pm) (exs := D21.exs) (d := D21.d_is_step) D21.sc_is_step D21.b_is_step rfl rfl D21.ck_is_step ?a4 ?l4 ?c4 ?k4) ?_
  (case a4 => k_is); (case l4 => k_is); (case c4 => k_is); (case k4 => k_is)
  intro h3
  refine' FC.cont (FC.fnf_mk KX G (x := "count_kinds") (pm := D21.pm) (exs := D21.exs) (d := D21.d_count_kinds) D21.sc_count_kinds D21.b_count_kinds rfl rfl D21.ck_count_kinds ?a5 ?l5 ?c5 ?k5) ?_
  (case a5 => k_is); (case l5 => k_is); (case c5 => k_is); (case k5 => k_is)
  intro h4
  refine' FC.cont (FC.fnf_mk KX G (x := "is_chain") (pm := D21.pm) (exs := D21.exs) (d := D21.d_is_chain) D21.sc_is_chain D21.b_is_chain rfl rfl D21.ck_is_chain ?a6 ?l6 ?c6 ?k6) ?_
  (case a6 => k_is); (case l6 => k_is); (case c6 => k_is); (case k6 => k_is)
  intro h5
  refine' FC.cont (FC.fnf_mk KX G (x := "need_chain") (pm := D21.pm) (exs := D21.exs) (d := D21.d_need_chain) D21.sc_need_chain D21.b_need_chain rfl rfl D21.ck_need_chain ?a7 ?l7 ?c7 ?k7) ?_
  (case a7 => k_is); (case l7 => k_is); (case c7 => k_is); (case k7 => k_is)
  intro h6
  refine' FC.cont (FC.fnf_mk KX G (x := "is_row") (pm := D21.pm) (exs := D21.exs) (d := D21.d_is_row) D21.sc_is_row D21.b_is_row rfl rfl D21.ck_is_row ?a8 ?l8 ?c8 ?k8) ?_
  (case a8 => k_is); (case l8 => k_is); (case c8 => k_is); (case k8 => k_is)
  intro h7
  refine' FC.cont (FC.fnf_mk KX G (x := "need_row") (pm := D21.pm) (exs := D21.exs) (d := D21.d_need_row) D21.sc_need_row D21.b_need_row rfl rfl D21.ck_need_row ?a9 ?l9 ?c9 ?k9) ?_
  (case a9 => k_is); (case l9 => k_is); (case c9 => k_is); (case k9 => k_is)
  intro h8
  refine' FC.cont (FC.fnf_mk KX G (x := "fed") (pm := D21.pm) (exs := D21.exs) (d := D21.d_fed) D21.sc_fed D21.b_fed rfl rfl D21.ck_fed ?a10 ?l10 ?c10 ?k10) ?_
  (case a10 => k_is); (case l10 => k_is); (case c10 => k_is); (case k10 => k_is)
  intro h9
  refine' FC.cont (FC.fnf_mk KX G (x := "begun") (pm := D21.pm) (exs := D21.exs) (d := D21.d_begun) D21.sc_begun D21.b_begun rfl rfl D21.ck_begun ?a11 ?l11 ?c11 ?k11) ?_
  (case a11 => k_is); (case l11 => k_is); (case c11 => k_is); (case k11 => k_is)
  intro h10
  refine' FC.cont (FC.fnf_mk KX G (x := "passed") (pm := D21.pm) (exs := D21.exs) (d := D21.d_passed) D21.sc_passed D21.b_passed rfl rfl D21.ck_passed ?a12 ?l12 ?c12 ?k12) ?_
  (case a12 => k_is); (case l12 => k_is); (case c12 => k_is); (case k12 => k_is)
  intro h11
  refine' FC.cont (FC.fnf_mk KX G (x := "run") (pm := D21.pm) (exs := D21.exs) (d := D21.d_run) D21.sc_run D21.b_run rfl rfl D21.ck_run ?a13 ?l13 ?c13 ?k13) ?_
  (case a13 => k_is); (case l13 => k_is); (case c13 => k_is); (case k13 => k_is)
  intro h12
  refine' FC.cont (FC.fnf_mk KX G (x := "mix") (pm := D21.pm) (exs := D21.exs) (d := D21.d_mix) D21.sc_mix D21.b_mix rfl rfl D21.ck_mix ?a14 ?l14 ?c14 ?k14) ?_
  (case a14 => k_is); (case l14 => k_is); (case c14 => k_is); (case k14 => k_is)
  intro h13
  refine' FC.cont (FC.fnf_mk KX G (x := "written") (pm := D21.pm) (exs := D21.exs) (d := D21.d_written) D21.sc_written D21.b_written rfl rfl D21.ck_written ?a15 ?l15 ?c15 ?k15) ?_
  (case a15 => k_is); (case l15 => k_is); (case c15 => k_is); (case k15 => k_is)
  intro h14
  refine' FC.cont (FC.fnf_mk KX G (x := "number_of") (pm := D21.pm) (exs := D21.exs) (d := D21.d_number_of) D21.sc_number_of D21.b_number_of rfl rfl D21.ck_number_of ?a16 ?l16 ?c16 ?k16) ?_
  (case a16 => k_is); (case l16 => k_is); (case c16 => k_is); (case k16 => k_is)
  intro h15
  refine' FC.cont (FC.fnf_mk KX G (x := "step_of") (pm := D21.pm) (exs := D21.exs) (d := D21.d_step_of) D21.sc_step_of D21.b_step_of rfl rfl D21.ck_step_of ?a17 ?l17 ?c17 ?k17) ?_
  (case a17 => k_is); (case l17 => k_is); (case c17 => k_is); (case k17 => k_is)
  intro h16
  refine' FC.cont (FC.fnf_mk KX G (x := "parse_chain") (pm := D21.pm) (exs := D21.exs) (d := D21.d_parse_chain) D21.sc_parse_chain D21.b_parse_chain rfl rfl D21.ck_parse_chain ?a18 ?l18 ?c18 ?k18) ?_
  (case a18 => k_is); (case l18 => k_is); (case c18 => k_is); (case k18 => k_is)
  intro h17
  refine' FC.cont (FC.fnf_mk KX G (x := "_law_cell") (pm := D21.pm) (exs := D21.exs) (d := D21.d_law_cell) D21.sc_law_cell D21.b_law_cell rfl rfl D21.ck_law_cell ?a19 ?l19 ?c19 ?k19) ?_
  (case a19 => k_is); (case l19 => k_is); (case c19 => k_is); (case k19 => k_is)
  intro h18
  refine' FC.cont (FC.fnf_mk KX G (x := "_law_drawn") (pm := D21.pm) (exs := D21.exs) (d := D21.d_law_drawn) D21.sc_law_drawn D21.b_law_drawn rfl rfl D21.ck_law_drawn ?a20 ?l20 ?c20 ?k20) ?_
  (case a20 => k_is); (case l20 => k_is); (case c20 => k_is); (case k20 => k_is)
  intro h19
  refine' FC.cont (FC.fnf_mk KX G (x := "_law_roll") (pm := D21.pm) (exs := D21.exs) (d := D21.d_law_roll) D21.sc_law_roll D21.b_law_roll rfl rfl D21.ck_law_roll ?a21 ?l21 ?c21 ?k21) ?_
  (case a21 => k_is); (case l21 => k_is); (case c21 => k_is); (case k21 => k_is)
  intro h20
  refine' FC.cont (FC.fnf_mk KX G (x := "_law_rounds") (pm := D21.pm) (exs := D21.exs) (d := D21.d_law_rounds) D21.sc_law_rounds D21.b_law_rounds rfl rfl D21.ck_law_rounds ?a22 ?l22 ?c22 ?k22) ?_
  (case a22 => k_is); (case l22 => k_is); (case c22 => k_is); (case k22 => k_is)
  intro h21
  refine' FC.cont (FC.fnt_mk KX G (x := "_law_right_numbers") (pm := D21.pm) (exs := D21.exs) (d := D21.d_law_right_numbers) D21.sc_law_right_numbers D21.b_law_right_numbers rfl rfl D21.ck_law_right_numbers ?a23 ?l23 ?c23 ?k23) ?_
  (case a23 => k_is); (case l23 => k_is); (case c23 => k_is); (case k23 => k_is)
  intro h22
  refine' FC.cont (FC.exf_mk KX G (x := excName 0) ?a24 ?e24 ?k24 ?sb24 ?ty24 ?g124 ?g224 ?g324 ?g424 ?g524 ?g624 ?g724 ?va24) ?_
  (case a24 => k_is); (case e24 => k_exc); (case k24 => k_is); (case sb24 => k_is); (case ty24 => k_is); (case g124 => k_is); (case g224 => k_is); (case g324 => k_is); (case g424 => k_is); (case g524 => k_is); (case g624 => k_is); (case g724 => k_is); (case va24 => first | rfl | k_is)
  intro x0
  refine' FC.cont (FC.exf_mk KX G (x := excName 1) ?a25 ?e25 ?k25 ?sb25 ?ty25 ?g125 ?g225 ?g325 ?g425 ?g525 ?g625 ?g725 ?va25) ?_
  (case a25 => k_is); (case e25 => k_exc); (case k25 => k_is); (case sb25 => k_is); (case ty25 => k_is); (case g125 => k_is); (case g225 => k_is); (case g325 => k_is); (case g425 => k_is); (case g525 => k_is); (case g625 => k_is); (case g725 => k_is); (case va25 => first | rfl | k_is)
  intro x1
  refine' FC.cont (FC.exf_mk KX G (x := excName 2) ?a26 ?e26 ?k26 ?sb26 ?ty26 ?g126 ?g226 ?g326 ?g426 ?g526 ?g626 ?g726 ?va26) ?_
  (case a26 => k_is); (case e26 => k_exc); (case k26 => k_is); (case sb26 => k_is); (case ty26 => k_is); (case g126 => k_is); (case g226 => k_is); (case g326 => k_is); (case g426 => k_is); (case g526 => k_is); (case g626 => k_is); (case g726 => k_is); (case va26 => first | rfl | k_is)
  intro x2
  refine' FC.cont (FC.exf_mk KX G (x := excName 3) ?a27 ?e27 ?k27 ?sb27 ?ty27 ?g127 ?g227 ?g327 ?g427 ?g527 ?g627 ?g727 ?va27) ?_
  (case a27 => k_is); (case e27 => k_exc); (case k27 => k_is); (case sb27 => k_is); (case ty27 => k_is); (case g127 => k_is); (case g227 => k_is); (case g327 => k_is); (case g427 => k_is); (case g527 => k_is); (case g627 => k_is); (case g727 => k_is); (case va27 => first | rfl | k_is)
  intro x3
  refine' FC.cont (FC.exf_mk KX G (x := excName 4) ?a28 ?e28 ?k28 ?sb28 ?ty28 ?g128 ?g228 ?g328 ?g428 ?g528 ?g628 ?g728 ?va28) ?_
  (case a28 => k_is); (case e28 => k_exc); (case k28 => k_is); (case sb28 => k_is); (case ty28 => k_is); (case g128 => k_is); (case g228 => k_is); (case g328 => k_is); (case g428 => k_is); (case g528 => k_is); (case g628 => k_is); (case g728 => k_is); (case va28 => first | rfl | k_is)
  intro x4
  refine' FC.cont (FC.exf_mk KX G (x := excName 5) ?a29 ?e29 ?k29 ?sb29 ?ty29 ?g129 ?g229 ?g329 ?g429 ?g529 ?g629 ?g729 ?va29) ?_
  (case a29 => k_is); (case e29 => k_exc); (case k29 => k_is); (case sb29 => k_is); (case ty29 => k_is); (case g129 => k_is); (case g229 => k_is); (case g329 => k_is); (case g429 => k_is); (case g529 => k_is); (case g629 => k_is); (case g729 => k_is); (case va29 => first | rfl | k_is)
  intro x5
  refine' FC.cont (FC.kit_mk (b := true) x0 x0 ?a30) ?_
  (case a30 => first | rfl | k_is)
  intro k00
  refine' FC.cont (FC.kit_mk (b := false) x0 x1 ?a31) ?_
  (case a31 => first | rfl | k_is)
  intro k01
  refine' FC.cont (FC.kit_mk (b := false) x0 x2 ?a32) ?_
  (case a32 => first | rfl | k_is)
  intro k02
  refine' FC.cont (FC.kit_mk (b := false) x0 x3 ?a33) ?_
  (case a33 => first | rfl | k_is)
  intro k03
  refine' FC.cont (FC.kit_mk (b := false) x0 x4 ?a34) ?_
  (case a34 => first | rfl | k_is)
  intro k04
  refine' FC.cont (FC.kit_mk (b := false) x0 x5 ?a35) ?_
  (case a35 => first | rfl | k_is)
  intro k05
  refine' FC.cont (FC.kit_mk (b := false) x1 x0 ?a36) ?_
  (case a36 => first | rfl | k_is)
  intro k10
  refine' FC.cont (FC.kit_mk (b := true) x1 x1 ?a37) ?_
  (case a37 => first | rfl | k_is)
  intro k11
  refine' FC.cont (FC.kit_mk (b := false) x1 x2 ?a38) ?_
  (case a38 => first | rfl | k_is)
  intro k12
  refine' FC.cont (FC.kit_mk (b := false) x1 x3 ?a39) ?_
  (case a39 => first | rfl | k_is)
  intro k13
  refine' FC.cont (FC.kit_mk (b := false) x1 x4 ?a40) ?_
  (case a40 => first | rfl | k_is)
  intro k14
  refine' FC.cont (FC.kit_mk (b := false) x1 x5 ?a41) ?_
  (case a41 => first | rfl | k_is)
  intro k15
  refine' FC.cont (FC.kit_mk (b := false) x2 x0 ?a42) ?_
  (case a42 => first | rfl | k_is)
  intro k20
  refine' FC.cont (FC.kit_mk (b := false) x2 x1 ?a43) ?_
  (case a43 => first | rfl | k_is)
  intro k21
  refine' FC.cont (FC.kit_mk (b := true) x2 x2 ?a44) ?_
  (case a44 => first | rfl | k_is)
  intro k22
  refine' FC.cont (FC.kit_mk (b := false) x2 x3 ?a45) ?_
  (case a45 => first | rfl | k_is)
  intro k23
  refine' FC.cont (FC.kit_mk (b := false) x2 x4 ?a46) ?_
  (case a46 => first | rfl | k_is)
  intro k24
  refine' FC.cont (FC.kit_mk (b := false) x2 x5 ?a47) ?_
  (case a47 => first | rfl | k_is)
  intro k25
  refine' FC.cont (FC.kit_mk (b := false) x3 x0 ?a48) ?_
  (case a48 => first | rfl | k_is)
  intro k30
  refine' FC.cont (FC.kit_mk (b := false) x3 x1 ?a49) ?_
  (case a49 => first | rfl | k_is)
  intro k31
  refine' FC.cont (FC.kit_mk (b := false) x3 x2 ?a50) ?_
  (case a50 => first | rfl | k_is)
  intro k32
  refine' FC.cont (FC.kit_mk (b := true) x3 x3 ?a51) ?_
  (case a51 => first | rfl | k_is)
  intro k33
  refine' FC.cont (FC.kit_mk (b := false) x3 x4 ?a52) ?_
  (case a52 => first | rfl | k_is)
  intro k34
  refine' FC.cont (FC.kit_mk (b := false) x3 x5 ?a53) ?_
  (case a53 => first | rfl | k_is)
  intro k35
  refine' FC.cont (FC.kit_mk (b := false) x4 x0 ?a54) ?_
  (case a54 => first | rfl | k_is)
  intro k40
  refine' FC.cont (FC.kit_mk (b := false) x4 x1 ?a55) ?_
  (case a55 => first | rfl | k_is)
  intro k41
  refine' FC.cont (FC.kit_mk (b := false) x4 x2 ?a56) ?_
  (case a56 => first | rfl | k_is)
  intro k42
  refine' FC.cont (FC.kit_mk (b := false) x4 x3 ?a57) ?_
  (case a57 => first | rfl | k_is)
  intro k43
  refine' FC.cont (FC.kit_mk (b := true) x4 x4 ?a58) ?_
  (case a58 => first | rfl | k_is)
  intro k44
  refine' FC.cont (FC.kit_mk (b := false) x4 x5 ?a59) ?_
  (case a59 => first | rfl | k_is)
  intro k45
  refine' FC.cont (FC.kit_mk (b := false) x5 x0 ?a60) ?_
  (case a60 => first | rfl | k_is)
  intro k50
  refine' FC.cont (FC.kit_mk (b := false) x5 x1 ?a61) ?_
  (case a61 => first | rfl | k_is)
  intro k51
  refine' FC.cont (FC.kit_mk (b := false) x5 x2 ?a62) ?_
  (case a62 => first | rfl | k_is)
  intro k52
  refine' FC.cont (FC.kit_mk (b := false) x5 x3 ?a63) ?_
  (case a63 => first | rfl | k_is)
  intro k53
  refine' FC.cont (FC.kit_mk (b := false) x5 x4 ?a64) ?_
  (case a64 => first | rfl | k_is)
  intro k54
  refine' FC.cont (FC.kit_mk (b := true) x5 x5 ?a65) ?_
  (case a65 => first | rfl | k_is)
  intro k55
  refine' FC.cont (FC.base_mk KX G ?a66 ?b66 ?d66 ?t66 x0 x1 x2 x3 x4 x5 ?s066 ?s166 ?s266 ?s366 ?s466 ?s566) ?_
  (case a66 => k_is); (case b66 => k_is); (case d66 => k_is); (case t66 => k_is); (case s066 => k_is); (case s166 => k_is); (case s266 => k_is); (case s366 => k_is); (case s466 => k_is); (case s566 => k_is)
  intro hE
  refine' FC.cont (FC.deff_mk KX G (x := "_law_told") (st := D21.top 67) D21.sc_law_told D21.b_law_told ?a67 ?l67 ?c67 ?k67) ?_
  (case a67 => k_is); (case l67 => k_is); (case c67 => k_is); (case k67 => k_is)
  intro tg
  refine' FC.cont (FC.deff_mk KX G (x := "_law_term") (st := D21.top 66) D21.sc_law_term D21.b_law_term ?a68 ?l68 ?c68 ?k68) ?_
  (case a68 => k_is); (case l68 => k_is); (case c68 => k_is); (case k68 => k_is)
  intro tt
  refine' FC.cont (FC.cst_int KX G (x := "MOST_STEPS") (i := 4) ?a69) ?_
  (case a69 => k_is)
  intro c_MOST_STEPS
  refine' FC.cont (FC.cst_int KX G (x := "MOST_ROW") (i := 60) ?a70) ?_
  (case a70 => k_is)
  intro c_MOST_ROW
  refine' FC.cont (FC.cst_strs ["sums", "gaps", "count", "twice"] KX G (x := "PLAIN") ?h571 ?h471 ?h171 ?h371 ?e71 ?l71) ?_
  (case e71 => k_is); (case l71 => k_is); (case h171 => rfl); (case h371 => rfl); (case h471 => decide); (case h571 => exact (.cons ⟨_, rfl⟩ (.cons ⟨_, rfl⟩ (.cons ⟨_, rfl⟩ (.cons ⟨_, rfl⟩ .nil)))))
  intro c_PLAIN
  refine' FC.cont (FC.cst_strs ["sums", "gaps", "anew", "groups", "count"] KX G (x := "KEEPING") ?h572 ?h472 ?h172 ?h372 ?e72 ?l72) ?_
  (case e72 => k_is); (case l72 => k_is); (case h172 => rfl); (case h372 => rfl); (case h472 => decide); (case h572 => exact (.cons ⟨_, rfl⟩ (.cons ⟨_, rfl⟩ (.cons ⟨_, rfl⟩ (.cons ⟨_, rfl⟩ (.cons ⟨_, rfl⟩ .nil))))))
  intro c_KEEPING
  refine' FC.cont (FC.cst_strs ["anew", "keep", "turn"] KX G (x := "PARTING") ?h573 ?h473 ?h173 ?h373 ?e73 ?l73) ?_
  (case e73 => k_is); (case l73 => k_is); (case h173 => rfl); (case h373 => rfl); (case h473 => decide); (case h573 => exact (.cons ⟨_, rfl⟩ (.cons ⟨_, rfl⟩ (.cons ⟨_, rfl⟩ .nil))))
  intro c_PARTING
  refine' FC.cont (FC.none_mk KX G (x := "len") ?a74) ?_
  (case a74 => k_is)
  intro n_len
  refine' FC.cont (FC.none_mk KX G (x := "all") ?a75) ?_
  (case a75 => k_is)
  intro n_all
  refine' FC.cont (FC.none_mk KX G (x := "any") ?a76) ?_
  (case a76 => k_is)
  intro n_any
  refine' FC.cont (FC.none_mk KX G (x := "sum") ?a77) ?_
  (case a77 => k_is)
  intro n_sum
  refine' FC.cont (FC.none_mk KX G (x := "max") ?a78) ?_
  (case a78 => k_is)
  intro n_max
  refine' FC.cont (FC.none_mk KX G (x := "min") ?a79) ?_
  (case a79 => k_is)
  intro n_min
  refine' FC.cont (FC.none_mk KX G (x := "list") ?a80) ?_
  (case a80 => k_is)
  intro n_list
  refine' FC.cont (FC.none_mk KX G (x := "tuple") ?a81) ?_
  (case a81 => k_is)
  intro n_tuple
  refine' FC.cont (FC.none_mk KX G (x := "int") ?a82) ?_
  (case a82 => k_is)
  intro n_int
  refine' FC.cont (FC.none_mk KX G (x := "str") ?a83) ?_
  (case a83 => k_is)
  intro n_str
  refine' FC.cont (FC.none_mk KX G (x := "abs") ?a84) ?_
  (case a84 => k_is)
  intro n_abs
  refine' FC.cont (FC.none_mk KX G (x := "range") ?a85) ?_
  (case a85 => k_is)
  intro n_range
  refine' FC.cont (FC.none_mk KX G (x := "enumerate") ?a86) ?_
  (case a86 => k_is)
  intro n_enumerate
  refine' FC.cont (FC.none_mk KX G (x := "isinstance") ?a87) ?_
  (case a87 => k_is)
  intro n_isinstance
  refine' FC.cont (FC.none_mk KX G (x := "bool") ?a88) ?_
  (case a88 => k_is)
  intro n_bool
  refine' FC.cont (FC.none_mk KX G (x := "ValueError") ?a89) ?_
  (case a89 => k_is)
  intro n_ValueError
  refine' FC.cont (FC.clsh_mk KX G (x := "Feed") ?a90 ?pg90 ?hd90 ?po90 ?sa90 ?mk90 ?kc90) ?_
  (case a90 => k_is); (case pg90 => k_is); (case hd90 => k_is); (case po90 => k_is); (case sa90 => k_is); (case mk90 => k_is); (case kc90 => k_is)
  intro hcls
  refine' FC.cont (FC.na_mk (f := "chain") hcls ?a91) ?_
  (case a91 => k_is)
  intro nf0
  refine' FC.cont (FC.na_mk (f := "rows") hcls ?a92) ?_
  (case a92 => k_is)
  intro nf1
  refine' FC.cont (FC.na_mk (f := "undone") hcls ?a93) ?_
  (case a93 => k_is)
  intro nf2
  refine' FC.cont (FC.ini_mk (pm := D21.pm) (exs := D21.exs) (d := D21.d_Feed___init__) hcls D21.sc_Feed___init__ D21.b_Feed___init__ rfl rfl D21.ck_Feed___init__ ?a94 ?i94 ?l94 ?c94 ?k94) ?_
  (case a94 => k_is); (case i94 => k_is); (case l94 => k_is); (case c94 => k_is); (case k94 => k_is)
  intro f___init__
  refine' FC.cont (FC.mth_mk (pm := D21.pm) (exs := D21.exs) (d := D21.d_Feed_row) (m := "row") hcls D21.sc_Feed_row D21.b_Feed_row rfl rfl D21.ck_Feed_row ?a95 ?i95 ?l95 ?c95 ?k95) ?_
  (case a95 => k_is); (case i95 => k_is); (case l95 => k_is); (case c95 => k_is); (case k95 => k_is)
  intro f_row
  refine' FC.cont (FC.mth_mk (pm := D21.pm) (exs := D21.exs) (d := D21.d_Feed_given) (m := "given") hcls D21.sc_Feed_given D21.b_Feed_given rfl rfl D21.ck_Feed_given ?a96 ?i96 ?l96 ?c96 ?k96) ?_
  (case a96 => k_is); (case i96 => k_is); (case l96 => k_is); (case c96 => k_is); (case k96 => k_is)
  intro f_given
  refine' FC.cont (FC.mth_mk (pm := D21.pm) (exs := D21.exs) (d := D21.d_Feed_put) (m := "put") hcls D21.sc_Feed_put D21.b_Feed_put rfl rfl D21.ck_Feed_put ?a97 ?i97 ?l97 ?c97 ?k97) ?_
  (case a97 => k_is); (case i97 => k_is); (case l97 => k_is); (case c97 => k_is); (case k97 => k_is)
  intro f_put
  refine' FC.row_end1 (pm := D21.pm) (exs := D21.exs) (prog := D21.prog) (n := D21.fuel) (j := D21.lev) (i := D21.i_law) (d := D21.d_law) (N := D21.n_law) (st := D21.top 69) KX G hmg (D21.fn_all h0 h1 h2 h3 h4 h5 h6 h7 h8 h9 h10 h11 h12 h13 h14 h15 h16 h17 h18 h19 h20 h21 h22) D21.fns_small rfl ?zbl n_ValueError ?zcs (by decide) x0 x1 x2 x3 x4 x5 ?zkit tg D21.tk_told tt D21.tk_term hE ?za ?zlk ?zcd ?zT ?zn ?zC D21.sc_law rfl rfl rfl rfl (by decide) D21.ck_law D21.b_law ?zT2 ?zn2 ?zC2 ?zne (D21.cls_all hcls nf0 nf1 nf2 f___init__ f_row f_given f_put) D21.law_ok
  (case za => k_is); (case zlk => k_is); (case zcd => k_is)
  (case zbl => (intro x hx; simp only [FC.blNames, List.mem_cons, List.not_mem_nil, or_false] at hx; rcases hx with rfl | rfl | rfl | rfl | rfl | rfl | rfl | rfl | rfl | rfl | rfl | rfl | rfl | rfl | rfl <;> assumption))
  (case zcs => (exact fun x t hx => by (exact D21.cs_all c_MOST_STEPS c_MOST_ROW c_PLAIN c_KEEPING c_PARTING x t hx)))
  (case zkit => exact FC.lt6 (FC.lt6 k00 k01 k02 k03 k04 k05) (FC.lt6 k10 k11 k12 k13 k14 k15) (FC.lt6 k20 k21 k22 k23 k24 k25) (FC.lt6 k30 k31 k32 k33 k34 k35) (FC.lt6 k40 k41 k42 k43 k44 k45) (FC.lt6 k50 k51 k52 k53 k54 k55))
  (case zT => exact PySem.W.km_tabs_of Y _ (List.mem_cons_of_mem _ List.mem_cons_self))
  (case zT2 => exact PySem.W.km_tabs_of Y _ List.mem_cons_self)
  (case zC2 => first | rfl | decide +kernel | k_is)
  (case zn2 => first | rfl | k_is)
  (case zne => decide)
  (case zC => first | rfl | decide +kernel | k_is)
  (case zn => first | rfl | k_is)
end
