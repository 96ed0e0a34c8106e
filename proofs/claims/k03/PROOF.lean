import PyProof.Rows.All
import Wide.All
import OpenK.AllK
import Wide.FinOn
import HandS.ForMost
import HandS.Exc
import HandS.ExcOwn
import HandS.TryOnly
import HandS.IsInst
import HandS.Wide
import HandS.Style
import HandS.HeadHook4
import HandS.HeadEnd
import HandS.EndBits
import KE.DataEq
import HandS.TupAny
import HandS.Sort
import HandS.Gcd
import HandS.Deep
import KE.KMathG
import PyProof.ListRange
import PyProof.RangeFor
import HandS.ExcIs
import HandS.Comp
import HandS.Dict
import HandS.ExcBuiltin
import HandS.HeadHook2
import HandS.Head2
import HandS.WordsExc
import PyProof.ExcBaseAll.ValueError
import Flt.RightSqrt
import HandS.Head3
import PySem.Challenge.RW_cavelegs_k03_triple_of_a_vector
set_option Elab.async false
set_option linter.all false
set_option maxRecDepth 100000
set_option maxHeartbeats 0
namespace MP
open PySem (Str)
open L2 (ixN atI)

/-- data -/
inductive D where
  | non | bl (b : Bool) | int (i : Int) | str (s : Str)
  | lst (l : List D) | tup (l : List D) | dct (l : List (D × D))
  | scr (l : List Int) | ty (n : String) | cls (c : Nat) | err (c : Nat) (fs : List D)
  deriving Inhabited

/-- a slot: unbound, frozen data, an owned list or dict -/
inductive Sl where
  | un | fz (d : D) | own (d : D)
  deriving Inhabited
abbrev Env := List Sl
def Env.get (e : Env) (i : Nat) : Sl := e.getD i .un
def Env.put (e : Env) (i : Nat) (x : Sl) : Env := e.set i x

/-- an exception: its class, its fields' values -/
structure X where
  c : Nat
  fs : List D

inductive Res (α : Type) where
  | ok (a : α) (e : Env) | exc (x : X) (e : Env) | bad
def Res.bind {α β : Type} (r : Res α) (f : α → Env → Res β) : Res β := match r with
  | .ok a e => f a e
  | .exc x e => .exc x e
  | .bad => .bad

inductive BOp where | add | sub | mul | mod | fdiv | pow
  deriving DecidableEq, Inhabited
inductive COp where | lt | le | gt | ge | eq | ne | is | isnot | isin | notin
  deriving DecidableEq, Inhabited
inductive BI where
  | len | int | abs | min1 | max1 | min2 | max2 | max3 | sum | all | any | tuple | list | sorted | isi | range1 | range2
  | str | repr | set | gcd | isqrt | enum | rev | zip2 | items | keys | values | bool | dict | join | split | index | lrange1 | lrange2
  deriving DecidableEq, Inhabited

/-- terms -/
inductive T where
  | con (d : D) | var (i : Nat) | glb (k : Nat)
  | bin (op : BOp) (a b : T) | neg (a : T) | not (a : T) | and (a b : T) | or (a b : T)
  | cmp (op : COp) (a b : T) | chain (o1 o2 : COp) (a b c : T) | ite (c a b : T)
  | tup (l : T) | lst (l : T) | dct (l : T) | idx (a i : T) | slc (a lo hi : T)
  | call (f : Nat) (args : T) | bi (b : BI) (args : T)
  | comp (p : List Nat) (many : Bool) (it c elt : T) | dcomp (p : List Nat) (many : Bool) (it k v : T)
  | pop (i : Nat) (ix : T) | meth (m : BI) (a args : T) | efld (i k : Nat) | eisi (i : Nat) (k : Option Nat)
  | tst (a : T) | itv (a : T) | prt (a : T)
  | nil | cons (a r : T) | never
  deriving Inhabited

/-- statements -/
inductive S where
  | skip | seq (a b : S) | set (i : Nat) (e : T) | setO (i : Nat) (e : T)
  | unpack (is : List Nat) (e : T) | par2 (i j : Nat) (a b : T)
  | app (i : Nat) (e : T) | put (i : Nat) (k e : T) | aug (i : Nat) (op : BOp) (e : T) | augp (i : Nat) (op : BOp) (k e : T)
  | expr (e : T) | ret (e : T) | retN
  | ite (c : T) (a b : S) | for_ (p : List Nat) (many : Bool) (it : T) (body : S) | while_ (c : T) (body : S)
  | brk | cnt | raise (c : Nat) (args : T) | try_ (body : S) (c : Nat) (i : Option Nat) (h : S)
  | frz (i : Nat) | never
  deriving Inhabited

/-- a def: its parameters' number, its slots' number, which parameters are handed over owned, whether its result is new, its body -/
structure Def where
  np : Nat
  ns : Nat
  io : List Bool
  fr : Bool
  body : S

inductive CRes where
  | ret (d : D) | exc (x : X) | bad

def lim : Nat := 16777216

/-- no dict, class, error within, nested n deep at most -/
def plN : Nat → D → Bool
  | 0, d => (match d with | .non => true | .bl _ => true | .int _ => true | .str _ => true | _ => false)
  | n + 1, d => (match d with | .non => true | .bl _ => true | .int _ => true | .str _ => true | .lst l => l.all (plN n) | .tup l => l.all (plN n) | _ => false)
def plain (d : D) : Bool := plN 12 d
mutual
/-- == of plain data -/
def eqv : D → D → Bool
  | .non, y => (match y with | .non => true | _ => false)
  | .bl a, y => (match y with | .bl b => a == b | .int j => (if a then 1 else 0) == j | _ => false)
  | .int i, y => (match y with | .bl b => i == (if b then 1 else 0) | .int j => i == j | _ => false)
  | .str x, y => (match y with | .str z => x == z | _ => false)
  | .lst xs, y => (match y with | .lst ys => eqvL xs ys | _ => false)
  | .tup xs, y => (match y with | .tup ys => eqvL xs ys | _ => false)
  | .dct _, _ => false | .scr _, _ => false | .ty _, _ => false | .cls _, _ => false | .err _ _, _ => false
def eqvL : List D → List D → Bool
  | [], ys => ys.isEmpty
  | x :: xs, ys => (match ys with | y :: r => eqv x y && eqvL xs r | [] => false)
end

def D.isMut : D → Bool
  | .lst _ => true | .dct _ => true | _ => false
def D.ints : List D → Option (List Int)
  | [] => some []
  | .int i :: r => (D.ints r).map (i :: ·)
  | _ :: _ => none
def D.bls : List D → Option (List Bool)
  | [] => some []
  | .bl i :: r => (D.bls r).map (i :: ·)
  | _ :: _ => none
def D.strs : List D → Option (List Str)
  | [] => some []
  | .str i :: r => (D.strs r).map (i :: ·)
  | _ :: _ => none

/-- a python type's name -/
def D.ty? : D → Option String
  | .non => some "NoneType" | .bl _ => some "bool" | .int _ => some "int" | .str _ => some "str"
  | .lst _ => some "list" | .tup _ => some "tuple" | .dct _ => some "dict"
  | .scr _ => none | .ty _ => none | .cls _ => none | .err _ _ => none
/-- isinstance of data -/
def isiTy (d : D) (n : String) : Option Bool :=
  if n == "int" then (match d with | .bl _ | .int _ => some true | .non | .str _ | .lst _ | .tup _ | .dct _ => some false | _ => none)
  else if n == "bool" then (match d with | .bl _ => some true | .non | .int _ | .str _ | .lst _ | .tup _ | .dct _ => some false | _ => none)
  else if n == "str" then (match d with | .str _ => some true | .non | .int _ | .bl _ | .lst _ | .tup _ | .dct _ => some false | _ => none)
  else if n == "list" then (match d with | .lst _ => some true | .non | .int _ | .bl _ | .str _ | .tup _ | .dct _ => some false | _ => none)
  else if n == "tuple" then (match d with | .tup _ => some true | .non | .int _ | .bl _ | .str _ | .lst _ | .dct _ => some false | _ => none)
  else if n == "dict" then (match d with | .dct _ => some true | .non | .int _ | .bl _ | .str _ | .lst _ | .tup _ => some false | _ => none)
  else none

/-- a slice with the step one -/
def cut {α : Type} (l : List α) (lo hi : Option Int) : List α :=
  let a := HT.sIx l.length 0 lo
  let b := HT.sIx l.length l.length hi
  (l.drop a).take (b - a)

def mulOk (i j : Int) : Bool := decide (i.natAbs.log2 + j.natAbs.log2 < 134217000)
def divOk (j : Int) : Bool := decide (0 < j) && decide (j.natAbs.log2 < 9000)
def divNo (j : Int) : Bool := decide (j < 0) && decide (j.natAbs.log2 < 9000)
def powOk (i j : Int) : Bool := decide (0 ≤ j) && decide ((i.natAbs.log2 + 1) * j.toNat ≤ 134217728)

def binop (op : BOp) (x y : D) : Option D := match op with
  | .add => (match x, y with
    | .int i, .int j => some (.int (i + j))
    | .str a, .str b => if a.length + b.length ≤ lim then some (.str (a ++ b)) else none
    | .lst a, .lst b => if a.length + b.length ≤ lim then some (.lst (a ++ b)) else none
    | .tup a, .tup b => if a.length + b.length ≤ lim then some (.tup (a ++ b)) else none
    | _, _ => none)
  | .sub => (match x, y with
    | .int i, .int j => some (.int (i - j))
    | _, _ => none)
  | .mul => (match x, y with
    | .int i, .int j => if mulOk i j then some (.int (i * j)) else none
    | .lst a, .int k => if -1000000000 ≤ k ∧ k ≤ 1000000000 ∧ a.length * k.toNat ≤ lim then some (.lst (List.replicate k.toNat a).flatten) else none
    | _, _ => none)
  | .mod => (match x, y with
    | .int i, .int j => if 0 < j then some (.int (i % j)) else none
    | _, _ => none)
  | .fdiv => (match x, y with
    | .int i, .int j => if divOk j then some (.int (i / j)) else if divNo j then some (.int (i.fdiv j)) else none
    | _, _ => none)
  | .pow => (match x, y with
    | .int i, .int j => if powOk i j then some (.int (i ^ j.toNat)) else none
    | _, _ => none)

def isSame (x y : D) : Option Bool := match y with
  | .non => (match x with | .non => some true | .bl _ | .int _ | .str _ | .lst _ | .tup _ | .dct _ => some false | _ => none)
  | .bl b => (match x with | .bl a => some (a == b) | .non | .int _ | .str _ | .lst _ | .tup _ | .dct _ => some false | _ => none)
  | _ => none
def inOf (x y : D) : Option Bool := match y with
  | .lst l => if plain x && plain (.lst l) then some (l.any fun z => eqv z x) else none
  | .tup l => if plain x && plain (.tup l) then some (l.any fun z => eqv z x) else none
  | .str b => (match x with | .str a => if a.length = 1 then some (a.cps.toList.all fun c => b.cps.toList.contains c) else none | _ => none)
  | _ => none
def cmpop (op : COp) (x y : D) : Option Bool := match op with
  | .lt => (match x, y with | .int i, .int j => some (decide (i < j)) | .str a, .str b => some (decide (a.cps.toList < b.cps.toList)) | _, _ => none)
  | .le => (match x, y with | .int i, .int j => some (decide (i ≤ j)) | _, _ => none)
  | .gt => (match x, y with | .int i, .int j => some (decide (j < i)) | _, _ => none)
  | .ge => (match x, y with | .int i, .int j => some (decide (j ≤ i)) | _, _ => none)
  | .eq => if plain x && plain y then some (eqv x y) else none
  | .ne => if plain x && plain y then some (!eqv x y) else none
  | .is => isSame x y
  | .isnot => (isSame x y).map (!·)
  | .isin => inOf x y
  | .notin => (inOf x y).map (!·)

def getKey (k : D) : List (D × D) → Option D
  | [] => none
  | (a, b) :: r => if eqv a k then some b else getKey k r
def putKey (k v : D) (l : List (D × D)) : List (D × D) := if (l.any fun p => eqv p.1 k) = true then l.map (fun p => if eqv p.1 k = true then (p.1, v) else p) else l ++ [(k, v)]
def D.isKey : D → Bool
  | .int _ => true | .str _ => true | _ => false

/-- a display's keys and values, by turns -/
def pairsOf : List D → Option (List (D × D))
  | [] => some []
  | k :: r => match r with
    | [] => none
    | v :: r => if k.isKey then (pairsOf r).map ((k, v) :: ·) else none
def dispOf (l : List D) : Option D := if l.length ≤ 30 then (pairsOf l).map fun ps => .dct (ps.foldl (fun acc p => putKey p.1 p.2 acc) []) else none
def idxOf (x i : D) : Option D := match x with
  | .lst l => (match i with | .int k => atI l k | _ => none)
  | .tup l => (match i with | .int k => atI l k | _ => none)
  | .str z => (match i with | .int k => if z.length ≤ lim then (atI z.cps.toList k).map fun c => .str ⟨#[c]⟩ else none | _ => none)
  | .scr l => (match i with | .int k => (atI l k).map .int | _ => none)
  | _ => none
def partOf : Option D → Option (Option Int)
  | none => some none
  | some (.int i) => some (some i)
  | _ => none
def cutOf (x : D) (lo hi : Option Int) : Option D := match x with
  | .lst l => some (.lst (cut l lo hi))
  | .tup l => some (.tup (cut l lo hi))
  | .str z => if z.length ≤ lim then some (.str ⟨(cut z.cps.toList lo hi).toArray⟩) else none
  | _ => none
def truth : D → Option Bool
  | .non => some false | .bl b => some b | .int i => some (i != 0)
  | .str z => if z.length ≤ lim then some (z.length != 0) else none
  | .lst l => some (!l.isEmpty) | .tup l => some (!l.isEmpty) | .dct l => some (!l.isEmpty)
  | .scr _ => none | .ty _ => none | .cls _ => none | .err _ _ => none
def lenOf : D → Option Nat
  | .str z => if z.length ≤ lim then some z.length else none
  | .lst l => some l.length | .tup l => some l.length | .scr l => some l.length | .dct l => some l.length
  | _ => none
/-- what a for walks -/
def itemsOf : D → Option (List D)
  | .lst l => some l | .tup l => some l | .scr l => some (l.map .int)
  | _ => none
def ranged (lo : Int) (n : Nat) : List D := (List.range n).map fun (k : Nat) => .int (lo + (k : Int))

def leastI : Int → List Int → Int
  | m, [] => m
  | m, x :: r => leastI (if x < m then x else m) r
def mostI : Int → List Int → Int
  | m, [] => m
  | m, x :: r => mostI (if m < x then x else m) r

/-- the first place of an equal one -/
def findI (x : D) : List D → Nat → Option Nat
  | [], _ => none
  | z :: r, k => if eqv z x then some k else findI x r (k + 1)
def rngOk (i j : Int) : Bool := decide (-4611686018427387904 ≤ i) && (decide (i < 4611686018427387904) && (decide (-4611686018427387904 ≤ j) && (decide (j < 4611686018427387904) && decide ((j - i).toNat ≤ lim))))
/-- a built-in of values; those that walk stand in the evaluator -/
def bfn (b : BI) (xs : List D) : Option D := match b, xs with
  | .len, [x] => (lenOf x).map fun n => .int n
  | .int, [.int i] => some (.int i)
  | .int, [.bl k] => some (.int (if k then 1 else 0))
  | .abs, [.int i] => some (.int (if i < 0 then -i else i))
  | .min2, [.int i, .int j] => some (.int (if j < i then j else i))
  | .max2, [.int i, .int j] => some (.int (if j > i then j else i))
  | .min1, [.lst l] => (match D.ints l with | some (m :: r) => some (.int (leastI m r)) | _ => none)
  | .max1, [.lst l] => (match D.ints l with | some (m :: r) => some (.int (mostI m r)) | _ => none)
  | .sum, [.lst l] => (D.ints l).map fun ns => .int ns.sum
  | .all, [.lst l] => (D.bls l).map fun bs => .bl (bs.all id)
  | .any, [.lst l] => (D.bls l).map fun bs => .bl (bs.any id)
  | .tuple, [.lst l] => some (.tup l)
  | .tuple, [.tup l] => some (.tup l)
  | .list, [.lst l] => some (.lst l)
  | .list, [.tup l] => some (.lst l)
  | .isi, [x, .ty n] => (isiTy x n).map .bl
  | .gcd, [.int i, .int j] => some (.int ((Nat.gcd i.natAbs j.natAbs : Nat) : Int))
  | .isqrt, [.int i] => if 0 ≤ i ∧ i.toNat.log2 ≤ 13000 then some (.int ((PySem.Float64.isqrt i.toNat : Nat) : Int)) else none
  | .lrange1, [.int j] => if rngOk 0 j then some (.lst (ranged 0 j.toNat)) else none
  | .lrange2, [.int i, .int j] => if rngOk i j then some (.lst (ranged i (j - i).toNat)) else none
  | .str, [.int i] => if i.natAbs.log2 < 1920 then some (.str (toString i)) else none
  | _, _ => none

/-- a method's receiver is of the method's type -/
def mTy (m : BI) (x : D) : Bool := match m, x with
  | .index, .lst _ => true
  | _, _ => false
/-- a method of values -/
def mfn (m : BI) (x : D) (ys : List D) : Option D := match m, x, ys with
  | .index, .lst l, [y] => if plain y && plain (.lst l) then (findI y l 0).map fun k => .int k else none
  | _, _, _ => none
structure Pg where
  /-- the module's constants -/
  glob : List D
  /-- is the class i below the class j -/
  sub : Nat → Nat → Bool
  defs : List Def

def subK (G : Pg) (k : Option Nat) (c : Nat) : Bool := match k with
  | some j => G.sub c j
  | none => true
def lift {α : Type} (o : Option α) (e : Env) : Res α := match o with
  | some a => .ok a e
  | none => .bad
def D.isErr : D → Bool
  | .err _ _ => true | _ => false
def dOf : Sl → Option D
  | .un => none | .fz d => if d.isErr then none else some d | .own d => some d
def frzd : Sl → Option D
  | .fz d => if d.isErr then none else some d | _ => none
def isOw : Sl → Bool
  | .own _ => true | _ => false
def isOL : Sl → Bool
  | .own (.lst _) => true | _ => false
def setPat : List Nat → List D → Env → Env
  | [], _, e => e
  | i :: r, ds, e => setPat r ds.tail (e.put i (.fz (ds.headD .non)))
/-- what a target takes of an item -/
def wipeE : List Nat → Env → Env
  | [], e => e
  | i :: r, e => (wipeE r e).put i .un
def patItems (p : List Nat) (many : Bool) (d : D) : Option (List D) := if many then (match d with
  | .tup l => if l.length = p.length then some l else none
  | _ => none) else some [d]
def oldPat (p : List Nat) (e : Env) : List Sl := p.map e.get
def rePat : List Nat → List Sl → Env → Env
  | [], _, e => e
  | i :: r, os, e => rePat r os.tail (e.put i (os.headD .un))

/-- a comprehension's turns -/
def loopC (p : List Nat) (many : Bool) (f : Env → Res (Option D)) : List D → List D → Env → Res (List D)
  | [], acc, e => .ok acc e
  | d :: r, acc, e => match patItems p many d with
    | none => .bad
    | some ds => match f (setPat p ds (wipeE p e)) with
      | .ok (some v) e' => loopC p many f r (acc ++ [v]) (rePat p (oldPat p e) e')
      | .ok none e' => loopC p many f r acc (rePat p (oldPat p e) e')
      | .exc _ _ => .bad
      | .bad => .bad

section
variable (G : Pg) (call : Nat → List D → CRes)

/-- a value that may be an owned name's -/
def brw (t : T) (e : Env) (r : Res D) : Res D := match t with
  | .var i => lift (dOf (e.get i)) e
  | _ => r
/-- two values, the first one read late if it is a name -/
def brw2 (a b : T) (e : Env) (ra : Res D) (rb : Env → Res D) (k : D → D → Env → Res D) : Res D := match a with
  | .var i => if (dOf (e.get i)).isNone then .bad else (brw b e (rb e)).bind fun y e => match dOf (e.get i) with
    | some x => k x y e
    | none => .bad
  | _ => ra.bind fun x e => (brw b e (rb e)).bind fun y e => k x y e
/-- a value read late if it is a name, and what is evaluated between -/
def brwL {β : Type} (a : T) (e : Env) (ra : Res D) (rest : Env → Res β) (k : D → β → Env → Res D) : Res D := match a with
  | .var i => if (dOf (e.get i)).isNone then .bad else (rest e).bind fun y e => match dOf (e.get i) with
    | some x => k x y e
    | none => .bad
  | _ => ra.bind fun x e => (rest e).bind fun y e => k x y e

/-- a method's receiver, read early and late if it is a name -/
def brwM (m : BI) (a : T) (e : Env) (ra : Res D) (rb : Env → Res (List D)) (k : D → List D → Env → Res D) : Res D := match a with
  | .var i => if ((dOf (e.get i)).map (mTy m)).getD false = true then (rb e).bind fun ys e => match dOf (e.get i) with
    | some x => k x ys e
    | none => .bad else .bad
  | _ => ra.bind fun x e => if mTy m x = true then (rb e).bind fun ys e => k x ys e else .bad
mutual
def evE : T → Env → Res D
  | .con d, e => .ok d e
  | .var i, e => lift (frzd (e.get i)) e
  | .glb k, e => lift G.glob[k]? e
  | .bin op a b, e => brw2 a b e (evE a e) (evE b) fun x y e => lift (binop op x y) e
  | .neg a, e => (evE a e).bind fun x e => (match x with | .int i => .ok (.int (-i)) e | _ => .bad)
  | .not a, e => (evE a e).bind fun x e => (match x with | .bl b => .ok (.bl (!b)) e | _ => .bad)
  | .and a b, e => (evE a e).bind fun x e => (match x with | .bl k => (if k = true then evE b e else .ok (.bl false) e) | _ => .bad)
  | .or a b, e => (evE a e).bind fun x e => (match x with | .bl k => (if k = true then .ok (.bl true) e else evE b e) | _ => .bad)
  | .cmp op a b, e => brw2 a b e (evE a e) (evE b) fun x y e => lift ((cmpop op x y).map .bl) e
  | .chain o1 o2 a b c, e => (evE a e).bind fun x e => (evE b e).bind fun y e => (match cmpop o1 x y with
    | some k => (if k = true then (evE c e).bind fun z e => lift ((cmpop o2 y z).map .bl) e else .ok (.bl false) e)
    | none => .bad)
  | .ite c a b, e => (evC c e).bind fun k e => if k = true then evE a e else evE b e
  | .tup l, e => (evL l e).bind fun ds e => if ds.length ≤ lim then .ok (.tup ds) e else .bad
  | .lst l, e => (evL l e).bind fun ds e => if ds.length ≤ lim then .ok (.lst ds) e else .bad
  | .dct l, e => (evL l e).bind fun ds e => lift (dispOf ds) e
  | .idx a i, e => brw2 a i e (evE a e) (evE i) fun x y e => lift (idxOf x y) e
  | .slc a lo hi, e => brwL a e (evE a e) (fun e => (evP lo e).bind fun l e => (evP hi e).bind fun h e => .ok (l, h) e) fun x p e => lift (cutOf x p.1 p.2) e
  | .call f args, e => (evL args e).bind fun ds e => (match call f ds with
    | .ret d => .ok d e
    | .exc x => .exc x e
    | .bad => .bad)
  | .bi b args, e => (match args with
    | .cons a r => (match r with
      | .nil => (brw a e (evE a e)).bind fun x e => lift (bfn b [x]) e
      | .cons c q => (match q with
        | .nil => brw2 a c e (evE a e) (evE c) fun x y e => lift (bfn b [x, y]) e
        | _ => .bad)
      | _ => .bad)
    | _ => .bad)
  | .comp p many it c elt, e => (evI it e).bind fun items e => if items.length ≤ lim then
      (loopC p many (fun e => (evC c e).bind fun k e => if k = true then (evE elt e).bind fun v e => .ok (some v) e else .ok none e) items [] e).bind fun ds e => .ok (.lst ds) e
    else .bad
  | .pop i ix, e => if isOL (e.get i) = true then (match ix with
    | .nil => (match e.get i with
      | .own (.lst l) => (match l.getLast? with | some d => .ok d (e.put i (.own (.lst l.dropLast))) | none => .bad)
      | _ => .bad)
    | _ => (evE ix e).bind fun k e => (match k with
      | .int k => (match e.get i with
        | .own (.lst l) => if l.length ≤ lim then (match ixN l.length k with
          | some j => (match l[j]? with | some d => .ok d (e.put i (.own (.lst (l.eraseIdx j)))) | none => .bad)
          | none => .bad) else .bad
        | _ => .bad)
      | _ => .bad)) else .bad
  | .meth m a args, e => brwM m a e (evE a e) (evL args) fun x ys e => lift (mfn m x ys) e
  | .efld i k, e => (match e.get i with | .fz (.err _ fs) => lift fs[k]? e | _ => .bad)
  | .eisi i k, e => (match e.get i with | .fz (.err c fs) => if fs.isEmpty then .ok (.bl (subK G k c)) e else .bad | _ => .bad)
  | .dcomp _ _ _ _ _, _ => .bad
  | .tst _, _ => .bad | .itv _, _ => .bad | .prt _, _ => .bad
  | .nil, _ => .bad
  | .cons _ _, _ => .bad
  | .never, _ => .bad
/-- a test -/
def evC : T → Env → Res Bool
  | .nil, e => .ok true e
  | .not a, e => (evC a e).bind fun k e => .ok (!k) e
  | .and a b, e => (evC a e).bind fun k e => (if k = true then evC b e else .ok false e)
  | .or a b, e => (evC a e).bind fun k e => (if k = true then .ok true e else evC b e)
  | .tst a, e => (brw a e (evE a e)).bind fun x e => lift (truth x) e
  | _, _ => .bad
/-- several, frozen -/
def evL : T → Env → Res (List D)
  | .nil, e => .ok [] e
  | .cons a r, e => (evE a e).bind fun x e => (evL r e).bind fun xs e => .ok (x :: xs) e
  | _, _ => .bad
/-- a slice's part -/
def evP : T → Env → Res (Option Int)
  | .nil, e => .ok none e
  | .prt t, e => (evE t e).bind fun x e => (match x with | .int i => .ok (some i) e | _ => .bad)
  | _, _ => .bad
/-- what is walked -/
def evI : T → Env → Res (List D)
  | .bi b args, e => (match b, args with
    | .range1, .cons a r => (match r with
      | .nil => (evE a e).bind fun x e => (match x with
        | .int j => if -4611686018427387904 ≤ j ∧ j < 4611686018427387904 then .ok (ranged 0 j.toNat) e else .bad
        | _ => .bad)
      | _ => .bad)
    | .range2, .cons a r => (match r with
      | .cons c q => (match q with
        | .nil => (evE a e).bind fun x e => (evE c e).bind fun y e => (match x, y with
          | .int i, .int j => if (-4611686018427387904 ≤ i ∧ i < 4611686018427387904) ∧ (-4611686018427387904 ≤ j ∧ j < 4611686018427387904) then .ok (ranged i (j - i).toNat) e else .bad
          | _, _ => .bad)
        | _ => .bad)
      | _ => .bad)
    | _, _ => .bad)
  | .itv t, e => (evE t e).bind fun x e => lift (itemsOf x) e
  | _, _ => .bad
end

/-- terms whose list or dict is new -/
def freshT : T → Bool
  | .lst _ => true | .comp _ _ _ _ _ => true | .bin _ _ _ => true | .slc _ _ _ => true | .dct _ => true | .dcomp _ _ _ _ _ => true
  | .bi b _ => b == .list || b == .sorted || b == .lrange1 || b == .lrange2
  | .call f _ => (G.defs[f]?.map (·.fr)).getD false
  | _ => false

inductive SRes where
  | nx (e : Env) | rt (d : D) (e : Env) | bk (e : Env) | ct (e : Env) | exc (x : X) (e : Env) | bad
def SRes.seq (r : SRes) (f : Env → SRes) : SRes := match r with
  | .nx e => f e
  | r => r
def Res.st {α : Type} (r : Res α) (f : α → Env → SRes) : SRes := match r with
  | .ok a e => f a e
  | .exc x e => .exc x e
  | .bad => .bad
def opt {α : Type} (o : Option α) (f : α → SRes) : SRes := match o with
  | some a => f a
  | none => .bad

/-- a name of the def is stored -/
def asg (io : List Bool) (i : Nat) (x : Sl) (e : Env) : Option Env := if io.getD i false || decide (e.length ≤ i) then none else some (e.put i x)
def asgs (io : List Bool) : List Nat → List D → Env → Option Env
  | [], ds, e => if ds.isEmpty then some e else none
  | i :: r, ds, e => match ds with
    | [] => none
    | d :: ds => (asg io i (.fz d) e).bind fun e => asgs io r ds e

def forL (io : List Bool) (p : List Nat) (many : Bool) (f : Env → SRes) : List D → Env → SRes
  | [], e => .nx e
  | d :: r, e => opt (patItems p many d) fun ds => opt (asgs io p ds e) fun e => match f e with
    | .nx e => forL io p many f r e
    | .ct e => forL io p many f r e
    | .bk e => .nx e
    | .rt v e => .rt v e
    | .exc x e => .exc x e
    | .bad => .bad
def whileN (c : Env → Res Bool) (f : Env → SRes) : Nat → Env → SRes
  | 0, _ => .bad
  | n + 1, e => (c e).st fun k e => if k = true then (match f e with
    | .nx e => whileN c f n e
    | .ct e => whileN c f n e
    | .bk e => .nx e
    | .rt v e => .rt v e
    | .exc x e => .exc x e
    | .bad => .bad) else .nx e
/-- no exception leaves an except clause -/
def hushed : SRes → SRes
  | .exc _ _ => .bad
  | r => r
def noErr (e : Env) : Bool := e.all fun s => match s with
  | .fz (.err _ _) => false
  | _ => true
/-- the name of an except clause goes -/
def gone (i : Nat) : SRes → SRes
  | .nx e => if noErr (e.put i .un) then .nx (e.put i .un) else .bad
  | .rt d e => .rt d e
  | .bk e => if noErr (e.put i .un) then .bk (e.put i .un) else .bad
  | .ct e => if noErr (e.put i .un) then .ct (e.put i .un) else .bad
  | .exc _ _ => .bad
  | .bad => .bad
def augop (op : BOp) (x y : D) : Option D := match op, x, y with
  | .add, .int i, .int j => some (.int (i + j))
  | .sub, .int i, .int j => some (.int (i - j))
  | _, _, _ => none

def putL (i : Nat) (d k : D) (e : Env) (l : List D) : SRes := match k with
  | .int k => opt (ixN l.length k) fun j => .nx (e.put i (.own (.lst (l.set j d))))
  | _ => .bad
def putS (i : Nat) (d k : D) (e : Env) (s : Sl) : SRes := match s with
  | .own (.lst l) => putL i d k e l
  | .own (.dct l) => if (k.isKey && decide (l.length < lim)) = true then .nx (e.put i (.own (.dct (putKey k d l)))) else .bad
  | _ => .bad
section
variable (io : List Bool) (fr : Bool)
def ex : S → Env → SRes
  | .skip, e => .nx e
  | .seq a b, e => (ex a e).seq fun e => ex b e
  | .set i t, e => (evE G call t e).st fun d e => opt (asg io i (.fz d) e) .nx
  | .setO i t, e => (evE G call t e).st fun d e => if freshT G t && d.isMut then opt (asg io i (.own d) e) .nx else .bad
  | .unpack is t, e => (evE G call t e).st fun d e => opt (patItems is true d) fun ds => opt (asgs io is ds e) .nx
  | .par2 i j a b, e => (evE G call a e).st fun x e => (evE G call b e).st fun y e => if i = j then .bad else opt (asg io i (.fz x) e) fun e => opt (asg io j (.fz y) e) .nx
  | .app i t, e => if isOL (e.get i) = true then ((evE G call t e).st fun d e => (match e.get i with
    | .own (.lst l) => if l.length < lim then .nx (e.put i (.own (.lst (l ++ [d])))) else .bad
    | _ => .bad)) else .bad
  | .put i k t, e => (evE G call t e).st fun d e => if isOw (e.get i) = true then ((evE G call k e).st fun k e => putS i d k e (e.get i)) else .bad
  | .aug i op t, e => opt (frzd (e.get i)) fun x => (evE G call t e).st fun y e => opt (augop op x y) fun d => opt (asg io i (.fz d) e) .nx
  | .augp _ _ _ _, _ => .bad
  | .expr t, e => (evE G call t e).st fun _ e => .nx e
  | .ret t, e => (match t with
    | .var i => (match e.get i with
      | .fz d => if fr || d.isErr then .bad else .rt d e
      | .own d => if io.getD i false then .bad else .rt d (e.put i .un)
      | .un => .bad)
    | _ => (evE G call t e).st fun d e => if fr && !(freshT G t && d.isMut) then .bad else .rt d e)
  | .retN, e => if fr then .bad else .rt .non e
  | .ite c a b, e => (evC G call c e).st fun k e => if k = true then ex a e else ex b e
  | .for_ p many it body, e => (evI G call it e).st fun items e => forL io p many (fun e => ex body e) items e
  | .while_ c body, e => whileN (fun e => evC G call c e) (fun e => ex body e) lim e
  | .brk, e => .bk e
  | .cnt, e => .ct e
  | .raise c args, e => (evL G call args e).st fun ds e => .exc ⟨c, ds⟩ e
  | .try_ body c i h, e => (match ex body e with
    | .exc x e => if G.sub x.c c then (match i with
        | none => hushed (ex h e)
        | some k => opt (asg io k (.fz (.err x.c x.fs)) e) fun e => gone k (ex h e)) else .exc x e
    | r => r)
  | .frz i, e => (match e.get i with | .own d => .nx (e.put i (.fz d)) | _ => .nx e)
  | .never, _ => .bad
end
end

def runDef (G : Pg) (call : Nat → List D → CRes) (d : Def) (as : List D) : CRes :=
  if as.length = d.np then (match ex G call d.io d.fr d.body (as.map .fz ++ List.replicate (d.ns - d.np) .un) with
    | .nx _ => if d.fr then .bad else .ret .non
    | .rt v _ => .ret v
    | .exc x _ => .exc x
    | _ => .bad) else .bad
def callF (G : Pg) : Nat → Nat → List D → CRes
  | 0, _, _ => .bad
  | n + 1, f, as => match G.defs[f]? with
    | some d => runDef G (callF G n) d as
    | none => .bad
end MP

namespace MP
open PySem L2 PySem.Spec PyProof.Rows

def keyD : D → Option Key
  | .int i => some (.inl i)
  | .str x => some (.inr x)
  | _ => none

section
variable (K : PySem.W.Frag) (ca : Nat → Addr)
mutual
/-- frozen data at a value -/
def Fz (F : Hp) : D → V → Prop
  | .non, v => v = .non
  | .bl b, v => v = .bl b
  | .int i, v => v = .int i
  | .str x, v => v = .str x
  | .lst l, v => ∃ a vs, v = .ref a ∧ F a = some (.lst vs) ∧ FzL F l vs
  | .tup l, v => ∃ a vs, v = .ref a ∧ SqT K F a vs ∧ FzL F l vs
  | .dct l, v => ∃ a ks, v = .ref a ∧ F a = some (.dK ks) ∧ FzK F l ks
  | .scr l, v => ∃ a, v = .ref a ∧ SqL K F a (l.map V.int)
  | .ty n, v => v = .ty n
  | .cls c, v => v = .ref (ca c)
  | .err _ _, _ => False
def FzL (F : Hp) : List D → List V → Prop
  | [], vs => vs = []
  | d :: r, vs => ∃ v ws, vs = v :: ws ∧ Fz F d v ∧ FzL F r ws
def FzK (F : Hp) : List (D × D) → List (Key × V) → Prop
  | [], ks => ks = []
  | p :: r, ks => ∃ q qs, ks = q :: qs ∧ keyD p.1 = some q.1 ∧ Fz F p.2 q.2 ∧ FzK F r qs
end
end

section
variable {K : PySem.W.Frag} {ca : Nat → Addr} {F F' H H' : Hp}
theorem same_tup {a : Addr} {xs : List V} (e : Same F F') (h : SqT K F a xs) : SqT K F' a xs := by
  rcases h with (h | ⟨o, h⟩) | h
  · exact .inl (.inl (e _ _ h))
  · exact .inl (.inr ⟨o, e _ _ h⟩)
  · exact .inr h
mutual
theorem Fz.mono (e : Same F F') : ∀ {d : D} {v : V}, Fz K ca F d v → Fz K ca F' d v
  | .non, v, h => by unfold Fz at h ⊢; exact h
  | .bl b, v, h => by unfold Fz at h ⊢; exact h
  | .int i, v, h => by unfold Fz at h ⊢; exact h
  | .str x, v, h => by unfold Fz at h ⊢; exact h
  | .lst l, v, h => by
    unfold Fz at h ⊢
    obtain ⟨a, vs, h1, h2, h3⟩ := h
    exact ⟨a, vs, h1, e _ _ h2, FzL.mono e h3⟩
  | .tup l, v, h => by
    unfold Fz at h ⊢
    obtain ⟨a, vs, h1, h2, h3⟩ := h
    exact ⟨a, vs, h1, same_tup e h2, FzL.mono e h3⟩
  | .dct l, v, h => by
    unfold Fz at h ⊢
    obtain ⟨a, vs, h1, h2, h3⟩ := h
    exact ⟨a, vs, h1, e _ _ h2, FzK.mono e h3⟩
  | .scr l, v, h => by
    unfold Fz at h ⊢
    obtain ⟨a, h1, h2⟩ := h
    exact ⟨a, h1, Same.seq e h2⟩
  | .ty n, v, h => by unfold Fz at h ⊢; exact h
  | .cls c, v, h => by unfold Fz at h ⊢; exact h
  | .err c l, v, h => by unfold Fz at h; exact h.elim
theorem FzL.mono (e : Same F F') : ∀ {l : List D} {vs : List V}, FzL K ca F l vs → FzL K ca F' l vs
  | [], _, h => by unfold FzL at h ⊢; exact h
  | d :: r, _, h => by
    unfold FzL at h ⊢
    obtain ⟨v, ws, h1, h2, h3⟩ := h
    exact ⟨v, ws, h1, Fz.mono e h2, FzL.mono e h3⟩
theorem FzK.mono (e : Same F F') : ∀ {l : List (D × D)} {vs : List (Key × V)}, FzK K ca F l vs → FzK K ca F' l vs
  | [], _, h => by unfold FzK at h ⊢; exact h
  | p :: r, _, h => by
    unfold FzK at h ⊢
    obtain ⟨v, ws, h1, h2, h3, h4⟩ := h
    exact ⟨v, ws, h1, h2, Fz.mono e h3, FzK.mono e h4⟩
end

theorem FzL.length : ∀ {l : List D} {vs : List V}, FzL K ca F l vs → vs.length = l.length
  | [], _, h => by unfold FzL at h; subst h; rfl
  | d :: r, _, h => by
    unfold FzL at h
    obtain ⟨v, ws, rfl, _, h3⟩ := h
    simp [FzL.length h3]
theorem FzL.nil : FzL K ca F [] [] := by unfold FzL; rfl
theorem FzL.cons {d : D} {v : V} {l : List D} {vs : List V} (h : Fz K ca F d v) (t : FzL K ca F l vs) : FzL K ca F (d :: l) (v :: vs) := by
  unfold FzL; exact ⟨v, vs, rfl, h, t⟩
theorem FzL.get : ∀ {l : List D} {vs : List V} {i : Nat} {d : D}, FzL K ca F l vs → l[i]? = some d → ∃ v, vs[i]? = some v ∧ Fz K ca F d v
  | [], _, i, d, _, e => by simp at e
  | x :: r, _, 0, d, h, e => by
    unfold FzL at h
    obtain ⟨v, ws, rfl, h2, h3⟩ := h
    simp at e; subst e
    exact ⟨v, rfl, h2⟩
  | x :: r, _, i + 1, d, h, e => by
    unfold FzL at h
    obtain ⟨v, ws, rfl, h2, h3⟩ := h
    exact FzL.get (i := i) h3 (by simpa using e)
theorem FzL.append : ∀ {l m : List D} {vs ws : List V}, FzL K ca F l vs → FzL K ca F m ws → FzL K ca F (l ++ m) (vs ++ ws)
  | [], m, vs, ws, h, t => by unfold FzL at h; subst h; exact t
  | x :: r, m, _, ws, h, t => by
    unfold FzL at h
    obtain ⟨v, us, rfl, h2, h3⟩ := h
    exact FzL.cons h2 (FzL.append h3 t)
theorem FzL.take : ∀ (n : Nat) {l : List D} {vs : List V}, FzL K ca F l vs → FzL K ca F (l.take n) (vs.take n)
  | 0, _, _, _ => by simpa using FzL.nil
  | n + 1, [], _, h => by unfold FzL at h; subst h; simpa using FzL.nil
  | n + 1, x :: r, _, h => by
    unfold FzL at h
    obtain ⟨v, us, rfl, h2, h3⟩ := h
    exact FzL.cons h2 (FzL.take n h3)
theorem FzL.drop : ∀ (n : Nat) {l : List D} {vs : List V}, FzL K ca F l vs → FzL K ca F (l.drop n) (vs.drop n)
  | 0, _, _, h => h
  | n + 1, [], _, h => by unfold FzL at h; subst h; simpa using FzL.nil
  | n + 1, x :: r, _, h => by
    unfold FzL at h
    obtain ⟨v, us, rfl, h2, h3⟩ := h
    exact FzL.drop n h3
theorem FzL.set {d : D} {v : V} (hd : Fz K ca F d v) : ∀ (n : Nat) {l : List D} {vs : List V}, FzL K ca F l vs → FzL K ca F (l.set n d) (vs.set n v)
  | _, [], _, h => by unfold FzL at h; subst h; simpa using FzL.nil
  | 0, x :: r, _, h => by
    unfold FzL at h
    obtain ⟨w, us, rfl, h2, h3⟩ := h
    exact FzL.cons hd h3
  | n + 1, x :: r, _, h => by
    unfold FzL at h
    obtain ⟨w, us, rfl, h2, h3⟩ := h
    exact FzL.cons h2 (FzL.set hd n h3)
theorem FzL.erase : ∀ (n : Nat) {l : List D} {vs : List V}, FzL K ca F l vs → FzL K ca F (l.eraseIdx n) (vs.eraseIdx n)
  | _, [], _, h => by unfold FzL at h; subst h; simpa using FzL.nil
  | 0, x :: r, _, h => by
    unfold FzL at h
    obtain ⟨w, us, rfl, h2, h3⟩ := h
    exact h3
  | n + 1, x :: r, _, h => by
    unfold FzL at h
    obtain ⟨w, us, rfl, h2, h3⟩ := h
    exact FzL.cons h2 (FzL.erase n h3)
theorem FzL.rep {l : List D} {vs : List V} (h : FzL K ca F l vs) : ∀ n, FzL K ca F (List.replicate n l).flatten (List.replicate n vs).flatten
  | 0 => FzL.nil
  | n + 1 => by
    rw [List.replicate_succ, List.replicate_succ, List.flatten_cons, List.flatten_cons]
    exact FzL.append h (FzL.rep h n)
theorem FzL.ints : ∀ {l : List D} {ns : List Int} {vs : List V}, D.ints l = some ns → FzL K ca F l vs → vs = ns.map V.int
  | [], ns, vs, e, h => by
    unfold FzL at h; subst h
    unfold D.ints at e; cases e; rfl
  | .int i :: r, ns, vs, e, h => by
    unfold FzL at h
    obtain ⟨v, us, rfl, h2, h3⟩ := h
    unfold D.ints at e
    cases q : D.ints r with
    | none => rw [q] at e; cases e
    | some ms =>
      rw [q] at e
      simp only [Option.map_some, Option.some.injEq] at e
      subst e
      unfold Fz at h2; subst h2
      rw [FzL.ints q h3]; rfl
  | .non :: _, _, _, e, _ => by simp [D.ints] at e
  | .bl _ :: _, _, _, e, _ => by simp [D.ints] at e
  | .str _ :: _, _, _, e, _ => by simp [D.ints] at e
  | .lst _ :: _, _, _, e, _ => by simp [D.ints] at e
  | .tup _ :: _, _, _, e, _ => by simp [D.ints] at e
  | .dct _ :: _, _, _, e, _ => by simp [D.ints] at e
  | .scr _ :: _, _, _, e, _ => by simp [D.ints] at e
  | .ty _ :: _, _, _, e, _ => by simp [D.ints] at e
  | .cls _ :: _, _, _, e, _ => by simp [D.ints] at e
  | .err _ _ :: _, _, _, e, _ => by simp [D.ints] at e
theorem FzL.bls : ∀ {l : List D} {ns : List Bool} {vs : List V}, D.bls l = some ns → FzL K ca F l vs → vs = ns.map V.bl
  | [], ns, vs, e, h => by
    unfold FzL at h; subst h
    unfold D.bls at e; cases e; rfl
  | .bl i :: r, ns, vs, e, h => by
    unfold FzL at h
    obtain ⟨v, us, rfl, h2, h3⟩ := h
    unfold D.bls at e
    cases q : D.bls r with
    | none => rw [q] at e; cases e
    | some ms =>
      rw [q] at e
      simp only [Option.map_some, Option.some.injEq] at e
      subst e
      unfold Fz at h2; subst h2
      rw [FzL.bls q h3]; rfl
  | .non :: _, _, _, e, _ => by simp [D.bls] at e
  | .int _ :: _, _, _, e, _ => by simp [D.bls] at e
  | .str _ :: _, _, _, e, _ => by simp [D.bls] at e
  | .lst _ :: _, _, _, e, _ => by simp [D.bls] at e
  | .tup _ :: _, _, _, e, _ => by simp [D.bls] at e
  | .dct _ :: _, _, _, e, _ => by simp [D.bls] at e
  | .scr _ :: _, _, _, e, _ => by simp [D.bls] at e
  | .ty _ :: _, _, _, e, _ => by simp [D.bls] at e
  | .cls _ :: _, _, _, e, _ => by simp [D.bls] at e
  | .err _ _ :: _, _, _, e, _ => by simp [D.bls] at e
end

mutual
def plM : D → Bool
  | .non | .bl _ | .int _ | .str _ => true
  | .lst l => plML l
  | .tup l => plML l
  | .dct _ => false | .scr _ => false | .ty _ => false | .cls _ => false | .err _ _ => false
def plML : List D → Bool
  | [] => true
  | x :: r => plM x && plML r
end
theorem plN_M : ∀ {n : Nat} {d : D}, plN n d = true → plM d = true
  | 0, d, h => by cases d <;> first | rfl | (simp [plN] at h)
  | n + 1, d, h => by
    have k : ∀ l : List D, l.all (plN n) = true → plML l = true := fun l => by
      induction l with
      | nil => intro _; rfl
      | cons x r ih =>
        intro h
        simp only [List.all_cons, Bool.and_eq_true] at h
        simp only [plML, Bool.and_eq_true]
        exact ⟨plN_M h.1, ih h.2⟩
    cases d <;> first | rfl | (simp [plN] at h) | skip
    · simp only [plM]; exact k _ (by simpa [plN] using h)
    · simp only [plM]; exact k _ (by simpa [plN] using h)
mutual
def toPy : D → PyData
  | .non => .none
  | .bl b => .bool b
  | .int i => .int i
  | .str x => .str x
  | .lst l => .list (toPyL l)
  | .tup l => .tuple (toPyL l)
  | .dct _ => .none | .scr _ => .none | .ty _ => .none | .cls _ => .none | .err _ _ => .none
def toPyL : List D → List PyData
  | [] => []
  | d :: r => toPy d :: toPyL r
end
mutual
theorem plain_py : ∀ d : D, plM d = true → (toPy d).plain = true
  | .non, _ => rfl | .bl _, _ => rfl | .int _, _ => rfl | .str _, _ => rfl
  | .lst l, h => by simp only [toPy, PyData.plain]; exact plain_pyL l (by simpa [plM] using h)
  | .tup l, h => by simp only [toPy, PyData.plain]; exact plain_pyL l (by simpa [plM] using h)
  | .dct _, h => by simp [plM] at h
  | .scr _, h => by simp [plM] at h
  | .ty _, h => by simp [plM] at h
  | .cls _, h => by simp [plM] at h
  | .err _ _, h => by simp [plM] at h
theorem plain_pyL : ∀ l : List D, plML l = true → PyData.plainAll (toPyL l) = true
  | [], _ => rfl
  | d :: r, h => by
    simp only [plML, Bool.and_eq_true] at h
    simp only [toPyL, PyData.plainAll, Bool.and_eq_true]
    exact ⟨plain_py d h.1, plain_pyL r h.2⟩
end
mutual
theorem eqv_py : ∀ d e : D, plM d = true → plM e = true → PyData.eqv (toPy d) (toPy e) = eqv d e
  | .non, e, _, he => by cases e <;> simp [plM] at he <;> simp [toPy, PyData.eqv, eqv]
  | .bl _, e, _, he => by cases e <;> simp [plM] at he <;> simp [toPy, PyData.eqv, eqv]
  | .int _, e, _, he => by cases e <;> simp [plM] at he <;> simp [toPy, PyData.eqv, eqv]
  | .str _, e, _, he => by cases e <;> simp [plM] at he <;> simp [toPy, PyData.eqv, eqv]
  | .lst l, e, h, he => by
    cases e <;> simp only [plM] at he <;> try (simp at he)
    all_goals simp only [toPy, PyData.eqv, eqv]
    exact eqv_pyL l _ (by simpa [plM] using h) he
  | .tup l, e, h, he => by
    cases e <;> simp only [plM] at he <;> try (simp at he)
    all_goals simp only [toPy, PyData.eqv, eqv]
    exact eqv_pyL l _ (by simpa [plM] using h) he
  | .dct _, _, h, _ => by simp [plM] at h
  | .scr _, _, h, _ => by simp [plM] at h
  | .ty _, _, h, _ => by simp [plM] at h
  | .cls _, _, h, _ => by simp [plM] at h
  | .err _ _, _, h, _ => by simp [plM] at h
theorem eqv_pyL : ∀ l m : List D, plML l = true → plML m = true → PyData.eqvAll (toPyL l) (toPyL m) = eqvL l m
  | [], [], _, _ => rfl
  | [], _ :: _, _, _ => rfl
  | _ :: _, [], _, _ => rfl
  | x :: r, y :: q, h, k => by
    simp only [plML, Bool.and_eq_true] at h k
    simp only [toPyL, PyData.eqvAll, eqvL]
    rw [eqv_py x y h.1 k.1, eqv_pyL r q h.2 k.2]
end
theorem plN_depth : ∀ {n : Nat} {d : D}, plN n d = true → (toPy d).depth ≤ n
  | 0, d, h => by cases d <;> first | (simp [toPy, PyData.depth]; done) | (simp [plN] at h)
  | n + 1, d, h => by
    have k : ∀ l : List D, l.all (plN n) = true → PyData.depthAll (toPyL l) ≤ n := fun l => by
      induction l with
      | nil => intro _; simp [toPyL, PyData.depthAll]
      | cons x r ih =>
        intro h
        simp only [List.all_cons, Bool.and_eq_true] at h
        simp only [toPyL, PyData.depthAll]
        exact Nat.max_le.mpr ⟨plN_depth h.1, ih h.2⟩
    cases d <;> first | (simp [toPy, PyData.depth]; done) | (simp [plN] at h; done) | skip
    · simp only [toPy, PyData.depth]; have := k _ (by simpa [plN] using h); omega
    · simp only [toPy, PyData.depth]; have := k _ (by simpa [plN] using h); omega
theorem plain_lst {l : List D} (h : plain (.lst l) = true) : plML l = true ∧ PyData.depthAll (toPyL l) ≤ 12 := by
  have h1 := plN_M h
  have h2 := plN_depth h
  refine ⟨by simpa [plM] using h1, ?_⟩
  simp only [toPy, PyData.depth] at h2
  omega
theorem plain_tup {l : List D} (h : plain (.tup l) = true) : plML l = true ∧ PyData.depthAll (toPyL l) ≤ 12 := by
  have h1 := plN_M h
  have h2 := plN_depth h
  refine ⟨by simpa [plM] using h1, ?_⟩
  simp only [toPy, PyData.depth] at h2
  omega
theorem any_py {x : D} (hx : plM x = true) : ∀ {l : List D}, plML l = true → ((toPyL l).any fun y => PyData.eqv y (toPy x)) = l.any fun z => eqv z x
  | [], _ => rfl
  | z :: r, h => by
    simp only [plML, Bool.and_eq_true] at h
    simp only [toPyL, List.any_cons]
    rw [eqv_py z x h.1 hx, any_py hx h.2]
section
variable {K : PySem.W.Frag} {ca : Nat → Addr} {F H : Hp}
mutual
theorem Fz.dp (e : Same F H) : ∀ {d : D} {v : V}, plM d = true → Fz K ca F d v → Dp K H v (toPy d)
  | .non, v, _, h => by unfold Fz at h; subst h; exact .non
  | .bl b, v, _, h => by unfold Fz at h; subst h; exact .bl b
  | .int b, v, _, h => by unfold Fz at h; subst h; exact .int b
  | .str b, v, _, h => by unfold Fz at h; subst h; exact .str b
  | .lst l, v, p, h => by
    unfold Fz at h
    obtain ⟨a, vs, rfl, h2, h3⟩ := h
    exact .lst (SqL.of (e _ _ h2)) (FzL.dp e (by simpa [plM] using p) h3)
  | .tup l, v, p, h => by
    unfold Fz at h
    obtain ⟨a, vs, rfl, h2, h3⟩ := h
    exact .tup (same_tup e h2) (FzL.dp e (by simpa [plM] using p) h3)
  | .dct _, _, h, _ => by simp [plM] at h
  | .scr _, _, h, _ => by simp [plM] at h
  | .ty _, _, h, _ => by simp [plM] at h
  | .cls _, _, h, _ => by simp [plM] at h
  | .err _ _, _, h, _ => by simp [plM] at h
theorem FzL.dp (e : Same F H) : ∀ {l : List D} {vs : List V}, plML l = true → FzL K ca F l vs → DpAll K H vs (toPyL l)
  | [], _, _, h => by unfold FzL at h; subst h; exact .nil
  | d :: r, _, p, h => by
    unfold FzL at h
    obtain ⟨v, ws, rfl, h2, h3⟩ := h
    simp only [plML, Bool.and_eq_true] at p
    exact .cons (Fz.dp e p.1 h2) (FzL.dp e p.2 h3)
end
end
end MP

namespace MP
open PySem L2

/-- what the text's names stand for -/
structure Nm where
  /-- the module's constants and classes, by number -/
  glob : List Str
  /-- the defs, by number -/
  defs : List Str
  /-- the classes, by number, whether they have an own __init__ -/
  cls : List (Str × List Str)
  /-- the built-in names -/
  bis : List Str
  /-- the module's names for functions of imported modules -/
  bfs : List Str
  /-- within an except clause -/
  hot : Bool

def Nm.heat (M : Nm) (hot : Bool) : Nm := { M with hot := hot }
def bopIs : BOp → Operator → Bool
  | .add, .Add | .sub, .Sub | .mul, .Mult | .mod, .Mod | .fdiv, .FloorDiv | .pow, .Pow => true
  | _, _ => false
def copIs : COp → CmpOp → Bool
  | .lt, .Lt | .le, .LtE | .gt, .Gt | .ge, .GtE | .eq, .Eq | .ne, .NotEq | .is, .Is | .isnot, .IsNot | .isin, .In | .notin, .NotIn => true
  | _, _ => false
def biName : BI → Str
  | .len => "len" | .int => "int" | .abs => "abs" | .min1 => "min" | .max1 => "max" | .min2 => "min" | .max2 => "max" | .max3 => "max"
  | .sum => "sum" | .all => "all" | .any => "any" | .tuple => "tuple" | .list => "list" | .sorted => "sorted" | .isi => "isinstance"
  | .range1 => "range" | .range2 => "range" | .str => "str" | .repr => "repr" | .set => "set" | .gcd => "gcd" | .isqrt => "isqrt"
  | .enum => "enumerate" | .rev => "reversed" | .zip2 => "zip" | .items => "items" | .keys => "keys" | .values => "values" | .bool => "bool" | .dict => "dict"
  | .join => "join" | .split => "split" | .index => "index" | .lrange1 => "list" | .lrange2 => "list"
/-- the built-in names that a text may use -/
def biAll : List Str := ["len", "int", "abs", "min", "max", "sum", "all", "any", "tuple", "list", "sorted", "isinstance", "range", "str", "repr", "set", "bool", "dict", "enumerate", "reversed", "zip", "ValueError"]
def noStar : Expr → Bool
  | .Starred .. => false | .Set .. => false | .Slice .. => false | _ => true
def tyAll : List String := ["int", "bool", "str", "list", "tuple", "dict", "ValueError"]

def visB (sc : Scope) (x : Str) : Bool := match sc.names.lookup x with
  | some .local => true | some .cell => true | some .free => true | _ => false
def locB (sc : Scope) (x : Str) : Bool := match sc.names.lookup x with
  | some .local => true | some .cell => true | _ => false
def glbB (sc : Scope) (x : Str) : Bool := match sc.names.lookup x with
  | some .globalImplicit => true | _ => false
def okName (x : Str) : Bool := !(x == ("__debug__" : Str)) && !(x == ("__classdict__" : Str)) && !(x == ("__name__" : Str))
def isComp : Expr → Bool
  | .ListComp .. => true | .SetComp .. => true | .DictComp .. => true | _ => false
/-- a display's keys and values, by turns -/
def flatP : List (Option Expr) → List Expr → Option (List Expr)
  | [], vs => if vs.isEmpty then some [] else none
  | k :: ks, vs => match k, vs with
    | some k, v :: vs => (flatP ks vs).map fun l => k :: v :: l
    | _, _ => none
/-- built-ins that ask a calm place -/
def biCalm : BI → Bool
  | .min1 => true | .max1 => true | .min2 => true | .max2 => true | .sum => true | .all => true | .any => true | _ => false
/-- the built-ins that are known -/
def biB : BI → Bool
  | .len | .abs | .min1 | .max1 | .min2 | .max2 | .sum | .all | .any | .isi => true
  | _ => false
def biT : BI → Bool
  | .int | .tuple | .list | .str => true
  | _ => false
def biM : BI → Bool
  | .gcd => true | .isqrt => true
  | _ => false
/-- list(range(..)) -/
def biL : BI → Bool
  | .lrange1 => true | .lrange2 => true | _ => false
def arB : BI → Nat → Bool
  | .lrange1, n => n == 1 | .lrange2, n => n == 2 | _, _ => false
/-- the methods that are known -/
def methB : BI → Bool
  | .index => true | _ => false
/-- no super() -/
def noSup : Expr → Bool
  | .Call (.Name _ _) [] [] _ => false | _ => true
/-- a block's own names may be stored -/
def blkNm (N : List Str) (scope rs : Scope) (p : List Nat) : Bool := p.all fun i => match N[i]? with
  | some x => rs.names.lookup x == some .local || scope.names.lookup x == some .cell
  | none => false
def conIs : D → Const → Bool
  | .non, .none => true
  | .bl a, .bool b => a == b
  | .int a, .int b => a == b
  | .str a, .str b => decide (a = b)
  | _, _ => false

section
variable (M : Nm) (N : List Str)
def patIs (sc : Scope) (p : List Nat) (many : Bool) (e : Expr) : Bool := match many with
  | false => (match e, p with
    | .Name x _, [i] => N[i]? == some x && locB sc x
    | _, _ => false)
  | true => (match e with
    | .Tuple es _ _ => p.length == es.length && (p.zip es).all fun q => (match q.2 with
      | .Name x _ => N[q.1]? == some x && locB sc x
      | _ => false)
    | _ => false)

mutual
def mE (sc : Scope) : T → Expr → Bool
  | .con d, e => (match e with
    | .Constant c _ _ => conIs d c
    | .Name x _ => (match d with
      | .ty n => decide (x = Str.ofString n) && tyAll.contains n && M.bis.contains x && glbB sc x && okName x
      | _ => false)
    | _ => false)
  | .var i, e => (match e with
    | .Name x _ => N[i]? == some x && visB sc x && okName x
    | _ => false)
  | .glb k, e => (match e with
    | .Name x _ => M.glob[k]? == some x && glbB sc x && okName x
    | _ => false)
  | .bin op a b, e => (match e with
    | .BinOp x o y _ => bopIs op o && mE sc a x && mE sc b y
    | _ => false)
  | .neg a, e => (match e with
    | .UnaryOp .USub x _ => mE sc a x
    | _ => false)
  | .not a, e => (match e with
    | .UnaryOp .Not x _ => mE sc a x
    | _ => false)
  | .and a b, e => (match e with
    | .BoolOp .And vs p => (match vs with
      | x :: y :: r => mE sc a x && (match r with
        | [] => mE sc b y
        | _ => mE sc b (.BoolOp .And (y :: r) p))
      | _ => false)
    | _ => false)
  | .or a b, e => (match e with
    | .BoolOp .Or vs p => (match vs with
      | x :: y :: r => mE sc a x && (match r with
        | [] => mE sc b y
        | _ => mE sc b (.BoolOp .Or (y :: r) p))
      | _ => false)
    | _ => false)
  | .cmp op a b, e => (match e with
    | .Compare x [o] [y] _ => copIs op o && noStar y && mE sc a x && mE sc b y
    | _ => false)
  | .chain o1 o2 a b c, e => (match e with
    | .Compare x [p, q] [y, z] _ => copIs o1 p && copIs o2 q && noStar z && mE sc a x && mE sc b y && mE sc c z
    | _ => false)
  | .ite c a b, e => (match e with
    | .IfExp t x y _ => mC sc c t && mE sc a x && mE sc b y
    | _ => false)
  | .tup l, e => (match e with
    | .Tuple es _ _ => mL sc l es
    | _ => false)
  | .lst l, e => (match e with
    | .List es _ => mL sc l es
    | _ => false)
  | .dct l, e => (match e with
    | .Dict ks vs _ => (match flatP ks vs with
      | some es => mL sc l es && decide (ks.length ≤ 15)
      | none => false)
    | _ => false)
  | .idx a i, e => (match e with
    | .Subscript x y _ => noStar y && mE sc a x && mE sc i y
    | _ => false)
  | .slc a lo hi, e => (match e with
    | .Subscript x (.Slice l h none _) _ => mE sc a x && mP sc lo l && mP sc hi h
    | _ => false)
  | .call f args, e => (match e with
    | .Call (.Name x _) es [] _ => M.defs[f]? == some x && glbB sc x && okName x && !M.hot && mL sc args es
    | _ => false)
  | .bi b args, e => (match e with
    | .Call (.Name x _) es [] _ => if biL b then (match es with
        | [.Call (.Name y _) fs [] _] => x == ("list" : Str) && (y == ("range" : Str) && (M.bis.contains x && (M.bis.contains y && (glbB sc x && (glbB sc y && (okName x && (okName y && (!M.hot && (arB b fs.length && mL sc args fs)))))))))
        | _ => false) else x == biName b && (if biM b then M.bfs.contains x else M.bis.contains x && (biB b || biT b)) && glbB sc x && okName x && !(M.hot && biCalm b) && mL sc args es
    | _ => false)
  | .comp p many it c elt, e => (match e with
    | .ListComp x [⟨tg, iter, ifs, 0⟩] scope _ => !M.hot && mI sc it iter && blkC N sc scope (p.map fun i => (N.getD i (Str.ofString ""), i)) && patIs N (relS scope sc) p many tg && blkNm N scope (relS scope sc) p &&
        (match ifs with
        | [] => (match c with | .nil => true | _ => false)
        | [t] => (match c with | .nil => false | _ => mC (relS scope sc) c t)
        | _ => false) && mE (relS scope sc) elt x
    | _ => false)
  | .eisi i k, e => (match e with
    | .Call (.Name x _) [.Name y _, .Name z _] [] _ => x == ("isinstance" : Str) && M.bis.contains x && glbB sc x && okName x && N[i]? == some y && visB sc y && okName y && glbB sc z && okName z && (match k with
      | some k => (match M.cls[k]? with | some (w, _) => z == w | none => false)
      | none => z == ("ValueError" : Str) && M.bis.contains z)
    | _ => false)
  | .pop i ix, e => (match e with
    | .Call (.Attribute (.Name x _) m apos) es [] cpos => m == ("pop" : Str) && apos.endLine == cpos.line && N[i]? == some x && visB sc x && okName x && (match es with
      | [] => (match ix with | .nil => true | _ => false)
      | [y] => noStar y && mE sc ix y
      | _ => false)
    | _ => false)
  | .meth m a args, e => (match e with
    | .Call (.Attribute o n apos) es [] cpos => n == biName m && (methB m && (apos.endLine == cpos.line && (noSup o && (mE sc a o && (match es with
        | [y] => mL sc args es
        | _ => false)))))
    | _ => false)
  | .never, _ => true
  | _, _ => false
/-- a test -/
def mC (sc : Scope) : T → Expr → Bool
  | .not a, e => (match e with
    | .UnaryOp .Not x _ => mC sc a x
    | _ => false)
  | .and a b, e => (match e with
    | .BoolOp .And vs p => (match vs with
      | x :: y :: r => mC sc a x && (match r with
        | [] => mC sc b y
        | _ => mC sc b (.BoolOp .And (y :: r) p))
      | _ => false)
    | _ => false)
  | .or a b, e => (match e with
    | .BoolOp .Or vs p => (match vs with
      | x :: y :: r => mC sc a x && (match r with
        | [] => mC sc b y
        | _ => mC sc b (.BoolOp .Or (y :: r) p))
      | _ => false)
    | _ => false)
  | .tst a, e => mE sc a e && (match e with
    | .BoolOp .. => false | .UnaryOp .Not _ _ => false | .IfExp .. => false | _ => true)
  | .never, _ => true
  | _, _ => false
def mL (sc : Scope) : T → List Expr → Bool
  | .nil, es => es.isEmpty
  | .cons a r, es => (match es with
    | x :: q => noStar x && mE sc a x && mL sc r q
    | [] => false)
  | _, _ => false
def mP (sc : Scope) : T → Option Expr → Bool
  | .nil, e => e.isNone
  | .prt a, e => (match e with
    | some x => mE sc a x
    | none => false)
  | _, _ => false
def mI (sc : Scope) : T → Expr → Bool
  | .bi b args, e => (match e with
    | .Call (.Name x _) es [] _ => x == biName b && M.bis.contains x && glbB sc x && mL sc args es
    | _ => false)
  | .itv a, e => noStar e && mE sc a e
  | .never, e => noStar e
  | _, _ => false
end

/-- a comprehension that is stored by its own way -/
def swB (sc : Scope) (y : Str) (py : Pos) (scope : Scope) (pos : Pos) : Bool := sc.names.lookup y == some .local && py.line == pos.line && !(scope.names.any fun q => q.1 == y && (q.2 == .local || q.2 == .cell))
/-- two names that are stored by their own way -/
def swB2 (sc : Scope) (x : Str) (px : Pos) (y : Str) (py : Pos) (v w : Expr) : Bool := sc.names.lookup x == some .local && sc.names.lookup y == some .local && py.line == px.line && !(x == y) && noStar v && noStar w && !([v, w].all (foldedForSure 8)) && !([v, w].all (constantsAlone 8))
def noTup : Expr → Bool
  | .Tuple .. => false | _ => true

mutual
def mS (sc : Scope) : S → Bool → Stmt → Bool
  | .skip, hot, s => (match s with | .Pass _ => true | _ => false)
  | .set i t, hot, s => (match s with
    | .Assign [.Name x _] e _ => N[i]? == some x && locB sc x && mE (M.heat hot) N sc t e
    | _ => false)
  | .setO i t, hot, s => (match s with
    | .Assign [.Name x _] e _ => N[i]? == some x && locB sc x && mE (M.heat hot) N sc t e
    | _ => false)
  | .unpack is t, hot, s => (match s with
    | .Assign [.Tuple es k p] e _ => !hot && patIs N sc is true (.Tuple es k p) && noTup e && !isComp e && mE (M.heat hot) N sc t e
    | _ => false)
  | .par2 i j a b, hot, s => (match s with
    | .Assign [.Tuple [.Name x px, .Name y py] _ _] (.Tuple [v, w] _ _) _ => !hot && N[i]? == some x && N[j]? == some y && swB2 sc x px y py v w && mE (M.heat hot) N sc a v && mE (M.heat hot) N sc b w
    | _ => false)
  | .app i t, hot, s => (match s with
    | .Expr (.Call (.Attribute (.Name x _) m apos) [e] [] cpos) _ => m == ("append" : Str) && apos.endLine == cpos.line && noStar e && N[i]? == some x && visB sc x && okName x && mE (M.heat hot) N sc t e
    | _ => false)
  | .put i k t, hot, s => (match s with
    | .Assign [.Subscript (.Name x _) ke _] e _ => N[i]? == some x && visB sc x && okName x && noStar ke && mE (M.heat hot) N sc k ke && mE (M.heat hot) N sc t e && !isComp e
    | _ => false)
  | .aug i op t, hot, s => (match s with
    | .AugAssign (.Name x _) o e _ => N[i]? == some x && locB sc x && okName x && bopIs op o && mE (M.heat hot) N sc t e
    | _ => false)
  | .expr t, hot, s => (match s with
    | .Expr e _ => !isComp e && mE (M.heat hot) N sc t e
    | _ => false)
  | .ret t, hot, s => (match s with
    | .Return (some e) _ => mE (M.heat hot) N sc t e
    | _ => false)
  | .retN, hot, s => (match s with | .Return none _ => true | _ => false)
  | .ite c a b, hot, s => (match s with
    | .If t x y _ => mC (M.heat hot) N sc c t && mB sc a hot x && mB sc b hot y
    | _ => false)
  | .for_ p many it body, hot, s => (match s with
    | .For tg iter x [] _ => patIs N sc p many tg && mI (M.heat hot) N sc it iter && !hot && mB sc body hot x
    | _ => false)
  | .while_ c body, hot, s => (match s with
    | .While t x [] _ => mC (M.heat hot) N sc c t && !hot && mB sc body hot x
    | _ => false)
  | .brk, hot, s => (match s with | .Break _ => true | _ => false)
  | .cnt, hot, s => (match s with | .Continue _ => true | _ => false)
  | .raise c args, hot, s => (match s with
    | .Raise (some (.Call (.Name x _) es [] _)) none _ => !hot && glbB sc x && okName x && (match M.cls[c]? with
      | some (y, fs) => x == y && (match fs with
        | [] => (match args with | .nil => (match es with | [.Constant (.str _) _ _] => true | _ => false) | _ => false)
        | _ => false)
      | none => false)
    | _ => false)
  | .try_ body c i h, hot, s => (match s with
    | .Try x [.ExceptHandler (some (.Name cx _)) nm y _] [] [] _ => glbB sc cx && okName cx && (match M.cls[c]? with
      | some (z, _) => cx == z
      | none => false) && !hot && mB sc body hot x && (match y with | [] => false | _ => mB sc h true y) && (match i with
        | none => nm.isNone
        | some k => (match nm with
          | some n => N[k]? == some n && (sc.names.lookup n == some .local)
          | none => false))
    | _ => false)
  | .never, _, _ => true
  | _, _, _ => false
/-- a block of statements -/
def mB (sc : Scope) : S → Bool → List Stmt → Bool
  | .seq a b, hot, ss => (match a with
    | .frz _ => mB sc b hot ss
    | _ => (match ss with
      | s :: r => mS sc a hot s && mB sc b hot r
      | [] => false))
  | .skip, hot, ss => ss.isEmpty
  | _, _, _ => false
end
end
end MP

namespace MP
open PySem L2 PySem.Spec PyProof.Rows

/-- what stands fast for one text -/
structure Cn where
  K : PySem.W.Frag
  ca : Nat → Addr
  G : Pg
  M : Nm
  /-- the error that a suite holds -/
  er : Hp → Nat → List D → V → Prop
  erm : ∀ F F' c fs v, Same F F' → er F c fs v → er F' c fs v

section
variable (c : Cn)
def OwnO (F : Hp) : D → HO → Prop
  | .lst l, .lst vs => FzL c.K c.ca F l vs
  | .dct l, .dK ks => FzK c.K c.ca F l ks
  | _, _ => False
def SlotR (F H : Hp) : Sl → Option (Option V) → Prop
  | .un, _ => True
  | .fz d, o => ∃ v, o = some (some v) ∧ (match d with
    | .err k fs => c.er F k fs v
    | d => Fz c.K c.ca F d v)
  | .own d, o => ∃ a x, o = some (some (V.ref a)) ∧ F a = none ∧ H a = some x ∧ OwnO c F d x
structure SR (F H : Hp) (e : Env) (σ : L2.St) : Prop where
  le : Same F H
  len : e.length = σ.length
  sl : ∀ i, SlotR c F H (e.get i) σ[i]?
  inj : ∀ i j d d' a, e.get i = .own d → e.get j = .own d' → σ[i]? = some (some (V.ref a)) → σ[j]? = some (some (V.ref a)) → i = j
end
/-- the owned objects -/
def Ft (e : Env) (σ : L2.St) (a : Addr) : Prop := ∃ i d, e.get i = .own d ∧ σ[i]? = some (some (V.ref a))
structure Ext (A : Addr → Prop) (F H : Hp) (A' : Addr → Prop) (F' H' : Hp) : Prop where
  ff : Same F F'
  keep : ∀ a o, H a = some o → ¬ A a → H' a = some o
  new : ∀ a, (F' a ≠ none ∨ A' a) → F a ≠ none ∨ A a ∨ H a = none

section
variable {c : Cn} {F F' F'' H H' H'' : Hp} {e e' : Env} {σ : L2.St} {A A' A'' : Addr → Prop}
theorem Ext.refl : Ext A F H A F H := ⟨Same.refl F, fun _ _ h _ => h, fun a h => h.elim .inl fun z => .inr (.inl z)⟩
theorem Ext.trans (x : Ext A F H A' F' H') (d : ∀ a, A' a → F' a = none) (y : Ext A' F' H' A'' F'' H'') : Ext A F H A'' F'' H'' where
  ff := Same.trans x.ff y.ff
  keep := fun a o h n => by
    have h1 := x.keep a o h n
    by_cases q : A' a
    · exfalso
      rcases x.new a (.inr q) with z | z | z
      · have z' := d a q
        cases hf : F a with
        | none => exact z hf
        | some u => rw [x.ff a u hf] at z'; cases z'
      · exact n z
      · rw [h] at z; cases z
    · exact y.keep a o h1 q
  new := fun a h => by
    rcases y.new a h with z | z | z
    · exact x.new a (.inl z)
    · exact x.new a (.inr z)
    · by_cases q : A a
      · exact .inr (.inl q)
      · cases hh : H a with
        | none => exact .inr (.inr rfl)
        | some o => rw [x.keep a o hh q] at z; cases z
theorem Ext.sub (x : Ext A F H A' F' H') (h : ∀ a, A'' a → A' a) : Ext A F H A'' F' H' := ⟨x.ff, x.keep, fun a z => x.new a (z.imp_right (h a))⟩
theorem SR.ft (s : SR c F H e σ) : ∀ a, Ft e σ a → F a = none := fun a ⟨i, d, h1, h2⟩ => by
  have h := s.sl i
  rw [h1] at h
  obtain ⟨b, x, h3, h4, _⟩ := h
  rw [h2] at h3
  cases h3
  exact h4
theorem SR.fz (s : SR c F H e σ) {i : Nat} {d : D} (h : e.get i = .fz d) (hd : ∀ k fs, d ≠ .err k fs) : ∃ v, σ[i]? = some (some v) ∧ Fz c.K c.ca F d v := by
  have q := s.sl i
  rw [h] at q
  obtain ⟨v, h1, h2⟩ := q
  refine ⟨v, h1, ?_⟩
  cases d <;> first | exact h2 | exact absurd rfl (hd _ _)
theorem SR.own (s : SR c F H e σ) {i : Nat} {d : D} (h : e.get i = .own d) : ∃ a x, σ[i]? = some (some (V.ref a)) ∧ F a = none ∧ H a = some x ∧ OwnO c F d x := by
  have q := s.sl i
  rw [h] at q
  exact q
theorem OwnO.mono (f : Same F F') : ∀ {d : D} {x : HO}, OwnO c F d x → OwnO c F' d x := fun {d x} h => by
  cases d <;> cases x <;> first
    | exact FzL.mono f h
    | exact FzK.mono f h
    | exact h.elim
theorem SR.ext (s : SR c F H e σ) (f : Same F F') (l : Same F' H') (k : ∀ a, Ft e σ a → F' a = none ∧ ∀ x, H a = some x → H' a = some x) : SR c F' H' e σ := by
  refine ⟨l, s.len, fun i => ?_, s.inj⟩
  have q := s.sl i
  cases h : e.get i with
  | un => trivial
  | fz d =>
    rw [h] at q
    obtain ⟨v, h1, h2⟩ := q
    refine ⟨v, h1, ?_⟩
    cases d <;> first | exact c.erm _ _ _ _ _ f h2 | exact Fz.mono f h2
  | own d =>
    rw [h] at q
    obtain ⟨a, x, h1, h2, h3, h4⟩ := q
    obtain ⟨k1, k2⟩ := k a ⟨i, d, h, h1⟩
    exact ⟨a, x, h1, k1, k2 x h3, h4.mono f⟩
theorem Same.upd {p : Addr} {o : HO} (h : F p = none) : Same F (L2.upd F p o) := fun b u e => by
  rw [upd_ne (ne_of_none e h)]; exact e
theorem Same.upd2 {p : Addr} {o : HO} (l : Same F H) : Same (L2.upd F p o) (L2.upd H p o) := fun b u e => by
  by_cases q : b = p
  · subst q; rw [upd_same] at e ⊢; exact e
  · rw [upd_ne q] at e ⊢; exact l b u e
theorem Same.updH {p : Addr} {o : HO} (l : Same F H) (h : F p = none) : Same F (L2.upd H p o) := fun b u e => by
  rw [upd_ne (ne_of_none e h)]; exact l b u e
theorem SR.nofr (s : SR c F H e σ) {p : Addr} (h : H p = none) : F p = none ∧ ¬ Ft e σ p := by
  refine ⟨s.le.free h, fun ⟨i, d, h1, h2⟩ => ?_⟩
  obtain ⟨a, x, h3, _, h5, _⟩ := s.own h1
  rw [h2] at h3; cases h3
  rw [h] at h5; cases h5
/-- a new object, frozen from the start -/
theorem SR.newF (s : SR c F H e σ) {p : Addr} (h : H p = none) (o : HO) : SR c (L2.upd F p o) (L2.upd H p o) e σ ∧ Ext (Ft e σ) F H (Ft e σ) (L2.upd F p o) (L2.upd H p o) := by
  obtain ⟨h1, h2⟩ := s.nofr h
  refine ⟨s.ext (Same.upd h1) (Same.upd2 s.le) fun a ha => ?_, Same.upd h1, fun a o' e' _ => ?_, fun a z => ?_⟩
  · have ne : a ≠ p := fun z => h2 (z ▸ ha)
    exact ⟨by rw [upd_ne ne]; exact s.ft a ha, fun x q => by rw [upd_ne ne]; exact q⟩
  · rw [upd_ne (ne_of_none e' h)]; exact e'
  · by_cases q : a = p
    · subst q; exact .inr (.inr h)
    · rw [upd_ne q] at z
      exact z.imp_right .inl
/-- a new object, owned -/
theorem SR.newO (s : SR c F H e σ) {p : Addr} (h : H p = none) (o : HO) : SR c F (L2.upd H p o) e σ ∧ Ext (Ft e σ) F H (fun b => Ft e σ b ∨ b = p) F (L2.upd H p o) := by
  obtain ⟨h1, h2⟩ := s.nofr h
  refine ⟨s.ext (Same.refl F) (Same.updH s.le h1) fun a ha => ?_, Same.refl F, fun a o' e' _ => ?_, fun a z => ?_⟩
  · have ne : a ≠ p := fun z => h2 (z ▸ ha)
    exact ⟨s.ft a ha, fun x q => by rw [upd_ne ne]; exact q⟩
  · rw [upd_ne (ne_of_none e' h)]; exact e'
  · rcases z with z | z | z
    · exact .inl z
    · exact .inr (.inl z)
    · rw [z]; exact .inr (.inr h)
/-- an owned object becomes frozen -/
theorem OwnO.fz (f : Same F F') {a : Addr} {x : HO} (q : F' a = some x) : ∀ {d : D}, OwnO c F d x → Fz c.K c.ca F' d (.ref a) := fun {d} h => by
  cases d <;> cases x <;> first
    | (unfold Fz; exact ⟨a, _, rfl, q, FzL.mono f h⟩)
    | (unfold Fz; exact ⟨a, _, rfl, q, FzK.mono f h⟩)
    | exact h.elim
/-- a new value: owned if it may be changed -/
def NewR (c : Cn) (F H : Hp) (A : Addr → Prop) (F' H' : Hp) (A' : Addr → Prop) (d : D) (v : V) : Prop :=
  if d.isMut = true then ∃ a x, v = .ref a ∧ F' a = none ∧ H' a = some x ∧ OwnO c F' d x ∧ ¬ A' a ∧ Ext A F H (fun b => A' b ∨ b = a) F' H'
  else Fz c.K c.ca F' d v ∧ Ext A F H A' F' H'
theorem freeze {v : V} {d : D} (s : SR c F' H' e σ) (n : NewR c F H A F' H' (Ft e σ) d v) : ∃ F'', SR c F'' H' e σ ∧ Fz c.K c.ca F'' d v ∧ Ext A F H (Ft e σ) F'' H' := by
  unfold NewR at n
  split at n
  · obtain ⟨a, x, rfl, h1, h2, h3, h4, h5⟩ := n
    refine ⟨L2.upd F' a x, s.ext (Same.upd h1) (fun b u q => ?_) fun b hb => ?_, OwnO.fz (Same.upd h1) upd_same h3, Same.trans h5.ff (Same.upd h1), h5.keep, fun b z => ?_⟩
    · by_cases k : b = a
      · subst k; rw [upd_same] at q; rw [h2]; exact q
      · rw [upd_ne k] at q; exact s.le b u q
    · have ne : b ≠ a := fun z => h4 (z ▸ hb)
      exact ⟨by rw [upd_ne ne]; exact s.ft b hb, fun _ q => q⟩
    · refine h5.new b ?_
      by_cases k : b = a
      · exact .inr (.inr k)
      · rw [upd_ne k] at z
        exact z.imp_right .inl
  · exact ⟨F', s, n.1, n.2⟩
end

section
variable {c : Cn} {F F' H H' : Hp} {e : Env} {σ : L2.St}
theorem get_put {i j : Nat} {x : Sl} (h : i < e.length) : (e.put i x).get j = if j = i then x else e.get j := by
  unfold Env.put Env.get
  by_cases q : j = i
  · subst q
    rw [if_pos rfl, List.getD_eq_getElem?_getD, List.getElem?_set_self h]
    rfl
  · rw [if_neg q, List.getD_eq_getElem?_getD, List.getD_eq_getElem?_getD, List.getElem?_set_ne (Ne.symm q)]
theorem get_lt {i : Nat} (h : e.get i ≠ .un) : i < e.length := by
  by_cases q : i < e.length
  · exact q
  · exfalso
    refine h ?_
    unfold Env.get
    rw [List.getD_eq_getElem?_getD, List.getElem?_eq_none (Nat.le_of_not_lt q)]
    rfl
theorem put_length {i : Nat} {x : Sl} : (e.put i x).length = e.length := List.length_set
/-- a slot is stored: what was there goes -/
theorem SR.put (s : SR c F H e σ) {i : Nat} {x : Sl} {v : V} (hi : i < σ.length) (hx : SlotR c F H x (some (some v))) (hj : ∀ d a, x = .own d → v = .ref a → ¬ Ft e σ a ∨ ∃ d', e.get i = .own d' ∧ σ[i]? = some (some (V.ref a))) : SR c F H (e.put i x) (σ.set i (some v)) := by
  have he : i < e.length := by rw [s.len]; exact hi
  refine ⟨s.le, by rw [put_length, List.length_set]; exact s.len, fun j => ?_, fun j k d d' a h1 h2 h3 h4 => ?_⟩
  · rw [get_put he]
    by_cases q : j = i
    · subst q; rw [if_pos rfl, List.getElem?_set_self hi]; exact hx
    · rw [if_neg q, List.getElem?_set_ne (Ne.symm q)]; exact s.sl j
  · rw [get_put he] at h1 h2
    by_cases q : j = i
    · by_cases r : k = i
      · rw [q, r]
      · exfalso
        subst q
        rw [if_pos rfl] at h1
        rw [if_neg r] at h2
        rw [List.getElem?_set_self hi] at h3
        rw [List.getElem?_set_ne (Ne.symm r)] at h4
        have ev : v = V.ref a := Option.some.inj (Option.some.inj h3)
        rcases hj d a h1 ev with z | ⟨d2, z1, z2⟩
        · exact z ⟨k, d', h2, h4⟩
        · exact r (s.inj k j d' d2 a h2 z1 h4 z2)
    · by_cases r : k = i
      · exfalso
        subst r
        rw [if_pos rfl] at h2
        rw [if_neg q] at h1
        rw [List.getElem?_set_self hi] at h4
        rw [List.getElem?_set_ne (Ne.symm q)] at h3
        have ev : v = V.ref a := Option.some.inj (Option.some.inj h4)
        rcases hj d' a h2 ev with z | ⟨d2, z1, z2⟩
        · exact z ⟨j, d, h1, h3⟩
        · exact q (s.inj j k d d2 a h1 z1 h3 z2)
      · rw [if_neg q] at h1
        rw [if_neg r] at h2
        rw [List.getElem?_set_ne (Ne.symm q)] at h3
        rw [List.getElem?_set_ne (Ne.symm r)] at h4
        exact s.inj j k d d' a h1 h2 h3 h4
/-- only what is said of a slot changes -/
theorem SR.say (s : SR c F H e σ) {i : Nat} {x : Sl} (he : i < e.length) (hx : SlotR c F H x σ[i]?) (hj : ∀ d, x = .own d → ∃ d', e.get i = .own d') : SR c F H (e.put i x) σ := by
  refine ⟨s.le, by rw [put_length]; exact s.len, fun j => ?_, fun j k d d' a h1 h2 h3 h4 => ?_⟩
  · rw [get_put he]
    by_cases q : j = i
    · subst q; rw [if_pos rfl]; exact hx
    · rw [if_neg q]; exact s.sl j
  · rw [get_put he] at h1 h2
    have z1 : ∃ d2, e.get j = .own d2 := by
      by_cases q : j = i
      · subst q; rw [if_pos rfl] at h1; exact hj d h1
      · rw [if_neg q] at h1; exact ⟨_, h1⟩
    have z2 : ∃ d2, e.get k = .own d2 := by
      by_cases q : k = i
      · subst q; rw [if_pos rfl] at h2; exact hj d' h2
      · rw [if_neg q] at h2; exact ⟨_, h2⟩
    obtain ⟨d1, z1⟩ := z1
    obtain ⟨d2, z2⟩ := z2
    exact s.inj j k d1 d2 a z1 z2 h3 h4
theorem ft_put {i : Nat} {x : Sl} {v : V} {a : Addr} (hi : i < σ.length) (he : e.length = σ.length) (h : Ft (e.put i x) (σ.set i (some v)) a) : (Ft e σ a) ∨ ((∃ d, x = .own d) ∧ v = .ref a) := by
  obtain ⟨j, d, h1, h2⟩ := h
  rw [get_put (by omega)] at h1
  by_cases q : j = i
  · subst q
    rw [if_pos rfl] at h1
    rw [List.getElem?_set_self hi] at h2
    exact .inr ⟨⟨d, h1⟩, Option.some.inj (Option.some.inj h2)⟩
  · rw [if_neg q] at h1
    rw [List.getElem?_set_ne (Ne.symm q)] at h2
    exact .inl ⟨j, d, h1, h2⟩
theorem ft_say {i : Nat} {x : Sl} {a : Addr} (he : i < e.length) (hj : ∀ d, x = .own d → ∃ d', e.get i = .own d') (h : Ft (e.put i x) σ a) : Ft e σ a := by
  obtain ⟨j, d, h1, h2⟩ := h
  rw [get_put he] at h1
  by_cases q : j = i
  · subst q
    rw [if_pos rfl] at h1
    obtain ⟨d', h3⟩ := hj d h1
    exact ⟨j, d', h3, h2⟩
  · rw [if_neg q] at h1
    exact ⟨j, d, h1, h2⟩
/-- an owned object is changed -/
theorem SR.change (s : SR c F H e σ) {i : Nat} {d d' : D} {a : Addr} {x' : HO} (hg : e.get i = .own d) (ha : σ[i]? = some (some (V.ref a))) (hx : OwnO c F d' x') :
    SR c F (L2.upd H a x') (e.put i (.own d')) σ ∧ Ext (Ft e σ) F H (Ft (e.put i (.own d')) σ) F (L2.upd H a x') := by
  have he : i < e.length := get_lt (by rw [hg]; exact fun z => nomatch z)
  obtain ⟨b, x, h1, h2, h3, h4⟩ := s.own hg
  rw [ha] at h1
  cases h1
  have fa : Ft e σ a := ⟨i, d, hg, ha⟩
  have s1 : SR c F (L2.upd H a x') (e.put i (.own d')) σ := by
    refine ⟨Same.updH s.le h2, by rw [put_length]; exact s.len, fun j => ?_, ?_⟩
    · rw [get_put he]
      by_cases q : j = i
      · subst q; rw [if_pos rfl]; exact ⟨a, x', ha, h2, upd_same, hx⟩
      · rw [if_neg q]
        have z := s.sl j
        cases hj : e.get j with
        | un => trivial
        | fz u => rw [hj] at z; exact z
        | own u =>
          rw [hj] at z
          obtain ⟨b, y, k1, k2, k3, k4⟩ := z
          refine ⟨b, y, k1, k2, ?_, k4⟩
          rw [upd_ne]
          · exact k3
          · rintro rfl
            exact q (s.inj j i u d b hj hg k1 ha)
    · have t := (s.say (x := .own d) he (by rw [← hg]; exact s.sl i) (fun _ _ => ⟨d, hg⟩))
      intro j k u u' b k1 k2 k3 k4
      have z1 : ∃ w, e.get j = .own w := by
        rw [get_put he] at k1
        by_cases q : j = i
        · rw [q]; exact ⟨d, hg⟩
        · rw [if_neg q] at k1; exact ⟨_, k1⟩
      have z2 : ∃ w, e.get k = .own w := by
        rw [get_put he] at k2
        by_cases q : k = i
        · rw [q]; exact ⟨d, hg⟩
        · rw [if_neg q] at k2; exact ⟨_, k2⟩
      obtain ⟨w1, z1⟩ := z1
      obtain ⟨w2, z2⟩ := z2
      exact s.inj j k w1 w2 b z1 z2 k3 k4
  refine ⟨s1, Same.refl F, fun b o hb n => ?_, fun b z => ?_⟩
  · rw [upd_ne]
    · exact hb
    · rintro rfl; exact n fa
  · rcases z with z | z
    · exact .inl z
    · exact .inr (.inl (ft_say he (fun _ _ => ⟨d, hg⟩) z))
end
end MP

namespace MP
open PySem L2 PySem.Spec PyProof.Rows

theorem pe_imp {X : Cx} {e : Expr} {t t' : TE} (h : PE X e t) (i : ∀ σ H Q, t' σ H Q → t σ H Q) : PE X e t' := ⟨fun pins s σ H Q I q => h.run pins s σ H Q I (i σ H Q q)⟩
theorem pt_imp {X : Cx} {e : Expr} {t t' : TT} (h : PT X e t) (i : ∀ σ H Q, t' σ H Q → t σ H Q) : PT X e t' := ⟨fun pins s σ H Q I q => h.run pins s σ H Q I (i σ H Q q)⟩
theorem pa_imp {X : Cx} {e : List Expr} {t t' : TA} (h : PA X e t) (i : ∀ σ H Q, t' σ H Q → t σ H Q) : PA X e t' := ⟨fun pos pins s σ H Q I q => h.run pos pins s σ H Q I (i σ H Q q)⟩
theorem ps_imp {X : Cx} {e : Stmt} {t t' : TS} (h : PS X e t) (i : ∀ D σ H, t' D σ H → t D σ H) : PS X e t' := ⟨fun pins s σ H D I q => h.run pins s σ H D I (i D σ H q)⟩
theorem pss_imp {X : Cx} {e : List Stmt} {t t' : TS} (h : PSs X e t) (i : ∀ D σ H, t' D σ H → t D σ H) : PSs X e t' := ⟨fun pins s σ H D I q => h.run pins s σ H D I (i D σ H q)⟩

/-- an exception as it lies: its class, its fields in its own dict -/
def XR (c : Cn) (F H : Hp) (x : X) (cls : Value) (dd : Option Addr) : Prop :=
  cls = .ref (c.ca x.c) ∧ ∃ nm fs, c.M.cls[x.c]? = some (nm, fs) ∧ ((fs = [] ∧ x.fs = [] ∧ dd = none) ∨
    (fs ≠ [] ∧ ∃ a vs, dd = some a ∧ F a = some (.xd (fs.zip vs)) ∧ fs.length = vs.length ∧ FzL c.K c.ca F x.fs vs))

section
variable (c : Cn) (W : WX) (σ : L2.St)
def TopP {α β : Type} (P : Hp → α → β → Prop) (Q : β → Hp → Prop) (F H : Hp) (e : Env) (r : Res α) : Prop := match r with
  | .ok a e' => ∀ F' H' b, SR c F' H' e' σ → Ext (Ft e σ) F H (Ft e' σ) F' H' → P F' a b → Q b H'
  | .exc x e' => ∀ F' H' cls dd, SR c F' H' e' σ → Ext (Ft e σ) F H (Ft e' σ) F' H' → XR c F' H' x cls dd → W cls dd σ H'
  | .bad => False
def TopN (Q : VK) (F H : Hp) (e : Env) (r : Res D) : Prop := match r with
  | .ok d e' => ∀ F' H' v, SR c F' H' e' σ → NewR c F H (Ft e σ) F' H' (Ft e' σ) d v → Q v H'
  | .exc x e' => ∀ F' H' cls dd, SR c F' H' e' σ → Ext (Ft e σ) F H (Ft e' σ) F' H' → XR c F' H' x cls dd → W cls dd σ H'
  | .bad => False
/-- what such a wish has -/
structure Tp {α : Type} (T : Hp → Hp → Env → Res α → Prop) : Prop where
  step : ∀ {F H e F1 H1 e1 r}, SR c F1 H1 e1 σ → Ext (Ft e σ) F H (Ft e1 σ) F1 H1 → T F H e r → T F1 H1 e1 r
  exc : ∀ {F H e x e'}, T F H e (.exc x e') → ∀ F' H' cls dd, SR c F' H' e' σ → Ext (Ft e σ) F H (Ft e' σ) F' H' → XR c F' H' x cls dd → W cls dd σ H'
  bad : ∀ {F H e}, T F H e .bad → False
end
section
variable {c : Cn} {W : WX} {σ : L2.St} {F H F' H' : Hp} {e e' : Env}
theorem NewR.step {A A1 A' : Addr → Prop} {F1 H1 : Hp} {d : D} {v : V} (x : Ext A F H A1 F1 H1) (dj : ∀ a, A1 a → F1 a = none) (n : NewR c F1 H1 A1 F' H' A' d v) : NewR c F H A F' H' A' d v := by
  unfold NewR at n ⊢
  split at n
  · rename_i q
    rw [if_pos q]
    obtain ⟨a, u, h1, h2, h3, h4, h5, h6⟩ := n
    exact ⟨a, u, h1, h2, h3, h4, h5, x.trans dj h6⟩
  · rename_i q
    rw [if_neg q]
    exact ⟨n.1, x.trans dj n.2⟩
theorem TopP.tp {α β : Type} (P : Hp → α → β → Prop) (Q : β → Hp → Prop) : Tp c W σ (TopP c W σ P Q) where
  step := fun {F H e F1 H1 e1 r} s x t => by
    cases r with
    | ok a e' => exact fun F' H' b s' x' p => t F' H' b s' (x.trans s.ft x') p
    | exc y e' => exact fun F' H' cls dd s' x' p => t F' H' cls dd s' (x.trans s.ft x') p
    | bad => exact t
  exc := fun t => t
  bad := fun t => t
theorem TopN.tp (Q : VK) : Tp c W σ (TopN c W σ Q) where
  step := fun {F H e F1 H1 e1 r} s x t => by
    cases r with
    | ok a e' => exact fun F' H' v s' n => t F' H' v s' (NewR.step x s.ft n)
    | exc y e' => exact fun F' H' cls dd s' x' p => t F' H' cls dd s' (x.trans s.ft x') p
    | bad => exact t
  exc := fun t => t
  bad := fun t => t
/-- one step, then the rest -/
theorem Tp.bind {α β γ : Type} {T : Hp → Hp → Env → Res γ → Prop} (tp : Tp c W σ T) {r : Res α} {f : α → Env → Res γ} (P : Hp → α → β → Prop) (t : T F H e (r.bind f)) :
    TopP c W σ P (fun b H1 => ∃ F1 e1 a, SR c F1 H1 e1 σ ∧ P F1 a b ∧ T F1 H1 e1 (f a e1)) F H e r := by
  cases r with
  | ok a e' => exact fun F' H' b s x p => ⟨F', e', a, s, p, tp.step s x t⟩
  | exc y e' => exact tp.exc t
  | bad => exact tp.bad t
theorem TopP.imp {α β : Type} {P P' : Hp → α → β → Prop} {Q Q' : β → Hp → Prop} {r : Res α} (t : TopP c W σ P Q F H e r) (hp : ∀ F a b, P' F a b → P F a b) (h : ∀ b H, Q b H → Q' b H) : TopP c W σ P' Q' F H e r := by
  cases r with
  | ok a e' => exact fun F' H' b s x p => h b H' (t F' H' b s x (hp _ _ _ p))
  | exc y e' => exact t
  | bad => exact t

abbrev PF (c : Cn) : Hp → D → V → Prop := fun F d v => Fz c.K c.ca F d v
abbrev PL (c : Cn) : Hp → List D → List V → Prop := fun F d v => FzL c.K c.ca F d v
abbrev PB : Hp → Bool → Bool → Prop := fun _ a b => a = b
section
variable (c W) (call : Nat → List D → CRes)
/-- an expression, its value frozen -/
def tE (t : T) : TE := fun σ H Q => ∃ F e, SR c F H e σ ∧ TopP c W σ (PF c) Q F H e (evE c.G call t e)
/-- .. new where it may be -/
def tN (t : T) : TE := fun σ H Q => ∃ F e, SR c F H e σ ∧ TopN c W σ Q F H e (evE c.G call t e)
def tL (t : T) : TA := fun σ H Q => ∃ F e, SR c F H e σ ∧ TopP c W σ (PL c) Q F H e (evL c.G call t e)
def tCn (t : T) : TT := fun σ H Q => ∃ F e, SR c F H e σ ∧ TopP c W σ PB Q F H e (evC c.G call t e)
def tBw (t : T) : TE := match t with
  | .var i => tVar i
  | t => tE c W call t
end
variable {call : Nat → List D → CRes}
theorem tE_of {t : T} {H : Hp} {Q : VK} (h : tE c W call t σ H Q) : tN c W call t σ H Q := by
  obtain ⟨F, e, s, q⟩ := h
  refine ⟨F, e, s, ?_⟩
  unfold TopP at q
  unfold TopN
  cases h : evE c.G call t e with
  | bad => rw [h] at q; exact q
  | exc x e' => rw [h] at q; exact q
  | ok d e' =>
    rw [h] at q
    intro F' H' v s' n
    obtain ⟨F'', s2, f2, x2⟩ := freeze s' n
    exact q F'' H' v s2 x2 f2

def RB (c : Cn) (F H : Hp) (d : D) (v : V) : Prop := Fz c.K c.ca F d v ∨ ∃ a x, v = .ref a ∧ H a = some x ∧ OwnO c F d x
theorem RB.lst {l : List D} {v : V} (s : Same F H) (h : RB c F H (.lst l) v) : ∃ a vs, v = .ref a ∧ H a = some (.lst vs) ∧ FzL c.K c.ca F l vs := by
  rcases h with h | ⟨a, x, h1, h2, h3⟩
  · unfold Fz at h
    obtain ⟨a, vs, h1, h2, h3⟩ := h
    exact ⟨a, vs, h1, s _ _ h2, h3⟩
  · cases x <;> first | exact ⟨a, _, h1, h2, h3⟩ | exact h3.elim
theorem RB.dct {l : List (D × D)} {v : V} (s : Same F H) (h : RB c F H (.dct l) v) : ∃ a vs, v = .ref a ∧ H a = some (.dK vs) ∧ FzK c.K c.ca F l vs := by
  rcases h with h | ⟨a, x, h1, h2, h3⟩
  · unfold Fz at h
    obtain ⟨a, vs, h1, h2, h3⟩ := h
    exact ⟨a, vs, h1, s _ _ h2, h3⟩
  · cases x <;> first | exact ⟨a, _, h1, h2, h3⟩ | exact h3.elim
theorem RB.fz {d : D} {v : V} (h : RB c F H d v) (m : d.isMut = false) : Fz c.K c.ca F d v := by
  rcases h with h | ⟨a, x, h1, h2, h3⟩
  · exact h
  · cases d <;> first | (simp [D.isMut] at m; done) | exact h3.elim
theorem RB.tup {l : List D} {v : V} (s : Same F H) (h : RB c F H (.tup l) v) : ∃ a vs, v = .ref a ∧ SqT c.K H a vs ∧ FzL c.K c.ca F l vs := by
  have h := h.fz rfl
  unfold Fz at h
  obtain ⟨a, vs, h1, h2, h3⟩ := h
  exact ⟨a, vs, h1, same_tup s h2, h3⟩
theorem RB.int {i : Int} {v : V} (h : RB c F H (.int i) v) : v = .int i := by
  have h := h.fz rfl
  unfold Fz at h
  exact h
theorem RB.bl {i : Bool} {v : V} (h : RB c F H (.bl i) v) : v = .bl i := by
  have h := h.fz rfl
  unfold Fz at h
  exact h
theorem RB.str {i : Str} {v : V} (h : RB c F H (.str i) v) : v = .str i := by
  have h := h.fz rfl
  unfold Fz at h
  exact h
theorem RB.non {v : V} (h : RB c F H .non v) : v = .non := by
  have h := h.fz rfl
  unfold Fz at h
  exact h
theorem RB.scr {l : List Int} {v : V} (s : Same F H) (h : RB c F H (.scr l) v) : ∃ a, v = .ref a ∧ SqL c.K H a (l.map V.int) := by
  have h := h.fz rfl
  unfold Fz at h
  obtain ⟨a, h1, h2⟩ := h
  exact ⟨a, h1, Same.seq s h2⟩
theorem RB.dp {d : D} {v : V} (s : Same F H) (p : plain d = true) (h : RB c F H d v) : Dp c.K H v (toPy d) := by
  rcases h with h | ⟨a, x, h1, h2, h3⟩
  · exact Fz.dp s (plN_M p) h
  · subst h1
    cases d <;> cases x <;> first
      | exact h3.elim
      | (exact Dp.lst (SqL.of h2) (FzL.dp s (plain_lst p).1 h3))
      | (simp [plain, plN] at p; done)
/-- the value of a name, owned or not -/
theorem SR.rb (s : SR c F H e σ) {i : Nat} {d : D} (h : dOf (e.get i) = some d) : ∃ v, σ[i]? = some (some v) ∧ RB c F H d v := by
  cases q : e.get i with
  | un => rw [q] at h; cases h
  | fz u =>
    rw [q] at h
    unfold dOf at h
    by_cases k : u.isErr = true
    · simp only [if_pos k] at h; cases h
    · simp only [if_neg k] at h; cases h
      obtain ⟨v, h1, h2⟩ := s.fz q (by rintro k' fs rfl; exact k rfl)
      exact ⟨v, h1, .inl h2⟩
  | own u =>
    rw [q] at h; cases h
    obtain ⟨a, x, h1, h2, h3, h4⟩ := s.own q
    exact ⟨.ref a, h1, .inr ⟨a, x, rfl, h3, h4⟩⟩
theorem SR.fzd (s : SR c F H e σ) {i : Nat} {d : D} (h : frzd (e.get i) = some d) : ∃ v, σ[i]? = some (some v) ∧ Fz c.K c.ca F d v := by
  cases q : e.get i with
  | un => rw [q] at h; cases h
  | own u => rw [q] at h; cases h
  | fz u =>
    rw [q] at h
    unfold frzd at h
    by_cases k : u.isErr = true
    · simp only [if_pos k] at h; cases h
    · simp only [if_neg k] at h; cases h
      exact s.fz q (by rintro k' fs rfl; exact k rfl)

def TupO (c : Cn) (F : Hp) : D → HO → Prop
  | .tup l, .tup vs => FzL c.K c.ca F l vs
  | _, _ => False
/-- a value that is there, or a new object -/
def NewV (c : Cn) (F H : Hp) (d : D) (Q : VK) : Prop := (∀ v, Fz c.K c.ca F d v → d.isMut = false → Q v H) ∧ ∀ p o, H p = none → (OwnO c F d o ∨ TupO c F d o) → Q (.ref p) (upd H p o)
theorem newV_of (s : SR c F H e σ) {d : D} {Q : VK} (k : ∀ F' H' v, SR c F' H' e σ → NewR c F H (Ft e σ) F' H' (Ft e σ) d v → Q v H') : NewV c F H d Q := by
  refine ⟨fun v h m => k F H v s ?_, fun p o hp ho => ?_⟩
  · unfold NewR
    rw [if_neg (by rw [m]; exact Bool.false_ne_true)]
    exact ⟨h, Ext.refl⟩
  · rcases ho with ho | ho
    · obtain ⟨s1, x1⟩ := s.newO hp o
      refine k _ _ _ s1 ?_
      unfold NewR
      have m : d.isMut = true := by cases d <;> cases o <;> first | rfl | exact ho.elim
      rw [if_pos m]
      obtain ⟨h1, h2⟩ := s.nofr hp
      exact ⟨p, o, rfl, h1, upd_same, ho, h2, x1⟩
    · obtain ⟨s1, x1⟩ := s.newF hp o
      refine k _ _ _ s1 ?_
      unfold NewR
      cases d <;> cases o <;> first
        | exact ho.elim
        | (rw [if_neg (by simp [D.isMut])]
           refine ⟨?_, x1⟩
           unfold Fz
           exact ⟨p, _, rfl, SqT.of upd_same, FzL.mono (Same.upd (s.nofr hp).1) ho⟩)
theorem TopN.ok {d : D} {Q : VK} (s : SR c F H e σ) (t : TopN c W σ Q F H e (.ok d e)) : NewV c F H d Q := newV_of s t
end
end MP

namespace L2
open PySem PySem.Spec PyProof.Rows
section
variable {X : Cx}
/-- // by a divisor other than 0 -/
def CDivX (_ j : Int) : Prop := j ≠ 0 ∧ j.natAbs.log2 < 9000
theorem op_fdivX : OpR X (binaryOp .FloorDiv) (rI CDivX fun i j => .int (i.fdiv j)) := opI fun _ _ _ _ _ _ _ hc q => floordiv_int hc.1 q (.inl (PyProof.noPylong_of_log2 hc.2))
/-- math.isqrt -/
def rIsqrt : List V → Hp → VK → Prop := fun vs H Q => ∃ a : Int, vs = [.int a] ∧ 0 ≤ a ∧ a.toNat.log2 ≤ 13000 ∧ Q (.int ((Float64.isqrt a.toNat : Nat) : Int)) H
theorem cr_isqrt : CallR X (.builtin "math.isqrt") rIsqrt := by
  intro pins s σ H vs us Q I r h
  obtain ⟨a, rfl, h0, h1, q⟩ := h
  obtain ⟨u, rfl, t, rfl⟩ := vals1 r
  exact call_function_meets PySem.W.MGF.kind_isqrt PySem.W.MGF.plain_isqrt PySem.W.MGF.entry_isqrt (PySem.W.MGF.args_isqrt _) (PySem.W.mg_run_isqrt a t (by omega) (by omega) (by omega)).meets ⟨.int _, H, I.tok _, ⟨_, rfl⟩, q⟩
/-- list(range(i, j)) -/
def rngL (i : Int) (n : Nat) : List V := (List.range n).map fun (k : Nat) => V.int (i + (k : Int))
def rListRng : List V → Hp → VK → Prop := fun vs H Q => ∃ (a : Addr) (i j : Int), vs = [.ref a] ∧ H a = some (.rng i j) ∧ (-(2 ^ 62) ≤ i ∧ i < 2 ^ 62) ∧ (-(2 ^ 62) ≤ j ∧ j < 2 ^ 62) ∧ (j - i).toNat ≤ 2 ^ 24 ∧ ∀ p, H p = none → Q (.ref p) (upd H p (.lst (rngL i (j - i).toNat)))
theorem rng_vals {i : Int} {n : Nat} {acc : Array Value} (h : ItemsOf (fun k v => ∃ t, v = .int (i + (k : Int) * 1) t) acc n) : Vals (rngL i n) acc.toList := by
  have key : ∀ (m : Nat) (l : List Value) (s : Nat), l.length = m → (∀ (k : Nat) (v : Value), l[k]? = some v → ∃ t, v = .int (i + ((s + k : Nat) : Int)) t) → Vals ((List.range' s m).map fun (k : Nat) => V.int (i + (k : Int))) l := by
    intro m
    induction m with
    | zero => intro l s hl hk; cases List.eq_nil_of_length_eq_zero hl; exact .nil
    | succ m ih =>
      intro l s hl hk
      cases l with
      | nil => cases hl
      | cons v l =>
        obtain ⟨t, e⟩ := hk 0 v rfl
        subst e
        rw [List.range'_succ, List.map_cons]
        refine .cons ⟨t, rfl⟩ (ih l (s + 1) (by simpa using hl) fun k w hw => ?_)
        obtain ⟨t, e⟩ := hk (k + 1) w (by simpa using hw)
        exact ⟨t, by rw [e]; congr 3; omega⟩
  unfold rngL
  rw [List.range_eq_range']
  refine key n acc.toList 0 (by rw [Array.length_toList]; exact h.1) fun k v hv => ?_
  obtain ⟨t, e⟩ := h.2 k v (by rw [← Array.getElem?_toList]; exact hv)
  exact ⟨t, by rw [e, Nat.zero_add, Int.mul_one]⟩
theorem cr_listRng (hc : X.calm = true) : CallR X (.type "list") rListRng := by
  intro pins s σ H vs us Q I r h
  obtain ⟨a, i, j, rfl, ha, hi, hj, hn, q⟩ := h
  obtain ⟨u, rfl, rx⟩ := vals1 r
  cases rx
  obtain ⟨t1, t2, t3, ho⟩ := I.hok a _ ha
  have hsz : Builtin.Range.rangeSize i j 1 = (((j - i).toNat : Nat) : Int) := by rw [rangeSize_one]; split <;> omega
  refine call_list_range (I.ok.hd hc) ho (small_one hi.1 hi.2 hj.1 hj.2) hsz hn fun h' tk acc c' hk hS hacc => ?_
  have hv := rng_vals hacc
  have hl : (rngL i (j - i).toNat).length ≤ sizeLine := by unfold rngL; rw [List.length_map, List.length_range]; exact hn
  exact ⟨.ref s.heap.objs.size, upd H s.heap.objs.size (.lst (rngL i (j - i).toNat)), I.laid (t' := tk) hk (Nat.le_refl _)
    (show ObjOk X.prog X.w _ _ _ (.lst (rngL i (j - i).toNat)) from ⟨hl, acc.toList, c', hv, by rw [Array.toArray_toList]; exact hS⟩), rfl, q _ (I.hok.fresh (Nat.le_refl _))⟩
theorem cr_range1 : CallR X (.type "range") (fun vs H Q => ∃ j, vs = [V.int j] ∧ ∀ p, H p = none → Q (.ref p) (upd H p (.rng 0 j))) := by
  intro pins s σ H vs us Q I r h
  obtain ⟨j, rfl, q⟩ := h
  obtain ⟨u, rfl, t, rfl⟩ := vals1 r
  refine call_range_1 ⟨.ref s.heap.objs.size, upd H s.heap.objs.size (.rng 0 j), I.laid (t' := s.toks + 1 + 1) (fun b o e => Heap.get?_push_of_some _ e) (Nat.le_refl _) ?_, rfl, q _ (I.hok.fresh (Nat.le_refl _))⟩
  exact ⟨s.toks, t, _, Heap.get?_push_size _ rfl⟩
/-- l.index(x): the first place of an equal one; plain data -/
def rIndexP (K : PySem.W.Frag) : V → List V → Hp → VK → Prop := fun x xs H Q => ∃ (y : V) (d : PyData) (ds : List PyData) (j : Nat) (z : PyData), xs = [y] ∧ Dp K H x (.list ds) ∧ Dp K H y d ∧
  PyData.plainAll ds = true ∧ d.plain = true ∧ d.depth ≤ 50 ∧ ds[j]? = some z ∧ PyData.eqv z d = true ∧ (∀ (m : Nat) (z' : PyData), m < j → ds[m]? = some z' → PyData.eqv z' d = false) ∧ Q (.int (j : Nat)) H
theorem mt_indexP (hu : X.A.units + 64 < cLine) : MtR X "list.index" (rIndexP X.K) := by
  intro pins s σ H x xs v us Q I rx rxs h
  obtain ⟨y, d, ds, j, z, rfl, hl, hy, hxs, hd, hdp, hz, hzj, hno, q⟩ := h
  cases rxs with
  | cons ry rt =>
    rename_i uy ut
    cases rt
    obtain ⟨bs, r1⟩ := Dp.reads I d y uy hy ry
    have hroom : X.A.units + 1 + min (PyData.depthAll ds) d.depth < cLine := by
      have := Nat.min_le_right (PyData.depthAll ds) d.depth
      omega
    cases hl with
    | lst hs ha =>
      rename_i a _
      cases rx
      obtain ⟨its, rv, ⟨⟨cls, dd, data, sls⟩, n, ho, hc, hdn, hdt⟩, hlen⟩ := I.list hs
      simp only at hc hdt
      subst hc hdt
      obtain ⟨as, h4⟩ := Dp.readsAll I ds _ its ha rv
      have hn : its.length = ds.length := SeqAt.ReadsAll.length ds its as h4
      have hmap : its.map (SeqAt.readOf s.heap) = ds := SeqAt.readsAll_map_plain ds its as hxs h4
      have hvl := rv.length
      have hsl := sizeLine_eq
      obtain ⟨hjd, _⟩ := List.getElem?_eq_some_iff.mp hz
      have hjl : j < its.length := by omega
      have hj : j < its.toArray.size := by simpa using hjl
      have at_ : ∀ (m : Nat) (hm : m < its.toArray.size) (z' : PyData), ds[m]? = some z' → SeqAt.readOf s.heap its.toArray[m] = z' := by
        intro m hm z' hz'
        have hml : m < its.length := by simpa using hm
        rw [← hmap, List.getElem?_map, List.getElem?_eq_getElem hml] at hz'
        have e1 : SeqAt.readOf s.heap its[m] = z' := Option.some.inj (show some (SeqAt.readOf s.heap its[m]) = some z' from hz')
        simpa using e1
      refine call_meets PySem.F.slot_list_index ⟨_, ho, rfl⟩ PySem.F.entry_list_index (PySem.F.args_list_index_2 _ _)
        (SeqAt.list_indexAt a its.toArray n dd sls uy (fun u => PyData.eqv (SeqAt.readOf s.heap u) d) j hj (by omega) ?_ ?_) ⟨ho, SeqAt.items_plain (vs := its.toArray) (show ReadsAll s.heap its.toArray.toList ds as from h4) r1 hxs hd hroom, ?_⟩
      · show PyData.eqv (SeqAt.readOf s.heap its.toArray[j]) d = true
        rw [at_ j hj z hz]
        exact hzj
      · intro m hm hmj
        have hmd : m < ds.length := by omega
        have hz' : ds[m]? = some ds[m] := List.getElem?_eq_getElem hmd
        show PyData.eqv (SeqAt.readOf s.heap its.toArray[m]) d = false
        rw [at_ m hm _ hz']
        exact hno m _ hmj hz'
      · exact ⟨.int (j : Nat), H, I.tok _, ⟨_, rfl⟩, q⟩
end
end L2

namespace MP
open PySem L2 PySem.Spec PyProof.Rows

theorem lim_eq : lim = sizeLine := rfl
section
variable {c : Cn} {X : Cx}
def rBin (c : Cn) (op : BOp) : R2 := fun x y H Q => ∃ F dx dy d, Same F H ∧ RB c F H dx x ∧ RB c F H dy y ∧ binop op dx dy = some d ∧ NewV c F H d Q
theorem NewV.int {F H : Hp} {i : Int} {Q : VK} (n : NewV c F H (.int i) Q) : Q (.int i) H := n.1 _ (by unfold Fz; rfl) rfl
theorem NewV.str {F H : Hp} {i : Str} {Q : VK} (n : NewV c F H (.str i) Q) : Q (.str i) H := n.1 _ (by unfold Fz; rfl) rfl
theorem NewV.bl {F H : Hp} {i : Bool} {Q : VK} (n : NewV c F H (.bl i) Q) : Q (.bl i) H := n.1 _ (by unfold Fz; rfl) rfl
theorem NewV.lst {F H : Hp} {l : List D} {vs : List V} {Q : VK} (n : NewV c F H (.lst l) Q) (h : FzL c.K c.ca F l vs) : ∀ p, H p = none → Q (.ref p) (upd H p (.lst vs)) := fun p hp => n.2 p _ hp (.inl h)
theorem NewV.tup {F H : Hp} {l : List D} {vs : List V} {Q : VK} (n : NewV c F H (.tup l) Q) (h : FzL c.K c.ca F l vs) : ∀ p, H p = none → Q (.ref p) (upd H p (.tup vs)) := fun p hp => n.2 p _ hp (.inr h)
theorem NewV.old {F H : Hp} {l : List D} {v : V} {Q : VK} (n : NewV c F H (.tup l) Q) (h : Fz c.K c.ca F (.tup l) v) : Q v H := n.1 v h rfl

theorem FzL.ne {K : PySem.W.Frag} {ca : Nat → Addr} {F : Hp} {l : List D} {vs : List V} (h : FzL K ca F l vs) : vs = [] ↔ l = [] := by
  have := h.length
  cases l <;> cases vs <;> simp_all

theorem op_bin_add (hK : X.K = c.K) : OpR X (binaryOp .Add) (rBin c .add) := by
  intro pins s σ H x y v u Q I rx ry h
  obtain ⟨F, dx, dy, d, sf, bx, by_, e, n⟩ := h
  cases dx <;> cases dy <;> simp only [binop] at e <;> try (simp at e; done)
  · cases e
    cases bx.int
    cases by_.int
    exact op_add pins s σ H _ _ v u Q I rx ry ⟨_, _, rfl, rfl, n.int⟩
  · split at e
    · cases e
      cases bx.str
      cases by_.str
      exact op_add_str pins s σ H _ _ v u Q I rx ry ⟨_, _, rfl, rfl, by assumption, n.str⟩
    · cases e
  · split at e
    · rename_i q
      cases e
      obtain ⟨a, vs, rfl, h1, f1⟩ := bx.lst sf
      obtain ⟨b, ws, rfl, h2, f2⟩ := by_.lst sf
      exact op_cat pins s σ H _ _ v u Q I rx ry ⟨a, b, vs, ws, rfl, rfl, h1, h2, by rw [f1.length, f2.length]; exact q, n.lst (f1.append f2)⟩
    · cases e
  · split at e
    · rename_i q
      cases e
      obtain ⟨a, vs, rfl, h1, f1⟩ := bx.tup sf
      obtain ⟨b, ws, rfl, h2, f2⟩ := by_.tup sf
      rw [← hK] at h1 h2
      have bx := bx.fz rfl
      have by_ := by_.fz rfl
      refine op_catA pins s σ H _ _ v u Q I rx ry ⟨a, b, vs, ws, rfl, rfl, h1, h2, by rw [f1.length, f2.length]; exact q, fun z => ?_, fun _ z => ?_, fun _ _ => n.tup (f1.append f2)⟩
      · rw [f1.ne.mp z, List.nil_append] at n
        exact n.old by_
      · rw [f2.ne.mp z, List.append_nil] at n
        exact n.old bx
    · cases e
theorem op_bin_sub : OpR X (binaryOp .Sub) (rBin c .sub) := by
  intro pins s σ H x y v u Q I rx ry h
  obtain ⟨F, dx, dy, d, sf, bx, by_, e, n⟩ := h
  cases dx <;> cases dy <;> simp only [binop] at e <;> try (simp at e; done)
  cases e
  cases bx.int
  cases by_.int
  exact op_sub pins s σ H _ _ v u Q I rx ry ⟨_, _, rfl, rfl, n.int⟩
/-- * of two factors of together less than 134 million bits -/
def CMulX (i j : Int) : Prop := i.natAbs.log2 + j.natAbs.log2 < 134217000
theorem CMulX.ok {i j : Int} (h : CMulX i j) : IntMulOk i j := by
  have b : ∀ x : Int, Builtin.Int.intBits x ≤ x.natAbs.log2 + 1 := fun x => by
    unfold Builtin.Int.intBits
    split <;> omega
  have h1 := b i
  have h2 := b j
  have h3 : i.natAbs.log2 + j.natAbs.log2 < 134217000 := h
  have e : bitsLine = 134217728 := by decide
  unfold IntMulOk
  intro z
  have z2 := (Bool.and_eq_true_iff.mp z).2
  unfold Builtin.Int.intTooBig at z2
  have z3 := of_decide_eq_true z2
  rw [e] at z3
  omega
theorem op_mulX {X : Cx} : OpR X (binaryOp .Mult) (rI CMulX fun i j => .int (i * j)) := opI fun _ _ _ _ _ _ _ hc q => mul_int q hc.ok
theorem op_bin_mul : OpR X (binaryOp .Mult) (rBin c .mul) := by
  intro pins s σ H x y v u Q I rx ry h
  obtain ⟨F, dx, dy, d, sf, bx, by_, e, n⟩ := h
  cases dx <;> cases dy <;> simp only [binop] at e <;> try (simp at e; done)
  · split at e
    · rename_i q
      cases e
      cases bx.int
      cases by_.int
      exact op_mulX pins s σ H _ _ v u Q I rx ry ⟨_, _, rfl, rfl, (show CMulX _ _ from by unfold CMulX; unfold mulOk at q; exact of_decide_eq_true q), n.int⟩
    · cases e
  · split at e
    · rename_i q
      cases e
      obtain ⟨a, vs, rfl, h1, f1⟩ := bx.lst sf
      cases by_.int
      exact op_rep pins s σ H _ _ v u Q I rx ry ⟨a, _, vs, rfl, rfl, h1, by omega, by omega, by rw [f1.length]; exact q.2.2, n.lst (f1.rep _)⟩
    · cases e
theorem op_bin_mod : OpR X (binaryOp .Mod) (rBin c .mod) := by
  intro pins s σ H x y v u Q I rx ry h
  obtain ⟨F, dx, dy, d, sf, bx, by_, e, n⟩ := h
  cases dx <;> cases dy <;> simp only [binop] at e <;> try (simp at e; done)
  split at e
  · rename_i q
    cases e
    cases bx.int
    cases by_.int
    exact op_mod pins s σ H _ _ v u Q I rx ry ⟨_, _, rfl, rfl, q, n.int⟩
  · cases e
theorem op_bin_fdiv : OpR X (binaryOp .FloorDiv) (rBin c .fdiv) := by
  intro pins s σ H x y v u Q I rx ry h
  obtain ⟨F, dx, dy, d, sf, bx, by_, e, n⟩ := h
  cases dx <;> cases dy <;> simp only [binop] at e <;> try (simp at e; done)
  split at e
  · rename_i q
    cases e
    cases bx.int
    cases by_.int
    obtain ⟨q1, q2⟩ := Bool.and_eq_true_iff.mp q
    exact op_fdivW pins s σ H _ _ v u Q I rx ry ⟨_, _, rfl, rfl, ⟨of_decide_eq_true q1, of_decide_eq_true q2⟩, n.int⟩
  · split at e
    · rename_i q
      cases e
      cases bx.int
      cases by_.int
      obtain ⟨q1, q2⟩ := Bool.and_eq_true_iff.mp q
      have q1 := of_decide_eq_true q1
      exact op_fdivX pins s σ H _ _ v u Q I rx ry ⟨_, _, rfl, rfl, ⟨by omega, of_decide_eq_true q2⟩, n.int⟩
    · cases e
theorem op_bin_pow : OpR X (binaryOp .Pow) (rBin c .pow) := by
  intro pins s σ H x y v u Q I rx ry h
  obtain ⟨F, dx, dy, d, sf, bx, by_, e, n⟩ := h
  cases dx <;> cases dy <;> simp only [binop] at e <;> try (simp at e; done)
  split at e
  · rename_i i j q
    cases e
    cases bx.int
    cases by_.int
    obtain ⟨q1, q2⟩ := Bool.and_eq_true_iff.mp q
    have q1 := of_decide_eq_true q1
    have q2 := of_decide_eq_true q2
    obtain ⟨t, rfl⟩ := rx
    obtain ⟨t', rfl⟩ := ry
    refine pow_int q1 ?_ ⟨.int _, H, I.tok _, ⟨_, rfl⟩, n.int⟩
    have b : Builtin.Int.intBits i ≤ i.natAbs.log2 + 1 := by
      unfold Builtin.Int.intBits
      split <;> omega
    have z : Builtin.Int.intBits i * j.toNat ≤ 134217728 := Nat.le_trans (Nat.mul_le_mul_right _ b) q2
    have e1 : (j.toNat : Int) = j := Int.toNat_of_nonneg q1
    have e2 : ((134217728 : Nat) : Int) = (2 : Int) ^ 27 := by decide
    rw [← e2]
    have z2 : ((Builtin.Int.intBits i * j.toNat : Nat) : Int) ≤ ((134217728 : Nat) : Int) := Int.ofNat_le.mpr z
    rw [Int.natCast_mul, e1] at z2
    exact z2
  · cases e
def pyB : BOp → Operator
  | .add => .Add | .sub => .Sub | .mul => .Mult | .mod => .Mod | .fdiv => .FloorDiv | .pow => .Pow
theorem op_bin (hK : X.K = c.K) : ∀ op, OpR X (binaryOp (pyB op)) (rBin c op)
  | .add => op_bin_add hK
  | .sub => op_bin_sub
  | .mul => op_bin_mul
  | .mod => op_bin_mod
  | .fdiv => op_bin_fdiv
  | .pow => op_bin_pow
theorem bopIs_eq {op : BOp} {o : Operator} (h : bopIs op o = true) : o = pyB op := by
  cases op <;> cases o <;> first | rfl | (simp [bopIs] at h)

def rCop (c : Cn) (op : COp) : R2 := fun x y H Q => ∃ F dx dy b, Same F H ∧ RB c F H dx x ∧ RB c F H dy y ∧ cmpop op dx dy = some b ∧ Q (.bl b) H
def pyC : COp → CmpOp
  | .lt => .Lt | .le => .LtE | .gt => .Gt | .ge => .GtE | .eq => .Eq | .ne => .NotEq | .is => .Is | .isnot => .IsNot | .isin => .In | .notin => .NotIn
theorem copIs_eq {op : COp} {o : CmpOp} (h : copIs op o = true) : o = pyC op := by
  cases op <;> cases o <;> first | rfl | (simp [copIs] at h)
theorem op_c_lt : OpR X (compareOp .Lt) (rCop c .lt) := by
  intro pins s σ H x y v u Q I rx ry h
  obtain ⟨F, dx, dy, d, sf, bx, by_, e, n⟩ := h
  cases dx <;> cases dy <;> simp only [cmpop] at e <;> try (simp at e; done)
  · cases e; cases bx.int; cases by_.int
    exact op_lt pins s σ H _ _ v u Q I rx ry ⟨_, _, rfl, rfl, n⟩
  · cases e; cases bx.str; cases by_.str
    exact op_lt_str pins s σ H _ _ v u Q I rx ry ⟨_, _, rfl, rfl, n⟩
theorem op_c_le : OpR X (compareOp .LtE) (rCop c .le) := by
  intro pins s σ H x y v u Q I rx ry h
  obtain ⟨F, dx, dy, d, sf, bx, by_, e, n⟩ := h
  cases dx <;> cases dy <;> simp only [cmpop] at e <;> try (simp at e; done)
  cases e; cases bx.int; cases by_.int
  exact op_le pins s σ H _ _ v u Q I rx ry ⟨_, _, rfl, rfl, n⟩
theorem op_c_gt : OpR X (compareOp .Gt) (rCop c .gt) := by
  intro pins s σ H x y v u Q I rx ry h
  obtain ⟨F, dx, dy, d, sf, bx, by_, e, n⟩ := h
  cases dx <;> cases dy <;> simp only [cmpop] at e <;> try (simp at e; done)
  cases e; cases bx.int; cases by_.int
  exact op_gt pins s σ H _ _ v u Q I rx ry ⟨_, _, rfl, rfl, n⟩
theorem op_c_ge : OpR X (compareOp .GtE) (rCop c .ge) := by
  intro pins s σ H x y v u Q I rx ry h
  obtain ⟨F, dx, dy, d, sf, bx, by_, e, n⟩ := h
  cases dx <;> cases dy <;> simp only [cmpop] at e <;> try (simp at e; done)
  cases e; cases bx.int; cases by_.int
  exact op_ge pins s σ H _ _ v u Q I rx ry ⟨_, _, rfl, rfl, n⟩
theorem dep {d e : D} (h : plain d = true) : min (toPy d).depth (toPy e).depth ≤ 12 := Nat.le_trans (Nat.min_le_left _ _) (plN_depth h)
theorem op_c_eq (hK : X.K = c.K) (hu : X.A.units + 64 < cLine) : OpR X (compareOp .Eq) (rCop c .eq) := by
  intro pins s σ H x y v u Q I rx ry h
  obtain ⟨F, dx, dy, d, sf, bx, by_, e, n⟩ := h
  simp only [cmpop] at e
  split at e
  · rename_i q
    cases e
    obtain ⟨q1, q2⟩ := Bool.and_eq_true_iff.mp q
    obtain ⟨as, r1⟩ := Dp.reads I _ x v (hK ▸ bx.dp sf q1) rx
    obtain ⟨bs, r2⟩ := Dp.reads I _ y u (hK ▸ by_.dp sf q2) ry
    have z := dep (e := dy) q1
    exact SeqAt.eq_plain r1 r2 (plain_py _ (plN_M q1)) (plain_py _ (plN_M q2)) (by omega) ⟨.bl _, H, I, rfl, by rw [eqv_py _ _ (plN_M q1) (plN_M q2)]; exact n⟩
  · cases e
theorem op_c_ne (hK : X.K = c.K) (hu : X.A.units + 64 < cLine) : OpR X (compareOp .NotEq) (rCop c .ne) := by
  intro pins s σ H x y v u Q I rx ry h
  obtain ⟨F, dx, dy, d, sf, bx, by_, e, n⟩ := h
  simp only [cmpop] at e
  split at e
  · rename_i q
    cases e
    obtain ⟨q1, q2⟩ := Bool.and_eq_true_iff.mp q
    obtain ⟨as, r1⟩ := Dp.reads I _ x v (hK ▸ bx.dp sf q1) rx
    obtain ⟨bs, r2⟩ := Dp.reads I _ y u (hK ▸ by_.dp sf q2) ry
    have z := dep (e := dy) q1
    exact SeqAt.ne_plain r1 r2 (plain_py _ (plN_M q1)) (plain_py _ (plN_M q2)) (by omega) ⟨.bl _, H, I, rfl, by rw [eqv_py _ _ (plN_M q1) (plN_M q2)]; exact n⟩
  · cases e
/-- is None, is True: by the values -/
theorem same_sound {F H : Hp} {dx dy : D} {b : Bool} {x y : V} {v u : Value} (sf : Same F H) (e : isSame dx dy = some b) (bx : RB c F H dx x) (by_ : RB c F H dy y) (rx : RelV x v) (ry : RelV y u) : plainIs v u = true ∧ (v == u) = b := by
  have rel : (∃ a, v = .ref a) ∨ (∃ i t, v = .int i t ∧ dx = .int i) ∨ (∃ i t, v = .str i t ∧ dx = .str i) ∨ (v = .none ∧ dx = .non) ∨ (∃ k, v = .bool k ∧ dx = .bl k) ∨ isSame dx dy = none := by
    cases dx with
    | non => cases bx.non; cases rx; exact .inr (.inr (.inr (.inl ⟨rfl, rfl⟩)))
    | bl k => cases bx.bl; cases rx; exact .inr (.inr (.inr (.inr (.inl ⟨k, rfl, rfl⟩))))
    | int i => cases bx.int; obtain ⟨t, rfl⟩ := rx; exact .inr (.inl ⟨i, t, rfl, rfl⟩)
    | str i => cases bx.str; obtain ⟨t, rfl⟩ := rx; exact .inr (.inr (.inl ⟨i, t, rfl, rfl⟩))
    | lst l => obtain ⟨a, vs, rfl, _⟩ := bx.lst sf; cases rx; exact .inl ⟨a, rfl⟩
    | tup l => obtain ⟨a, vs, rfl, _⟩ := bx.tup sf; cases rx; exact .inl ⟨a, rfl⟩
    | dct l => obtain ⟨a, vs, rfl, _⟩ := bx.dct sf; cases rx; exact .inl ⟨a, rfl⟩
    | _ => right; right; right; right; right; cases dy <;> rfl
  have uu : (u = .none ∧ dy = .non) ∨ ∃ k, u = .bool k ∧ dy = .bl k := by
    cases dy <;> try (simp [isSame] at e; done)
    · cases by_.non; cases ry; exact .inl ⟨rfl, rfl⟩
    · rename_i k; cases by_.bl; cases ry; exact .inr ⟨k, rfl, rfl⟩
  rcases uu with ⟨rfl, rfl⟩ | ⟨k, rfl, rfl⟩
  · rcases rel with ⟨a, rfl⟩ | ⟨i, t, rfl, rfl⟩ | ⟨i, t, rfl, rfl⟩ | ⟨rfl, rfl⟩ | ⟨k, rfl, rfl⟩ | z
    · refine ⟨rfl, ?_⟩
      cases dx <;> simp [isSame] at e <;> first
        | (subst e; rfl)
        | (cases bx.non; cases rx)
    · simp [isSame] at e; subst e; exact ⟨rfl, rfl⟩
    · simp [isSame] at e; subst e; exact ⟨rfl, rfl⟩
    · simp [isSame] at e; subst e; exact ⟨rfl, rfl⟩
    · simp [isSame] at e; subst e; exact ⟨rfl, rfl⟩
    · rw [z] at e; cases e
  · rcases rel with ⟨a, rfl⟩ | ⟨i, t, rfl, rfl⟩ | ⟨i, t, rfl, rfl⟩ | ⟨rfl, rfl⟩ | ⟨k', rfl, rfl⟩ | z
    · refine ⟨rfl, ?_⟩
      cases dx <;> simp [isSame] at e <;> first
        | (subst e; rfl)
        | (cases bx.bl; cases rx)
    · simp [isSame] at e; subst e; exact ⟨rfl, rfl⟩
    · simp [isSame] at e; subst e; exact ⟨rfl, rfl⟩
    · simp [isSame] at e; subst e; exact ⟨rfl, rfl⟩
    · simp [isSame] at e; subst e
      refine ⟨rfl, ?_⟩
      cases k <;> cases k' <;> rfl
    · rw [z] at e; cases e
theorem op_c_is : OpR X (compareOp .Is) (rCop c .is) := by
  intro pins s σ H x y v u Q I rx ry h
  obtain ⟨F, dx, dy, d, sf, bx, by_, e, n⟩ := h
  obtain ⟨z1, z2⟩ := same_sound sf e bx by_ rx ry
  exact wpAny_is_plain z1 ⟨.bl d, H, I, by rw [z2]; rfl, n⟩
theorem op_c_isnot : OpR X (compareOp .IsNot) (rCop c .isnot) := by
  intro pins s σ H x y v u Q I rx ry h
  obtain ⟨F, dx, dy, d, sf, bx, by_, e, n⟩ := h
  simp only [cmpop] at e
  cases q : isSame dx dy with
  | none => rw [q] at e; cases e
  | some b =>
    rw [q] at e
    have e : (!b) = d := by simpa using e
    subst e
    obtain ⟨z1, z2⟩ := same_sound sf q bx by_ rx ry
    exact wpAny_isNot_plain z1 ⟨.bl _, H, I, by rw [z2]; rfl, n⟩

theorem in_lst (hK : X.K = c.K) {F H : Hp} {l : List D} {dx : D} {x y : V} {v u : Value} {pins : List (Addr × Obj)} {σ : L2.St} {s : Shared} {Q : VK} {b : Bool} (hu : X.A.units + 64 < cLine) (I : Inv X pins σ H s) (sf : Same F H)
    (bx : RB c F H dx x) (by_ : RB c F H (.lst l) y) (rx : RelV x v) (ry : RelV y u) (p1 : plain dx = true) (p2 : plain (.lst l) = true) :
    (Q (.bl (l.any fun z => eqv z dx)) H → wpAny (model X.prog X.w) X.A (compareOp .In v u) (EP X pins σ Q) X.xe s) ∧
    (Q (.bl (!l.any fun z => eqv z dx)) H → wpAny (model X.prog X.w) X.A (compareOp .NotIn v u) (EP X pins σ Q) X.xe s) := by
  obtain ⟨as, r1⟩ := Dp.reads I _ x v (hK ▸ bx.dp sf p1) rx
  obtain ⟨bs, r2⟩ := Dp.reads I _ y u (hK ▸ by_.dp sf p2) ry
  obtain ⟨q1, q2⟩ := plain_lst p2
  have z : min (PyData.depthAll (toPyL l)) (toPy dx).depth ≤ 12 := Nat.le_trans (Nat.min_le_left _ _) q2
  refine ⟨fun n => SeqAt.in_list_data r2 r1 (plain_pyL _ q1) (plain_py _ (plN_M p1)) (by omega) ⟨.bl _, H, I, rfl, ?_⟩, fun n => SeqAt.notIn_list_data r2 r1 (plain_pyL _ q1) (plain_py _ (plN_M p1)) (by omega) ⟨.bl _, H, I, rfl, ?_⟩⟩
  all_goals rw [any_py (plN_M p1) q1]; exact n
theorem in_tup (hK : X.K = c.K) {F H : Hp} {l : List D} {dx : D} {x y : V} {v u : Value} {pins : List (Addr × Obj)} {σ : L2.St} {s : Shared} {Q : VK} {b : Bool} (hu : X.A.units + 64 < cLine) (I : Inv X pins σ H s) (sf : Same F H)
    (bx : RB c F H dx x) (by_ : RB c F H (.tup l) y) (rx : RelV x v) (ry : RelV y u) (p1 : plain dx = true) (p2 : plain (.tup l) = true) :
    (Q (.bl (l.any fun z => eqv z dx)) H → wpAny (model X.prog X.w) X.A (compareOp .In v u) (EP X pins σ Q) X.xe s) ∧
    (Q (.bl (!l.any fun z => eqv z dx)) H → wpAny (model X.prog X.w) X.A (compareOp .NotIn v u) (EP X pins σ Q) X.xe s) := by
  obtain ⟨as, r1⟩ := Dp.reads I _ x v (hK ▸ bx.dp sf p1) rx
  obtain ⟨bs, r2⟩ := Dp.reads I _ y u (hK ▸ by_.dp sf p2) ry
  obtain ⟨q1, q2⟩ := plain_tup p2
  have z : min (PyData.depthAll (toPyL l)) (toPy dx).depth ≤ 12 := Nat.le_trans (Nat.min_le_left _ _) q2
  refine ⟨fun n => SeqAt.in_tuple_data r2 r1 (plain_pyL _ q1) (plain_py _ (plN_M p1)) (by omega) ⟨.bl _, H, I, rfl, ?_⟩, fun n => SeqAt.notIn_tuple_data r2 r1 (plain_pyL _ q1) (plain_py _ (plN_M p1)) (by omega) ⟨.bl _, H, I, rfl, ?_⟩⟩
  all_goals rw [any_py (plN_M p1) q1]; exact n
theorem op_c_in (hK : X.K = c.K) (hu : X.A.units + 64 < cLine) : OpR X (compareOp .In) (rCop c .isin) := by
  intro pins s σ H x y v u Q I rx ry h
  obtain ⟨F, dx, dy, d, sf, bx, by_, e, n⟩ := h
  simp only [cmpop, inOf] at e
  cases dy <;> simp only at e <;> try (cases e; done)
  · cases dx <;> simp only at e <;> try (cases e; done)
    split at e
    · rename_i b a q
      cases e
      cases bx.str
      cases by_.str
      obtain ⟨k, hk⟩ : ∃ k, a = ⟨#[k]⟩ := by
        obtain ⟨arr⟩ := a
        obtain ⟨l⟩ := arr
        cases l with
        | nil => simp [Str.length] at q
        | cons k r =>
          cases r with
          | nil => exact ⟨k, rfl⟩
          | cons _ _ => simp [Str.length] at q
      subst hk
      refine op_in_sign pins s σ H _ _ v u Q I rx ry ⟨k, b, rfl, rfl, ?_⟩
      simpa using n
    · cases e
  · split at e
    · rename_i q
      cases e
      obtain ⟨q1, q2⟩ := Bool.and_eq_true_iff.mp q
      exact (in_lst (b := true) hK hu I sf bx by_ rx ry q1 q2).1 n
    · cases e
  · split at e
    · rename_i q
      cases e
      obtain ⟨q1, q2⟩ := Bool.and_eq_true_iff.mp q
      exact (in_tup (b := true) hK hu I sf bx by_ rx ry q1 q2).1 n
    · cases e
theorem op_c_notin (hK : X.K = c.K) (hu : X.A.units + 64 < cLine) : OpR X (compareOp .NotIn) (rCop c .notin) := by
  intro pins s σ H x y v u Q I rx ry h
  obtain ⟨F, dx, dy, d, sf, bx, by_, e, n⟩ := h
  simp only [cmpop, inOf] at e
  cases dy <;> simp only at e <;> try (cases e; done)
  · cases dx <;> simp only at e <;> try (cases e; done)
    split at e
    · rename_i b a q
      cases e
      cases bx.str
      cases by_.str
      obtain ⟨k, hk⟩ : ∃ k, a = ⟨#[k]⟩ := by
        obtain ⟨arr⟩ := a
        obtain ⟨l⟩ := arr
        cases l with
        | nil => simp [Str.length] at q
        | cons k r =>
          cases r with
          | nil => exact ⟨k, rfl⟩
          | cons _ _ => simp [Str.length] at q
      subst hk
      refine op_notIn_sign pins s σ H _ _ v u Q I rx ry ⟨k, b, rfl, rfl, ?_⟩
      simpa using n
    · cases e
  · split at e
    · rename_i q
      cases e
      obtain ⟨q1, q2⟩ := Bool.and_eq_true_iff.mp q
      exact (in_lst (b := true) hK hu I sf bx by_ rx ry q1 q2).2 n
    · cases e
  · split at e
    · rename_i q
      cases e
      obtain ⟨q1, q2⟩ := Bool.and_eq_true_iff.mp q
      exact (in_tup (b := true) hK hu I sf bx by_ rx ry q1 q2).2 n
    · cases e
theorem op_cop (hK : X.K = c.K) (hu : X.A.units + 64 < cLine) : ∀ op, OpR X (compareOp (pyC op)) (rCop c op)
  | .lt => op_c_lt
  | .le => op_c_le
  | .gt => op_c_gt
  | .ge => op_c_ge
  | .eq => op_c_eq hK hu
  | .ne => op_c_ne hK hu
  | .is => op_c_is
  | .isnot => op_c_isnot
  | .isin => op_c_in hK hu
  | .notin => op_c_notin hK hu
end
end MP

namespace MP
open PySem L2 PySem.Spec PyProof.Rows

section
variable {c : Cn} {X : Cx}
theorem FzL.atI {K : PySem.W.Frag} {ca : Nat → Addr} {F : Hp} {l : List D} {vs : List V} {i : Int} {d : D} (h : FzL K ca F l vs) (e : L2.atI l i = some d) : ∃ v, L2.atI vs i = some v ∧ Fz K ca F d v := by
  unfold L2.atI at e ⊢
  rw [h.length]
  cases q : ixN l.length i with
  | none => rw [q] at e; cases e
  | some j =>
    rw [q] at e
    exact h.get e
def rIdx (c : Cn) : R2 := fun x y H Q => ∃ F dx dy d, Same F H ∧ RB c F H dx x ∧ RB c F H dy y ∧ idxOf dx dy = some d ∧ ∀ v, Fz c.K c.ca F d v → Q v H
theorem ix_any (hK : X.K = c.K) : IxR X (rIdx c) := by
  intro value slice pins s σ H x y v u Q I rx ry h hs
  obtain ⟨F, dx, dy, d, sf, bx, by_, e, n⟩ := h
  cases dx <;> simp only [idxOf] at e <;> try (cases e; done)
  · cases dy <;> simp only at e <;> try (cases e; done)
    split at e
    · rename_i i q
      cases bx.str
      cases by_.int
      rename_i z
      cases q2 : atI z.cps.toList i with
      | none => rw [q2] at e; cases e
      | some k =>
        rw [q2] at e
        simp only [Option.map_some, Option.some.injEq] at e
        subst e
        exact ix_str value slice pins s σ H _ _ v u Q I rx ry ⟨z, i, k, rfl, rfl, q, q2, n _ (by unfold Fz; rfl)⟩ hs
    · cases e
  · cases dy <;> simp only at e <;> try (cases e; done)
    cases by_.int
    obtain ⟨a, vs, rfl, h1, f1⟩ := bx.lst sf
    obtain ⟨w, q1, q2⟩ := f1.atI e
    exact ix_list value slice pins s σ H _ _ v u Q I rx ry ⟨a, vs, _, w, rfl, rfl, SqL.of h1, q1, n w q2⟩ hs
  · cases dy <;> simp only at e <;> try (cases e; done)
    cases by_.int
    obtain ⟨a, vs, rfl, h1, f1⟩ := bx.tup sf
    obtain ⟨w, q1, q2⟩ := f1.atI e
    rw [← hK] at h1
    exact ix_tup value slice pins s σ H _ _ v u Q I rx ry ⟨a, vs, _, w, rfl, rfl, h1, q1, n w q2⟩ hs
  · cases dy <;> simp only at e <;> try (cases e; done)
    rename_i l i
    cases by_.int
    obtain ⟨a, rfl, h1⟩ := bx.scr sf
    rw [← hK] at h1
    cases q2 : atI l i with
    | none => rw [q2] at e; cases e
    | some k =>
      rw [q2] at e
      simp only [Option.map_some, Option.some.injEq] at e
      subst e
      have q3 : atI (l.map V.int) i = some (.int k) := by
        unfold L2.atI at q2 ⊢
        rw [List.length_map]
        cases q4 : ixN l.length i with
        | none => rw [q4] at q2; cases q2
        | some j =>
          rw [q4] at q2
          simp only [Option.bind_some] at q2 ⊢
          rw [List.getElem?_map, q2]
          rfl
      exact ix_list value slice pins s σ H _ _ v u Q I rx ry ⟨a, _, i, .int k, rfl, rfl, h1, q3, n _ (by unfold Fz; rfl)⟩ hs

theorem FzL.cut {K : PySem.W.Frag} {ca : Nat → Addr} {F : Hp} {l : List D} {vs : List V} (h : FzL K ca F l vs) (lo hi : Option Int) : FzL K ca F (MP.cut l lo hi) (cutV vs lo hi) := by
  unfold MP.cut cutV
  rw [h.length]
  exact (h.drop _).take _
def rCut (c : Cn) : V → Option Int → Option Int → Hp → VK → Prop := fun x lo hi H Q => ∃ F dx d, Same F H ∧ RB c F H dx x ∧ cutOf dx lo hi = some d ∧ NewV c F H d Q
theorem sl_any (hK : X.K = c.K) : SlR X (rCut c) := by
  intro pins s σ H x v vl vu lo hi sl Q I rx hs pl pu h
  obtain ⟨F, dx, d, sf, bx, e, n⟩ := h
  cases dx <;> simp only [cutOf] at e <;> try (cases e; done)
  · split at e
    · rename_i z q
      cases e
      cases bx.str
      refine sl_str pins s σ H _ v vl vu lo hi sl Q I rx hs pl pu ⟨z, rfl, q, ?_⟩
      have n := n.str
      unfold MP.cut at n
      unfold cutS Str.length
      simpa using n
    · cases e
  · cases e
    obtain ⟨a, vs, rfl, h1, f1⟩ := bx.lst sf
    exact sl_list pins s σ H _ v vl vu lo hi sl Q I rx hs pl pu ⟨a, vs, rfl, SqL.of h1, n.lst (f1.cut lo hi)⟩
  · cases e
    rename_i l
    obtain ⟨a, vs, rfl, h1, f1⟩ := bx.tup sf
    have bx := bx.fz rfl
    rw [← hK] at h1
    refine sl_tupA pins s σ H _ v vl vu lo hi sl Q I rx hs pl pu ⟨a, vs, rfl, h1, fun w => ?_, fun _ => n.tup (f1.cut lo hi)⟩
    have e1 : MP.cut l lo hi = l := by
      unfold MP.cut
      rw [f1.length] at w
      rw [w.1, w.2]
      simp
    rw [e1] at n
    exact n.old bx

theorem tru_any (hK : X.K = c.K) {F H : Hp} {d : D} {x : V} {k : Bool} (sf : Same F H) (b : RB c F H d x) (e : truth d = some k) : TruV X.K x H k := by
  cases d <;> simp only [truth] at e <;> try (cases e; done)
  · cases e; cases b.non; rfl
  · cases e; cases b.bl; rfl
  · cases e; cases b.int; rfl
  · split at e
    · rename_i q
      cases e
      cases b.str
      refine ⟨q, ?_⟩
      rename_i z
      cases hz : z.length with
      | zero => rfl
      | succ n => rfl
    · cases e
  · cases e
    obtain ⟨a, vs, rfl, h1, f1⟩ := b.lst sf
    exact .inl ⟨vs, SqL.of h1, by have := f1.length; rename_i l; cases vs <;> cases l <;> simp_all⟩
  · cases e
    obtain ⟨a, vs, rfl, h1, f1⟩ := b.tup sf
    rw [← hK] at h1
    exact .inr (.inl ⟨vs, h1, by have := f1.length; rename_i l; cases vs <;> cases l <;> simp_all⟩)
  · cases e
    obtain ⟨a, ks, rfl, h1, f1⟩ := b.dct sf
    refine .inr (.inr ⟨ks, h1, ?_⟩)
    rename_i l
    cases l with
    | nil => unfold FzK at f1; subst f1; rfl
    | cons p r => unfold FzK at f1; obtain ⟨q, qs, rfl, _⟩ := f1; rfl

theorem leastI_mem : ∀ (r : List Int) (m : Int), leastI m r ∈ m :: r
  | [], m => by simp [leastI]
  | x :: r, m => by
    unfold leastI
    by_cases q : x < m
    · rw [if_pos q]; exact List.mem_cons_of_mem _ (leastI_mem r x)
    · rw [if_neg q]
      rcases List.mem_cons.mp (leastI_mem r m) with h | h
      · rw [h]; exact List.mem_cons_self
      · exact List.mem_cons_of_mem _ (List.mem_cons_of_mem _ h)
theorem leastI_le : ∀ (r : List Int) (m y : Int), y ∈ m :: r → leastI m r ≤ y
  | [], m, y, h => by simp [leastI] at h ⊢; omega
  | x :: r, m, y, h => by
    unfold leastI
    by_cases q : x < m
    · rw [if_pos q]
      have h0 := leastI_le r x x List.mem_cons_self
      rcases List.mem_cons.mp h with rfl | h
      · omega
      · exact leastI_le r x y h
    · rw [if_neg q]
      have h0 := leastI_le r m m List.mem_cons_self
      rcases List.mem_cons.mp h with rfl | h
      · exact h0
      · rcases List.mem_cons.mp h with rfl | h
        · omega
        · exact leastI_le r m y (List.mem_cons_of_mem _ h)
theorem mostI_mem : ∀ (r : List Int) (m : Int), mostI m r ∈ m :: r
  | [], m => by simp [mostI]
  | x :: r, m => by
    unfold mostI
    by_cases q : m < x
    · rw [if_pos q]; exact List.mem_cons_of_mem _ (mostI_mem r x)
    · rw [if_neg q]
      rcases List.mem_cons.mp (mostI_mem r m) with h | h
      · rw [h]; exact List.mem_cons_self
      · exact List.mem_cons_of_mem _ (List.mem_cons_of_mem _ h)
theorem mostI_ge : ∀ (r : List Int) (m y : Int), y ∈ m :: r → y ≤ mostI m r
  | [], m, y, h => by simp [mostI] at h ⊢; omega
  | x :: r, m, y, h => by
    unfold mostI
    by_cases q : m < x
    · rw [if_pos q]
      have h0 := mostI_ge r x x List.mem_cons_self
      rcases List.mem_cons.mp h with rfl | h
      · omega
      · exact mostI_ge r x y h
    · rw [if_neg q]
      have h0 := mostI_ge r m m List.mem_cons_self
      rcases List.mem_cons.mp h with rfl | h
      · exact h0
      · rcases List.mem_cons.mp h with rfl | h
        · omega
        · exact mostI_ge r m y (List.mem_cons_of_mem _ h)

/-- the called thing -/
def biV : BI → Value
  | .len => .builtin "len" | .int => .type "int" | .abs => .builtin "abs" | .min1 => .builtin "min" | .max1 => .builtin "max" | .min2 => .builtin "min" | .max2 => .builtin "max"
  | .sum => .builtin "sum" | .all => .builtin "all" | .any => .builtin "any" | .tuple => .type "tuple" | .list => .type "list" | .isi => .builtin "isinstance" | .str => .type "str"
  | .gcd => .builtin "math.gcd" | .isqrt => .builtin "math.isqrt"
  | _ => .none
def rBi (c : Cn) (b : BI) : List V → Hp → VK → Prop := fun xs H Q => ∃ F ds d, Same F H ∧ Paired (RB c F H) ds xs ∧ bfn b ds = some d ∧ NewV c F H d Q
theorem pair1 {P : D → V → Prop} {d : D} {xs : List V} (h : Paired P [d] xs) : ∃ x, xs = [x] ∧ P d x := by
  cases h with
  | cons h t => cases t; exact ⟨_, rfl, h⟩
theorem pair2 {P : D → V → Prop} {d e : D} {xs : List V} (h : Paired P [d, e] xs) : ∃ x y, xs = [x, y] ∧ P d x ∧ P e y := by
  cases h with
  | cons h t =>
    cases t with
    | cons h2 t => cases t; exact ⟨_, _, rfl, h, h2⟩
theorem len_any (hK : X.K = c.K) {F H : Hp} {d : D} {x : V} {n : Nat} (sf : Same F H) (b : RB c F H d x) (h : lenOf d = some n) : (∃ a ks, x = .ref a ∧ H a = some (.dK ks) ∧ n = ks.length) ∨ LenV X.K x H n := by
  cases d <;> simp only [lenOf] at h <;> try (cases h; done)
  · split at h
    · rename_i q
      cases h
      cases b.str
      exact .inr ⟨q, rfl⟩
    · cases h
  · cases h
    obtain ⟨a, vs, rfl, h1, f1⟩ := b.lst sf
    exact .inr (.inl ⟨vs, SqL.of h1, f1.length.symm⟩)
  · cases h
    obtain ⟨a, vs, rfl, h1, f1⟩ := b.tup sf
    rw [← hK] at h1
    exact .inr (.inr ⟨vs, h1, f1.length.symm⟩)
  · cases h
    obtain ⟨a, ks, rfl, h1, f1⟩ := b.dct sf
    refine .inl ⟨a, ks, rfl, h1, ?_⟩
    clear h1 b
    rename_i l
    induction l generalizing ks with
    | nil => unfold FzK at f1; subst f1; rfl
    | cons p r ih =>
      unfold FzK at f1
      obtain ⟨q, qs, rfl, _, _, h⟩ := f1
      have := ih qs h
      simp [this]
  · cases h
    obtain ⟨a, rfl, h1⟩ := b.scr sf
    rw [← hK] at h1
    exact .inr (.inl ⟨_, h1, by simp⟩)
theorem isi_any (hK : X.K = c.K) {F H : Hp} {d : D} {x : V} {n : String} {b : Bool} (sf : Same F H) (bx : RB c F H d x) (h : isiTy d n = some b) : ∃ t, TyX X.K H x t ∧ PySem.W.kitOne X.K t (.type n) = some b := by
  have ty : (∃ m, D.ty? d = some m ∧ TyX X.K H x (.type m)) ∨ isiTy d n = none := by
    cases d with
    | non => cases bx.non; exact .inl ⟨_, rfl, .base .non⟩
    | bl k => cases bx.bl; exact .inl ⟨_, rfl, .base (.bl k)⟩
    | int k => cases bx.int; exact .inl ⟨_, rfl, .base (.int k)⟩
    | str k => cases bx.str; exact .inl ⟨_, rfl, .base (.str k)⟩
    | lst l => obtain ⟨a, vs, rfl, h1, _⟩ := bx.lst sf; exact .inl ⟨_, rfl, .base (.lst h1)⟩
    | tup l =>
      obtain ⟨a, vs, rfl, h1, _⟩ := bx.tup sf
      rw [← hK] at h1
      rcases h1 with (h1 | ⟨o, h1⟩) | ⟨o, its, m, h1, h2, _⟩
      · exact .inl ⟨_, rfl, .base (.tup h1)⟩
      · exact .inl ⟨_, rfl, .fTuple h1⟩
      · exact .inl ⟨_, rfl, .kTuple h1 h2⟩
    | dct l => obtain ⟨a, vs, rfl, h1, _⟩ := bx.dct sf; exact .inl ⟨_, rfl, .base (.dK h1)⟩
    | _ => right; unfold isiTy; repeat' split <;> first | rfl | skip
  rcases ty with ⟨m, e, ty⟩ | z
  · refine ⟨_, ty, kit_ty ?_⟩
    unfold isiTy at h
    cases d <;> simp only [D.ty?] at e <;> try (cases e; done)
    all_goals
      cases e
      split at h
      · rename_i q; have q := eq_of_beq q; subst q; cases h; decide +kernel
      split at h
      · rename_i q; have q := eq_of_beq q; subst q; cases h; decide +kernel
      split at h
      · rename_i q; have q := eq_of_beq q; subst q; cases h; decide +kernel
      split at h
      · rename_i q; have q := eq_of_beq q; subst q; cases h; decide +kernel
      split at h
      · rename_i q; have q := eq_of_beq q; subst q; cases h; decide +kernel
      split at h
      · rename_i q; have q := eq_of_beq q; subst q; cases h; decide +kernel
      cases h
  · rw [z] at h; cases h

def rIs (n : List V → Hp → VK → Prop) : Prop := True
theorem bi_len (hK : X.K = c.K) : CallR X (.builtin "len") (rBi c .len) := by
  intro pins s σ H xs us Q I r h
  obtain ⟨F, ds, d, sf, p, e, n⟩ := h
  match ds, p, e with
  | [dx], p, e =>
    obtain ⟨x, rfl, bx⟩ := pair1 p
    simp only [bfn] at e
    cases q : lenOf dx with
    | none => rw [q] at e; cases e
    | some k =>
      rw [q] at e
      cases e
      rcases len_any hK sf bx q with ⟨a, ks, rfl, h1, rfl⟩ | z
      · exact call_lenD pins s σ H _ us Q I r ⟨a, ks, rfl, h1, n.int⟩
      · exact call_len pins s σ H _ us Q I r ⟨x, k, rfl, z, n.int⟩
  | [], _, e => simp [bfn] at e
  | _ :: _ :: _, _, e => simp [bfn] at e
theorem bi_int : CallR X (.type "int") (rBi c .int) := by
  intro pins s σ H xs us Q I r h
  obtain ⟨F, ds, d, sf, p, e, n⟩ := h
  match ds, p, e with
  | [.int i], p, e =>
    obtain ⟨x, rfl, bx⟩ := pair1 p
    cases e; cases bx.int
    exact call_int1 pins s σ H _ us Q I r (.inl ⟨_, rfl, n.int⟩)
  | [.bl i], p, e =>
    obtain ⟨x, rfl, bx⟩ := pair1 p
    cases e; cases bx.bl
    exact call_int1 pins s σ H _ us Q I r (.inr ⟨_, rfl, n.int⟩)
  | [], _, e => simp [bfn] at e
  | [.non], _, e => simp [bfn] at e
  | [.str _], _, e => simp [bfn] at e
  | [.lst _], _, e => simp [bfn] at e
  | [.tup _], _, e => simp [bfn] at e
  | [.dct _], _, e => simp [bfn] at e
  | [.scr _], _, e => simp [bfn] at e
  | [.ty _], _, e => simp [bfn] at e
  | [.cls _], _, e => simp [bfn] at e
  | [.err _ _], _, e => simp [bfn] at e
  | _ :: _ :: _, _, e => simp [bfn] at e
theorem bi_abs : CallR X (.builtin "abs") (rBi c .abs) := by
  intro pins s σ H xs us Q I r h
  obtain ⟨F, ds, d, sf, p, e, n⟩ := h
  unfold bfn at e
  split at e <;> (try (cases ‹BI.abs = _›)) <;> (try (cases e; done))
  rename_i i
  cases e
  obtain ⟨x, rfl, bx⟩ := pair1 p
  cases bx.int
  exact call_abs pins s σ H _ us Q I r ⟨_, rfl, n.int⟩
theorem bi_min2 (hc : X.calm = true) : CallR X (.builtin "min") (rBi c .min2) := by
  intro pins s σ H xs us Q I r h
  obtain ⟨F, ds, d, sf, p, e, n⟩ := h
  unfold bfn at e
  split at e <;> (try (cases ‹BI.min2 = _›)) <;> (try (cases e; done))
  cases e
  obtain ⟨x, y, rfl, bx, by_⟩ := pair2 p
  cases bx.int; cases by_.int
  exact call_min2 hc pins s σ H _ us Q I r ⟨_, _, rfl, n.int⟩
theorem bi_max2 (hc : X.calm = true) : CallR X (.builtin "max") (rBi c .max2) := by
  intro pins s σ H xs us Q I r h
  obtain ⟨F, ds, d, sf, p, e, n⟩ := h
  unfold bfn at e
  split at e <;> (try (cases ‹BI.max2 = _›)) <;> (try (cases e; done))
  cases e
  obtain ⟨x, y, rfl, bx, by_⟩ := pair2 p
  cases bx.int; cases by_.int
  exact call_max2 hc pins s σ H _ us Q I r ⟨_, _, rfl, n.int⟩
theorem bi_min1 (hc : X.calm = true) : CallR X (.builtin "min") (rBi c .min1) := by
  intro pins s σ H xs us Q I r h
  obtain ⟨F, ds, d, sf, p, e, n⟩ := h
  unfold bfn at e
  split at e <;> (try (cases ‹BI.min1 = _›)) <;> (try (cases e; done))
  split at e <;> try (cases e; done)
  rename_i q
  cases e
  obtain ⟨x, rfl, bx⟩ := pair1 p
  obtain ⟨a, vs, rfl, h1, f1⟩ := bx.lst sf
  have z := FzL.ints q f1
  subst z
  refine cr_min hc pins s σ H _ us Q I r ⟨a, _, rfl, SqL.of h1, by simp, fun m hm hl => ?_⟩
  rename_i m0 r0
  have e1 : leastI m0 r0 = m := Int.le_antisymm (leastI_le r0 m0 m hm) (hl _ (leastI_mem r0 m0))
  rw [← e1]
  exact n.int
theorem bi_max1 (hc : X.calm = true) : CallR X (.builtin "max") (rBi c .max1) := by
  intro pins s σ H xs us Q I r h
  obtain ⟨F, ds, d, sf, p, e, n⟩ := h
  unfold bfn at e
  split at e <;> (try (cases ‹BI.max1 = _›)) <;> (try (cases e; done))
  split at e <;> try (cases e; done)
  rename_i q
  cases e
  obtain ⟨x, rfl, bx⟩ := pair1 p
  obtain ⟨a, vs, rfl, h1, f1⟩ := bx.lst sf
  have z := FzL.ints q f1
  subst z
  refine cr_max hc pins s σ H _ us Q I r ⟨a, _, rfl, SqL.of h1, by simp, fun m hm hl => ?_⟩
  rename_i m0 r0
  have e1 : mostI m0 r0 = m := Int.le_antisymm (hl _ (mostI_mem r0 m0)) (mostI_ge r0 m0 m hm)
  rw [← e1]
  exact n.int
theorem bi_sum (hc : X.calm = true) : CallR X (.builtin "sum") (rBi c .sum) := by
  intro pins s σ H xs us Q I r h
  obtain ⟨F, ds, d, sf, p, e, n⟩ := h
  unfold bfn at e
  split at e <;> (try (cases ‹BI.sum = _›)) <;> (try (cases e; done))
  rename_i l
  cases q : D.ints l with
  | none => rw [q] at e; cases e
  | some ns =>
    rw [q] at e
    cases e
    obtain ⟨x, rfl, bx⟩ := pair1 p
    obtain ⟨a, vs, rfl, h1, f1⟩ := bx.lst sf
    have z := FzL.ints q f1
    subst z
    exact cr_sum hc pins s σ H _ us Q I r ⟨a, _, rfl, SqL.of h1, n.int⟩
theorem bi_all (hc : X.calm = true) : CallR X (.builtin "all") (rBi c .all) := by
  intro pins s σ H xs us Q I r h
  obtain ⟨F, ds, d, sf, p, e, n⟩ := h
  unfold bfn at e
  split at e <;> (try (cases ‹BI.all = _›)) <;> (try (cases e; done))
  rename_i l
  cases q : D.bls l with
  | none => rw [q] at e; cases e
  | some ns =>
    rw [q] at e
    cases e
    obtain ⟨x, rfl, bx⟩ := pair1 p
    obtain ⟨a, vs, rfl, h1, f1⟩ := bx.lst sf
    have z := FzL.bls q f1
    subst z
    exact cr_all hc pins s σ H _ us Q I r ⟨a, _, rfl, SqL.of h1, n.bl⟩
theorem bi_any (hc : X.calm = true) : CallR X (.builtin "any") (rBi c .any) := by
  intro pins s σ H xs us Q I r h
  obtain ⟨F, ds, d, sf, p, e, n⟩ := h
  unfold bfn at e
  split at e <;> (try (cases ‹BI.any = _›)) <;> (try (cases e; done))
  rename_i l
  cases q : D.bls l with
  | none => rw [q] at e; cases e
  | some ns =>
    rw [q] at e
    cases e
    obtain ⟨x, rfl, bx⟩ := pair1 p
    obtain ⟨a, vs, rfl, h1, f1⟩ := bx.lst sf
    have z := FzL.bls q f1
    subst z
    exact cr_any hc pins s σ H _ us Q I r ⟨a, _, rfl, SqL.of h1, n.bl⟩
theorem bi_tuple (hK : X.K = c.K) : CallR X (.type "tuple") (rBi c .tuple) := by
  intro pins s σ H xs us Q I r h
  obtain ⟨F, ds, d, sf, p, e, n⟩ := h
  unfold bfn at e
  split at e <;> (try (cases ‹BI.tuple = _›)) <;> (try (cases e; done))
  all_goals
    cases e
    obtain ⟨x, rfl, bx⟩ := pair1 p
  · obtain ⟨a, vs, rfl, h1, f1⟩ := bx.lst sf
    exact call_tuple_of pins s σ H _ us Q I r ⟨a, vs, rfl, .inl ⟨SqL.of h1, n.tup f1⟩⟩
  · have bz := bx.fz rfl
    obtain ⟨a, vs, rfl, h1, f1⟩ := bx.tup sf
    rw [← hK] at h1
    exact call_tuple_of pins s σ H _ us Q I r ⟨a, vs, rfl, .inr ⟨h1, n.old bz⟩⟩
theorem bi_list (hK : X.K = c.K) : CallR X (.type "list") (rBi c .list) := by
  intro pins s σ H xs us Q I r h
  obtain ⟨F, ds, d, sf, p, e, n⟩ := h
  unfold bfn at e
  split at e <;> (try (cases ‹BI.list = _›)) <;> (try (cases e; done))
  all_goals
    cases e
    obtain ⟨x, rfl, bx⟩ := pair1 p
  · obtain ⟨a, vs, rfl, h1, f1⟩ := bx.lst sf
    exact call_list_of pins s σ H _ us Q I r ⟨a, vs, rfl, .inl (SqL.of h1), n.lst f1⟩
  · obtain ⟨a, vs, rfl, h1, f1⟩ := bx.tup sf
    rw [← hK] at h1
    exact call_list_of pins s σ H _ us Q I r ⟨a, vs, rfl, .inr h1, n.lst f1⟩
theorem bi_str : CallR X (.type "str") (rBi c .str) := by
  intro pins s σ H xs us Q I r h
  obtain ⟨F, ds, d, sf, p, e, n⟩ := h
  unfold bfn at e
  split at e <;> (try (cases ‹BI.str = _›)) <;> (try (cases e; done))
  split at e
  · rename_i q
    cases e
    obtain ⟨x, rfl, bx⟩ := pair1 p
    cases bx.int
    exact call_str_int pins s σ H _ us Q I r ⟨_, rfl, q, n.str⟩
  · cases e
/-- isinstance of data -/
def rIsiD (c : Cn) : List V → Hp → VK → Prop := fun xs H Q => ∃ F dx x n b, Same F H ∧ RB c F H dx x ∧ xs = [x, .ty n] ∧ isiTy dx n = some b ∧ Q (.bl b) H
theorem bi_isi (hK : X.K = c.K) : CallR X (.builtin "isinstance") (rIsiD c) := by
  intro pins s σ H xs us Q I r h
  obtain ⟨F, dx, x, n, b, sf, bx, rfl, e, q⟩ := h
  obtain ⟨t, ty, k⟩ := isi_any hK sf bx e
  exact call_isi pins s σ H _ us Q I r ⟨x, .ty n, t, .type n, b, rfl, .ty n, ty, k, q⟩
theorem bi_gcd : CallR X (.builtin "math.gcd") (rBi c .gcd) := by
  intro pins s σ H xs us Q I r h
  obtain ⟨F, ds, d, sf, pr, e, n⟩ := h
  rcases ds with _ | ⟨d1, _ | ⟨d2, _ | _⟩⟩
  · cases e
  · cases d1 <;> cases e
  · cases d1 <;> cases d2 <;> first | (cases e; done) | skip
    rename_i i j
    obtain ⟨x1, x2, rfl, b1, b2⟩ := pair2 pr
    cases b1.int
    cases b2.int
    cases e
    exact cr_gcd pins s σ H _ us Q I r ⟨i, j, rfl, n.int⟩
  · simp [bfn] at e
theorem bi_isqrt : CallR X (.builtin "math.isqrt") (rBi c .isqrt) := by
  intro pins s σ H xs us Q I r h
  obtain ⟨F, ds, d, sf, pr, e, n⟩ := h
  rcases ds with _ | ⟨d1, _ | ⟨d2, _⟩⟩
  · cases e
  · cases d1 <;> first | (cases e; done) | skip
    rename_i i
    obtain ⟨x1, rfl, b1⟩ := pair1 pr
    cases b1.int
    have e : (if 0 ≤ i ∧ i.toNat.log2 ≤ 13000 then some (D.int ((PySem.Float64.isqrt i.toNat : Nat) : Int)) else none) = some d := e
    split at e
    · rename_i q
      cases e
      exact cr_isqrt pins s σ H _ us Q I r ⟨i, rfl, q.1, q.2, n.int⟩
    · cases e
  · simp [bfn] at e
theorem rng_ok {i j : Int} (h : rngOk i j = true) : (-(2 ^ 62) ≤ i ∧ i < 2 ^ 62) ∧ (-(2 ^ 62) ≤ j ∧ j < 2 ^ 62) ∧ (j - i).toNat ≤ 2 ^ 24 := by
  unfold rngOk at h
  simp only [Bool.and_eq_true, decide_eq_true_eq] at h
  obtain ⟨h1, h2, h3, h4, h5⟩ := h
  refine ⟨⟨by omega, by omega⟩, ⟨by omega, by omega⟩, ?_⟩
  have : lim = 2 ^ 24 := by decide
  omega
theorem ranged_fz {F : Hp} {i : Int} {n : Nat} : FzL c.K c.ca F (ranged i n) (rngL i n) := by
  unfold ranged rngL
  have key : ∀ l : List Nat, FzL c.K c.ca F (l.map fun (k : Nat) => .int (i + (k : Int))) (l.map fun (k : Nat) => V.int (i + (k : Int))) := by
    intro l
    induction l with
    | nil => exact .nil
    | cons x l ih => exact .cons (by unfold Fz; rfl) ih
  exact key _
theorem FzL.findI (sx : D) : ∀ (l : List D) (k0 k : Nat), findI sx l k0 = some k → ∃ j z, k = k0 + j ∧ l[j]? = some z ∧ eqv z sx = true ∧ ∀ m z', m < j → l[m]? = some z' → eqv z' sx = false
  | [], _, _, h => nomatch h
  | y :: l, k0, k, h => by
    unfold MP.findI at h
    by_cases q : eqv y sx = true
    · rw [if_pos q] at h
      cases h
      exact ⟨0, y, rfl, rfl, q, fun m z' hm => absurd hm (Nat.not_lt_zero _)⟩
    · rw [if_neg q] at h
      obtain ⟨j, z, h1, h2, h3, h4⟩ := FzL.findI sx l (k0 + 1) k h
      refine ⟨j + 1, z, by omega, by simpa using h2, h3, fun m z' hm hz => ?_⟩
      cases m with
      | zero =>
        simp at hz
        subst hz
        simpa using q
      | succ m => exact h4 m z' (by omega) (by simpa using hz)
theorem toPyL_map : ∀ l : List D, toPyL l = l.map toPy
  | [] => rfl
  | x :: l => by rw [toPyL, toPyL_map l, List.map_cons]
theorem plML_mem : ∀ {l : List D}, plML l = true → ∀ x ∈ l, plM x = true
  | [], _, _, h => nomatch h
  | y :: l, h, x, hx => by
    simp only [plML, Bool.and_eq_true] at h
    rcases List.mem_cons.mp hx with rfl | hx
    · exact h.1
    · exact plML_mem h.2 x hx
end
end MP

namespace MP
open PySem L2 PySem.Spec PyProof.Rows

theorem nvar (t : T) : (∃ i, t = .var i) ∨ ((∀ e r, brw t e r = r) ∧ (∀ c W call, tBw c W call t = tE c W call t) ∧ (∀ b e ra rb k, brw2 t b e ra rb k = ra.bind fun x e => (brw b e (rb e)).bind fun y e => k x y e) ∧
    ∀ (β : Type) e ra rest (k : D → β → Env → Res D), brwL t e ra rest k = ra.bind fun x e => (rest e).bind fun y e => k x y e) := by
  cases t <;> first | exact .inl ⟨_, rfl⟩ | exact .inr ⟨fun _ _ => rfl, fun _ _ _ => rfl, fun _ _ _ _ _ => rfl, fun _ _ _ _ _ => rfl⟩

section
variable {c : Cn} {W : WX} {σ : L2.St} {F H : Hp} {e : Env} {call : Nat → List D → CRes}

theorem tbind {α β γ : Type} {Z : Hp → Hp → Env → Res γ → Prop} (tp : Tp c W σ Z) {r : Res α} {f : α → Env → Res γ} (P : Hp → α → β → Prop) (t : Z F H e (r.bind f)) :
    TopP c W σ P (fun b H1 => ∃ F1 e1 a, SR c F1 H1 e1 σ ∧ Same F F1 ∧ P F1 a b ∧ Z F1 H1 e1 (f a e1)) F H e r := by
  cases r with
  | ok a e' => exact fun F' H' b s x p => ⟨F', e', a, s, x.ff, p, tp.step s x t⟩
  | exc y e' => exact tp.exc t
  | bad => exact tp.bad t
theorem tL_mono {t : T} {H : Hp} {Q Q' : List V → Hp → Prop} (h : tL c W call t σ H Q) (i : ∀ v H, Q v H → Q' v H) : tL c W call t σ H Q' := by
  obtain ⟨F, e, s, q⟩ := h
  exact ⟨F, e, s, q.imp (fun _ _ _ z => z) i⟩
theorem tE_mono {t : T} {H : Hp} {Q Q' : VK} (h : tE c W call t σ H Q) (i : ∀ v H, Q v H → Q' v H) : tE c W call t σ H Q' := by
  obtain ⟨F, e, s, q⟩ := h
  exact ⟨F, e, s, q.imp (fun _ _ _ z => z) i⟩
theorem tBw_mono {t : T} {H : Hp} {Q Q' : VK} (h : tBw c W call t σ H Q) (i : ∀ v H, Q v H → Q' v H) : tBw c W call t σ H Q' := by
  rcases nvar t with ⟨k, rfl⟩ | ⟨_, h2, _, _⟩
  · obtain ⟨v, e, q⟩ := h
    exact ⟨v, e, i _ _ q⟩
  · rw [h2] at h ⊢
    exact tE_mono h i
theorem brw_read {α : Type} {Z : Hp → Hp → Env → Res α → Prop} (tp : Tp c W σ Z) {t : T} {k : D → Env → Res α} (s : SR c F H e σ) (h : Z F H e ((brw t e (evE c.G call t e)).bind k)) :
    tBw c W call t σ H fun x H1 => ∃ F1 e1 d, SR c F1 H1 e1 σ ∧ Same F F1 ∧ RB c F1 H1 d x ∧ Z F1 H1 e1 (k d e1) := by
  rcases nvar t with ⟨i, rfl⟩ | ⟨h1, h2, _, _⟩
  · have h' : Z F H e ((lift (dOf (e.get i)) e).bind k) := h
    cases q : dOf (e.get i) with
    | none => rw [q] at h'; exact (tp.bad h').elim
    | some d =>
      rw [q] at h'
      obtain ⟨v, hv, r⟩ := s.rb q
      exact ⟨v, hv, F, e, d, s, Same.refl F, r, h'⟩
  · rw [h1] at h
    rw [h2]
    exact ⟨F, e, s, (tbind tp (PF c) h).imp (fun _ _ _ z => z) fun v H1 ⟨F1, e1, d, s1, sm, f1, z⟩ => ⟨F1, e1, d, s1, sm, .inl f1, z⟩⟩
theorem RB.ff {F' : Hp} {d : D} {v : V} {H' : Hp} (h : RB c F H d v) (m : d.isMut = false) (s : Same F F') : RB c F' H' d v := .inl ((h.fz m).mono s)
theorem brw2_read {Z : Hp → Hp → Env → Res D → Prop} (tp : Tp c W σ Z) {a b : T} {k : D → D → Env → Res D} (s : SR c F H e σ) (h : Z F H e (brw2 a b e (evE c.G call a e) (evE c.G call b) k)) :
    tBw c W call a σ H fun x H1 => tBw c W call b σ H1 fun y H2 => ∃ F2 e2 dx dy, SR c F2 H2 e2 σ ∧ RB c F2 H2 dx x ∧ RB c F2 H2 dy y ∧ Z F2 H2 e2 (k dx dy e2) := by
  rcases nvar a with ⟨i, rfl⟩ | ⟨h1, h2, h3, _⟩
  · have h' : Z F H e (if (dOf (e.get i)).isNone then Res.bad else (brw b e (evE c.G call b e)).bind fun y e => match dOf (e.get i) with
      | some x => k x y e
      | none => Res.bad) := h
    cases q : dOf (e.get i) with
    | none => rw [q, if_pos (show (none : Option D).isNone = true from rfl)] at h'; exact (tp.bad h').elim
    | some d0 =>
      rw [q, if_neg (by simp)] at h'
      obtain ⟨v, hv, _⟩ := s.rb q
      refine ⟨v, hv, tBw_mono (brw_read tp s h') fun y H2 ⟨F1, e1, d, s1, _, ry, z⟩ => ?_⟩
      cases q2 : dOf (e1.get i) with
      | none => rw [q2] at z; exact (tp.bad z).elim
      | some dx =>
        rw [q2] at z
        obtain ⟨v', hv', rx⟩ := s1.rb q2
        rw [hv] at hv'; cases hv'
        exact ⟨F1, e1, dx, d, s1, rx, ry, z⟩
  · rw [h3] at h
    rw [h2]
    refine ⟨F, e, s, (tbind tp (PF c) h).imp (fun _ _ _ z => z) fun x H1 ⟨F1, e1, dx, s1, _, fx, z⟩ => ?_⟩
    exact tBw_mono (brw_read tp s1 z) fun y H2 ⟨F2, e2, dy, s2, sm, ry, z2⟩ => ⟨F2, e2, dx, dy, s2, .inl (fx.mono sm), ry, z2⟩
theorem TopP.at {α β : Type} {P : Hp → α → β → Prop} {Q : β → Hp → Prop} {a : α} {b : β} (t : TopP c W σ P Q F H e (.ok a e)) (s : SR c F H e σ) (p : P F a b) : Q b H := t F H b s Ext.refl p
theorem pe_brw {X : Cx} {x : Expr} {t : T} (h1 : ∀ i, t = .var i → PE X x (tVar i)) (h2 : PE X x (tE c W call t)) : PE X x (tBw c W call t) := by
  rcases nvar t with ⟨i, rfl⟩ | ⟨_, h, _, _⟩
  · exact h1 i rfl
  · rw [h]; exact h2
end

section
variable {c : Cn} {W : WX} {call : Nat → List D → CRes} {X : Cx} {x y z : Expr} {a b d : T} {pos : Pos} {i : Nat}

theorem x_var (h : PE X x (tVar i)) : PE X x (tE c W call (.var i)) := pe_imp h fun σ H Q ⟨F, e, s, q⟩ => by
  rw [evE] at q
  cases hq : frzd (e.get i) with
  | none => rw [hq] at q; exact q.elim
  | some u =>
    rw [hq] at q
    obtain ⟨v, h1, h2⟩ := s.fzd hq
    exact ⟨v, h1, TopP.at q s h2⟩
theorem x_con {u : D} {v : V} (h : PE X x (tC v)) (hf : ∀ F, Fz c.K c.ca F u v) : PE X x (tE c W call (.con u)) := pe_imp h fun σ H Q ⟨F, e, s, q⟩ => by
  rw [evE] at q
  exact TopP.at q s (hf F)
theorem x_glb {v : V} (h : ∀ u, c.G.glob[i]? = some u → ∃ v, PE X x (tC v) ∧ ∀ F, Fz c.K c.ca F u v) : PE X x (tE c W call (.glb i)) := by
  cases hq : c.G.glob[i]? with
  | none =>
    refine ⟨fun pins s σ H Q I ⟨F, e, s, q⟩ => ?_⟩
    rw [evE, hq] at q
    exact q.elim
  | some u =>
    obtain ⟨v, h1, h2⟩ := h u hq
    refine pe_imp h1 fun σ H Q ⟨F, e, s, q⟩ => ?_
    rw [evE, hq] at q
    exact TopP.at q s (h2 F)
theorem x_bin {op : BOp} {o : Operator} (hK : X.K = c.K) (ho : bopIs op o = true) (ha : PE X x (tBw c W call a)) (hb : PE X y (tBw c W call b)) : PE X (.BinOp x o y pos) (tN c W call (.bin op a b)) := by
  obtain rfl := bopIs_eq ho
  refine pe_imp (pe_op (op_bin hK op) ha hb) fun σ H Q ⟨F, e, s, h⟩ => ?_
  rw [evE] at h
  refine tBw_mono (brw2_read (TopN.tp Q) s h) fun x H1 h1 => tBw_mono h1 fun y H2 ⟨F2, e2, dx, dy, s2, bx, by_, z⟩ => ?_
  cases hq : binop op dx dy with
  | none => rw [hq] at z; exact z.elim
  | some u => rw [hq] at z; exact ⟨F2, dx, dy, u, s2.le, bx, by_, hq, TopN.ok s2 z⟩
theorem noSet {o : CmpOp} (h : noStar y = true) : behindInMarks o y = false := by
  cases y <;> first | rfl | cases h
theorem cmp_read {op : COp} {σ : L2.St} {H : Hp} {Q : VK} (h : tE c W call (.cmp op a b) σ H Q) : tOp (rCop c op) (tBw c W call a) (tBw c W call b) σ H Q := by
  obtain ⟨F, e, s, h⟩ := h
  rw [evE] at h
  refine tBw_mono (brw2_read (TopP.tp _ Q) s h) fun x H1 h1 => tBw_mono h1 fun y H2 ⟨F2, e2, dx, dy, s2, bx, by_, z⟩ => ?_
  cases hq : cmpop op dx dy with
  | none => rw [hq] at z; exact z.elim
  | some u =>
    rw [hq] at z
    exact ⟨F2, dx, dy, u, s2.le, bx, by_, hq, TopP.at z s2 (by unfold Fz; rfl)⟩
theorem x_cmp {op : COp} {o : CmpOp} (hK : X.K = c.K) (hu : X.A.units + 64 < cLine) (ho : copIs op o = true) (hn : noStar y = true) (ha : PE X x (tBw c W call a)) (hb : PE X y (tBw c W call b)) : PE X (.Compare x [o] [y] pos) (tE c W call (.cmp op a b)) := by
  obtain rfl := copIs_eq ho
  exact pe_imp (pe_cmpR (op_cop hK hu op) ha hb (noSet hn)) fun σ H Q h => cmp_read h
theorem x_neg (ha : PE X x (tE c W call a)) : PE X (.UnaryOp .USub x pos) (tE c W call (.neg a)) := pe_imp (pe_un un_neg ha) fun σ H Q ⟨F, e, s, h⟩ => by
  rw [evE] at h
  refine ⟨F, e, s, (tbind (TopP.tp _ Q) (PF c) h).imp (fun _ _ _ z => z) fun v H1 ⟨F1, e1, u, s1, _, f1, z⟩ => ?_⟩
  cases u <;> first | exact z.elim | skip
  rename_i k
  have e1 : v = .int k := by unfold Fz at f1; exact f1
  subst e1
  exact ⟨_, rfl, TopP.at z s1 (by unfold Fz; rfl)⟩
theorem fz_bl {K : PySem.W.Frag} {ca : Nat → Addr} {F : Hp} {k : Bool} {v : V} (h : Fz K ca F (.bl k) v) : v = .bl k := by unfold Fz at h; exact h
theorem fz_bl' {K : PySem.W.Frag} {ca : Nat → Addr} {F : Hp} {k : Bool} : Fz K ca F (.bl k) (.bl k) := by unfold Fz; rfl
theorem x_not (ha : PE X x (tE c W call a)) : PE X (.UnaryOp .Not x pos) (tE c W call (.not a)) := pe_imp (pe_not ha) fun σ H Q ⟨F, e, s, h⟩ => by
  rw [evE] at h
  refine ⟨F, e, s, (tbind (TopP.tp _ Q) (PF c) h).imp (fun _ _ _ z => z) fun v H1 ⟨F1, e1, u, s1, _, f1, z⟩ => ?_⟩
  cases u <;> first | exact z.elim | skip
  exact ⟨_, fz_bl f1, TopP.at z s1 fz_bl'⟩
theorem x_and {rest : List Expr} (ha : PE X x (tE c W call a)) (hb : PE X (.BoolOp .And (y :: rest) pos) (tE c W call b)) : PE X (.BoolOp .And (x :: y :: rest) pos) (tE c W call (.and a b)) := pe_imp (pe_and ha hb) fun σ H Q ⟨F, e, s, h⟩ => by
  rw [evE] at h
  refine ⟨F, e, s, (tbind (TopP.tp _ Q) (PF c) h).imp (fun _ _ _ z => z) fun v H1 ⟨F1, e1, u, s1, _, f1, z⟩ => ?_⟩
  cases u <;> first | exact z.elim | skip
  rename_i k
  refine ⟨k, fz_bl f1, ?_⟩
  cases k with
  | true => rw [if_pos rfl]; exact ⟨F1, e1, s1, z⟩
  | false => rw [if_neg Bool.false_ne_true]; exact TopP.at z s1 fz_bl'
theorem x_or {rest : List Expr} (ha : PE X x (tE c W call a)) (hb : PE X (.BoolOp .Or (y :: rest) pos) (tE c W call b)) : PE X (.BoolOp .Or (x :: y :: rest) pos) (tE c W call (.or a b)) := pe_imp (pe_or ha hb) fun σ H Q ⟨F, e, s, h⟩ => by
  rw [evE] at h
  refine ⟨F, e, s, (tbind (TopP.tp _ Q) (PF c) h).imp (fun _ _ _ z => z) fun v H1 ⟨F1, e1, u, s1, _, f1, z⟩ => ?_⟩
  cases u <;> first | exact z.elim | skip
  rename_i k
  refine ⟨k, fz_bl f1, ?_⟩
  cases k with
  | true => rw [if_pos rfl]; exact TopP.at z s1 fz_bl'
  | false => rw [if_neg Bool.false_ne_true]; exact ⟨F1, e1, s1, z⟩
theorem chain_read {o1 o2 : COp} {σ : L2.St} {H : Hp} {Q : VK} (h : tE c W call (.chain o1 o2 a b d) σ H Q) : tChain (rCop c o1) (rCop c o2) (tE c W call a) (tE c W call b) (tE c W call d) σ H Q := by
  obtain ⟨F, e, s, h⟩ := h
  rw [evE] at h
  refine ⟨F, e, s, (tbind (TopP.tp _ Q) (PF c) h).imp (fun _ _ _ z => z) fun v H1 ⟨F1, e1, u, s1, _, f1, z⟩ => ?_⟩
  refine ⟨F1, e1, s1, (tbind (TopP.tp _ Q) (PF c) z).imp (fun _ _ _ z => z) fun v2 H2 ⟨F2, e2, u2, s2, sm2, f2, z⟩ => ?_⟩
  cases hq : cmpop o1 u u2 with
  | none => rw [hq] at z; exact z.elim
  | some k =>
    rw [hq] at z
    refine ⟨F2, u, u2, k, s2.le, .inl (f1.mono sm2), .inl f2, hq, k, rfl, ?_⟩
    cases k with
    | false => rw [if_neg Bool.false_ne_true]; exact TopP.at z s2 fz_bl'
    | true =>
      rw [if_pos rfl]
      refine ⟨F2, e2, s2, (tbind (TopP.tp _ Q) (PF c) z).imp (fun _ _ _ z => z) fun v3 H3 ⟨F3, e3, u3, s3, sm3, f3, z⟩ => ?_⟩
      cases hq3 : cmpop o2 u2 u3 with
      | none => rw [hq3] at z; exact z.elim
      | some k3 =>
        rw [hq3] at z
        exact ⟨F3, u2, u3, k3, s3.le, .inl (f2.mono sm3), .inl f3, hq3, TopP.at z s3 fz_bl'⟩
theorem x_chain {o1 o2 : COp} {p q : CmpOp} (hK : X.K = c.K) (hu : X.A.units + 64 < cLine) (ho : copIs o1 p = true) (ho2 : copIs o2 q = true) (hn : noStar z = true) (ha : PE X x (tE c W call a)) (hb : PE X y (tE c W call b)) (hd : PE X z (tE c W call d)) :
    PE X (.Compare x [p, q] [y, z] pos) (tE c W call (.chain o1 o2 a b d)) := by
  obtain rfl := copIs_eq ho
  obtain rfl := copIs_eq ho2
  exact pe_imp (pe_chain (op_cop hK hu o1) (op_cop hK hu o2) ha hb hd (noSet hn)) fun σ H Q h => chain_read h
theorem x_ite (hc : PT X z (tCn c W call d)) (ha : PE X x (tE c W call a)) (hb : PE X y (tE c W call b)) : PE X (.IfExp z x y pos) (tE c W call (.ite d a b)) := pe_imp (pe_ifExp hc ha hb) fun σ H Q ⟨F, e, s, h⟩ => by
  rw [evE] at h
  refine ⟨F, e, s, (tbind (TopP.tp _ Q) PB h).imp (fun _ _ _ z => z) fun v H1 ⟨F1, e1, u, s1, _, f1, z⟩ => ?_⟩
  cases f1
  cases v with
  | true => rw [if_pos rfl] at z ⊢; exact ⟨F1, e1, s1, z⟩
  | false => rw [if_neg Bool.false_ne_true] at z ⊢; exact ⟨F1, e1, s1, z⟩
theorem FzL.len {K : PySem.W.Frag} {ca : Nat → Addr} {F : Hp} {l : List D} {vs : List V} (h : FzL K ca F l vs) : vs.length = l.length := by have := FzL.length h; omega
theorem x_tup {es : List Expr} {k : Nat} (h : PA X es (tL c W call a)) : PE X (.Tuple es k pos) (tE c W call (.tup a)) := pe_imp (pe_tup h) fun σ H Q ⟨F, e, s, h⟩ => by
  rw [evE] at h
  refine ⟨F, e, s, (tbind (TopP.tp _ Q) (PL c) h).imp (fun _ _ _ z => z) fun v H1 ⟨F1, e1, u, s1, _, f1, z⟩ => ?_⟩
  by_cases hl : u.length ≤ lim
  · rw [if_pos hl] at z
    refine ⟨by rw [f1.len]; exact hl, fun p hp => ?_⟩
    obtain ⟨s2, x2⟩ := s1.newF hp (.tup v)
    refine z _ _ _ s2 x2 ?_
    show Fz _ _ _ _ _
    unfold Fz
    exact ⟨p, v, rfl, SqT.of upd_same, FzL.mono (Same.upd (s1.nofr hp).1) f1⟩
  · rw [if_neg hl] at z; exact z.elim
theorem x_lst {es : List Expr} (h : PA X es (tL c W call a)) : PE X (.List es pos) (tN c W call (.lst a)) := pe_imp (pe_lst h) fun σ H Q ⟨F, e, s, h⟩ => by
  rw [evE] at h
  refine ⟨F, e, s, (tbind (TopN.tp Q) (PL c) h).imp (fun _ _ _ z => z) fun v H1 ⟨F1, e1, u, s1, _, f1, z⟩ => ?_⟩
  by_cases hl : u.length ≤ lim
  · rw [if_pos hl] at z
    exact ⟨by rw [f1.len]; exact hl, fun p hp => (TopN.ok s1 z).lst f1 p hp⟩
  · rw [if_neg hl] at z; exact z.elim
theorem plainIx (h : noStar y = true) : PlainIx y := by
  intro o i
  cases y <;> first | rfl | cases h
theorem x_idx (hK : X.K = c.K) (hn : noStar y = true) (ha : PE X x (tBw c W call a)) (hb : PE X y (tBw c W call b)) : PE X (.Subscript x y pos) (tE c W call (.idx a b)) := by
  refine pe_imp (pe_ix (ix_any hK) ha hb (plainIx hn)) fun σ H Q ⟨F, e, s, h⟩ => ?_
  rw [evE] at h
  refine tBw_mono (brw2_read (TopP.tp _ Q) s h) fun x H1 h1 => tBw_mono h1 fun y H2 ⟨F2, e2, dx, dy, s2, bx, by_, z⟩ => ?_
  cases hq : idxOf dx dy with
  | none => rw [hq] at z; exact z.elim
  | some u => rw [hq] at z; exact ⟨F2, dx, dy, u, s2.le, bx, by_, hq, fun v fv => TopP.at z s2 fv⟩

def tP (c : Cn) (W : WX) (call : Nat → List D → CRes) (t : T) : TO := fun σ H Q => ∃ F e, SR c F H e σ ∧ TopP c W σ (fun _ (a b : Option Int) => a = b) Q F H e (evP c.G call t e)
theorem x_slc {o1 o2 : Option Expr} {p2 : Pos} {l h : T} (hK : X.K = c.K) (ha : PE X x (tBw c W call a)) (hl : PO X o1 (tP c W call l)) (hh : PO X o2 (tP c W call h)) : PE X (.Subscript x (.Slice o1 o2 none p2) pos) (tN c W call (.slc a l h)) := by
  refine pe_imp (pe_slice (sl_any hK) ha hl hh) fun σ H Q ⟨F, e, s, q⟩ => ?_
  rw [evE] at q
  have bb : ∀ {r : Res (Option Int)} {f : Option Int → Env → Res (Option Int × Option Int)} {g : (Option Int × Option Int) → Env → Res D}, ((r.bind f).bind g) = r.bind fun a e => (f a e).bind g := fun {r f g} => by cases r <;> rfl
  rcases nvar a with ⟨i, rfl⟩ | ⟨_, h2, _, h4⟩
  · have q' : TopN c W σ Q F H e (if (dOf (e.get i)).isNone then Res.bad else ((evP c.G call l e).bind fun l e => (evP c.G call h e).bind fun h e => Res.ok (l, h) e).bind fun y e => match dOf (e.get i) with
      | some x => lift (cutOf x y.1 y.2) e
      | none => Res.bad) := q
    cases hd : dOf (e.get i) with
    | none => rw [hd, if_pos (show (none : Option D).isNone = true from rfl)] at q'; exact q'.elim
    | some d0 =>
      rw [hd, if_neg (by simp), bb] at q'
      obtain ⟨v, hv, _⟩ := s.rb hd
      refine ⟨v, hv, F, e, s, (tbind (TopN.tp Q) (fun _ a b => a = b) q').imp (fun _ _ _ z => z) fun o H1 ⟨F1, e1, u, s1, _, f1, z⟩ => ?_⟩
      cases f1
      rw [bb] at z
      refine ⟨F1, e1, s1, (tbind (TopN.tp Q) (fun _ a b => a = b) z).imp (fun _ _ _ z => z) fun o2 H2 ⟨F2, e2, u2, s2, _, f2, z⟩ => ?_⟩
      cases f2
      have z' : TopN c W σ Q F2 H2 e2 (match dOf (e2.get i) with
        | some x => lift (cutOf x o o2) e2
        | none => Res.bad) := z
      cases hd2 : dOf (e2.get i) with
      | none => rw [hd2] at z'; exact z'.elim
      | some dx =>
        rw [hd2] at z'
        obtain ⟨v', hv', rx⟩ := s2.rb hd2
        rw [hv] at hv'; cases hv'
        cases hq : cutOf dx o o2 with
        | none =>
          have z2 : TopN c W σ Q F2 H2 e2 (lift (cutOf dx o o2) e2) := z'
          rw [hq] at z2; exact z2.elim
        | some u =>
          have z2 : TopN c W σ Q F2 H2 e2 (lift (cutOf dx o o2) e2) := z'
          rw [hq] at z2; exact ⟨F2, dx, u, s2.le, rx, hq, TopN.ok s2 z2⟩
  · rw [h4] at q
    rw [h2]
    refine ⟨F, e, s, (tbind (TopN.tp Q) (PF c) q).imp (fun _ _ _ z => z) fun v H1 ⟨F1, e1, dx, s1, _, fx, z⟩ => ?_⟩
    rw [bb] at z
    refine ⟨F1, e1, s1, (tbind (TopN.tp Q) (fun _ a b => a = b) z).imp (fun _ _ _ z => z) fun o H2 ⟨F2, e2, u2, s2, sm2, f2, z⟩ => ?_⟩
    cases f2
    rw [bb] at z
    refine ⟨F2, e2, s2, (tbind (TopN.tp Q) (fun _ a b => a = b) z).imp (fun _ _ _ z => z) fun o2 H3 ⟨F3, e3, u3, s3, sm3, f3, z⟩ => ?_⟩
    cases f3
    have z2 : TopN c W σ Q F3 H3 e3 (lift (cutOf dx o o2) e3) := z
    cases hq : cutOf dx o o2 with
    | none => rw [hq] at z2; exact z2.elim
    | some u => rw [hq] at z2; exact ⟨F3, dx, u, s3.le, .inl ((fx.mono sm2).mono sm3), hq, TopN.ok s3 z2⟩
theorem po_nil : PO X none (tP c W call .nil) := by
  refine ⟨fun pins s σ H Q I ⟨F, e, sr, h⟩ => (po_none (X := X)).run pins s σ H Q I ?_⟩
  rw [evP] at h
  exact TopP.at h sr rfl
theorem po_prt (ha : PE X x (tE c W call a)) : PO X (some x) (tP c W call (.prt a)) := by
  refine ⟨fun pins s σ H Q I ⟨F, e, sr, h⟩ => (po_some ha).run pins s σ H Q I ?_⟩
  rw [evP] at h
  refine ⟨F, e, sr, (tbind (TopP.tp _ Q) (PF c) h).imp (fun _ _ _ z => z) fun v H1 ⟨F1, e1, u, s1, _, f1, z⟩ => ?_⟩
  cases u <;> first | exact z.elim | skip
  rename_i k
  have e1 : v = .int k := by unfold Fz at f1; exact f1
  subst e1
  exact ⟨k, rfl, TopP.at z s1 rfl⟩
theorem a_nil : PA X [] (tL c W call .nil) := pa_imp pa_nil fun σ H Q ⟨F, e, s, h⟩ => by
  rw [evL] at h
  exact TopP.at h s (by unfold FzL; rfl)
theorem star_of {es : List Expr} {env : PySem.Env} (h : noStar y = true) : starEach (y :: es) env = (false, eval y env) :: starEach es env := by cases y <;> first | rfl | cases h
theorem plain_of {env : PySem.Env} : ∀ {es : List Expr}, (∀ y ∈ es, noStar y = true) → (backTo pos (starEach es env)).any (·.1) = false
  | [], _ => rfl
  | y :: es, h => by
    rw [star_of (h y List.mem_cons_self)]
    show (false || (backTo pos (starEach es env)).any (·.1)) = false
    rw [plain_of fun z hz => h z (List.mem_cons_of_mem _ hz)]
    rfl
theorem a_cons {es : List Expr} (hn : noStar x = true) (ha : PE X x (tE c W call a)) (hb : PA X es (tL c W call b)) : PA X (x :: es) (tL c W call (.cons a b)) := pa_imp (pa_cons ha hb (star_of hn)) fun σ H Q ⟨F, e, s, h⟩ => by
  rw [evL] at h
  refine ⟨F, e, s, (tbind (TopP.tp _ Q) (PF c) h).imp (fun _ _ _ z => z) fun v H1 ⟨F1, e1, u, s1, _, f1, z⟩ => ?_⟩
  refine ⟨F1, e1, s1, (tbind (TopP.tp _ Q) (PL c) z).imp (fun _ _ _ z => z) fun vs H2 ⟨F2, e2, us, s2, sm, f2, z⟩ => ?_⟩
  exact TopP.at z s2 (by unfold FzL; exact ⟨v, vs, rfl, f1.mono sm, f2⟩)
theorem c_not (ha : PT X x (tCn c W call a)) : PT X (.UnaryOp .Not x pos) (tCn c W call (.not a)) := pt_imp (pt_not ha) fun σ H Q ⟨F, e, s, h⟩ => by
  rw [evC] at h
  refine ⟨F, e, s, (tbind (TopP.tp _ Q) PB h).imp (fun _ _ _ z => z) fun v H1 ⟨F1, e1, u, s1, _, f1, z⟩ => ?_⟩
  cases f1
  exact TopP.at z s1 rfl
theorem c_one {op : BoolOp} (ha : PT X x (tCn c W call a)) : PW X (.BoolOp op [x] pos) (tCn c W call a) := by
  cases op
  · exact pw_and1 ha
  · exact pw_or1 ha
theorem pw_imp {t t' : TT} (h : PW X x t) (i : ∀ σ H Q, t' σ H Q → t σ H Q) : PW X x t' := ⟨fun wh pins s σ H Q I q => h.run wh pins s σ H Q I (i σ H Q q)⟩
theorem c_and {rest : List Expr} (ha : PT X x (tCn c W call a)) (hb : PW X (.BoolOp .And (y :: rest) pos) (tCn c W call b)) : PW X (.BoolOp .And (x :: y :: rest) pos) (tCn c W call (.and a b)) := pw_imp (pw_and ha hb) fun σ H Q ⟨F, e, s, h⟩ => by
  rw [evC] at h
  refine ⟨F, e, s, (tbind (TopP.tp _ Q) PB h).imp (fun _ _ _ z => z) fun v H1 ⟨F1, e1, u, s1, _, f1, z⟩ => ?_⟩
  cases f1
  cases v with
  | true => rw [if_pos rfl] at z ⊢; exact ⟨F1, e1, s1, z⟩
  | false => rw [if_neg Bool.false_ne_true] at z ⊢; exact TopP.at z s1 rfl
theorem c_or {rest : List Expr} (ha : PT X x (tCn c W call a)) (hb : PW X (.BoolOp .Or (y :: rest) pos) (tCn c W call b)) : PW X (.BoolOp .Or (x :: y :: rest) pos) (tCn c W call (.or a b)) := pw_imp (pw_or ha hb) fun σ H Q ⟨F, e, s, h⟩ => by
  rw [evC] at h
  refine ⟨F, e, s, (tbind (TopP.tp _ Q) PB h).imp (fun _ _ _ z => z) fun v H1 ⟨F1, e1, u, s1, _, f1, z⟩ => ?_⟩
  cases f1
  cases v with
  | true => rw [if_pos rfl] at z ⊢; exact TopP.at z s1 rfl
  | false => rw [if_neg Bool.false_ne_true] at z ⊢; exact ⟨F1, e1, s1, z⟩
theorem c_tst (hK : X.K = c.K) (ha : PE X x (tBw c W call a)) (he : ∀ whole, isTrue x X.env whole = (do let v ← whole; standAt x.pos; holding [v] (truthy v))) : PT X x (tCn c W call (.tst a)) := pt_imp (pt_truth ha he) fun σ H Q ⟨F, e, s, h⟩ => by
  rw [evC] at h
  refine tBw_mono (brw_read (TopP.tp _ Q) s h) fun x H1 ⟨F1, e1, dx, s1, _, bx, z⟩ => ?_
  cases hq : truth dx with
  | none => rw [hq] at z; exact z.elim
  | some k => rw [hq] at z; exact ⟨k, tru_any hK s1.le bx hq, TopP.at z s1 rfl⟩
theorem tst_val {σ : L2.St} {H : Hp} {Q : Bool → Hp → Prop} (hb : ∀ e r, brw a e r = r) (h : tCn c W call (.tst a) σ H Q) (hd : ∀ e u e', evE c.G call a e = .ok u e' → ∃ k, u = .bl k) : tE c W call a σ H fun v H1 => ∃ k, v = .bl k ∧ Q k H1 := by
  obtain ⟨F, e, s, h⟩ := h
  rw [evC, hb] at h
  refine ⟨F, e, s, ?_⟩
  cases hq : evE c.G call a e with
  | bad => rw [hq] at h; exact h
  | exc x e' => rw [hq] at h; exact h
  | ok u e' =>
    rw [hq] at h
    obtain ⟨k, rfl⟩ := hd _ _ _ hq
    intro F' H' v s' x' f'
    exact ⟨k, fz_bl f', h F' H' k s' x' rfl⟩
end
end MP

namespace MP
open PySem L2 PySem.Spec PyProof.Rows

def noA : Addr → Prop := fun _ => False
section
variable {c : Cn} {F F' H H' : Hp} {e : Env} {σ : L2.St}
/-- behind a call that owns nothing of ours -/
theorem frame_fz (s : SR c F H e σ) (l : Same F' H') (x : Ext noA F H noA F' H') : SR c F' H' e σ ∧ Ext (Ft e σ) F H (Ft e σ) F' H' := by
  have key : ∀ a, Ft e σ a → F' a = none ∧ ∀ o, H a = some o → H' a = some o := fun a ha => by
    refine ⟨?_, fun o ho => x.keep a o ho id⟩
    cases q : F' a with
    | none => rfl
    | some u =>
      exfalso
      have hf := s.ft a ha
      obtain ⟨i, d, h1, h2⟩ := ha
      obtain ⟨b, o, h3, h4, h5, _⟩ := s.own h1
      rw [h2] at h3; cases h3
      rcases x.new a (.inl (by rw [q]; exact fun z => nomatch z)) with z | z | z
      · exact z hf
      · exact z
      · rw [h5] at z; cases z
  refine ⟨s.ext x.ff l key, x.ff, fun a o ho _ => x.keep a o ho id, fun a z => ?_⟩
  rcases z with z | z
  · rcases x.new a (.inl z) with z | z | z
    · exact .inl z
    · exact z.elim
    · exact .inr (.inr z)
  · exact .inr (.inl z)
theorem frame_new {d : D} {v : V} (s : SR c F H e σ) (l : Same F' H') (n : NewR c F H noA F' H' noA d v) : SR c F' H' e σ ∧ NewR c F H (Ft e σ) F' H' (Ft e σ) d v := by
  unfold NewR at n ⊢
  split at n
  · rename_i hm
    rw [if_pos hm]
    obtain ⟨a, o, h1, h2, h3, h4, _, x⟩ := n
    have hnew : H a = none := by
      rcases x.new a (.inr (.inr rfl)) with z | z | z
      · cases q : F a with
        | none => exact absurd q z
        | some u => rw [x.ff a u q] at h2; cases h2
      · exact z.elim
      · exact z
    have hnf := (s.nofr hnew).2
    have x0 : Ext noA F H noA F' H' := ⟨x.ff, fun b u hb _ => x.keep b u hb (fun z => z), fun b z => by
      rcases z with z | z
      · exact x.new b (.inl z)
      · exact z.elim⟩
    obtain ⟨s1, x1⟩ := frame_fz s l x0
    refine ⟨s1, a, o, h1, h2, h3, h4, hnf, x1.ff, x1.keep, fun b z => ?_⟩
    rcases z with z | z | z
    · exact x1.new b (.inl z)
    · exact .inr (.inl z)
    · rw [z]; exact .inr (.inr hnew)
  · rename_i hm
    rw [if_neg hm]
    obtain ⟨s1, x1⟩ := frame_fz s l n.2
    exact ⟨s1, n.1, x1⟩
end

/-- is a def's result new -/
def frB (G : Pg) (f : Nat) : Bool := (G.defs[f]?.map (·.fr)).getD false
/-- a def by its evaluation -/
def spF (c : Cn) (call : Nat → List D → CRes) (f : Nat) : Sp := fun vs H Q E => ∃ F ds, Same F H ∧ FzL c.K c.ca F ds vs ∧ match call f ds with
  | .ret d => ∀ F' H' v, Same F' H' → (if frB c.G f = true then NewR c F H noA F' H' noA d v else Fz c.K c.ca F' d v ∧ Ext noA F H noA F' H') → Q v H'
  | .exc x => ∀ F' H' cls dd, Same F' H' → Ext noA F H noA F' H' → XR c F' H' x cls dd → E cls dd H'
  | .bad => False

/-- what the names stand for -/
structure Fx (c : Cn) (P : Program) (w : World) (mg : Str → Option Value) (base : Heap) (call : Nat → List D → CRes) (k : Nat) : Prop where
  glob : ∀ (i : Nat) (x : Str), c.M.glob[i]? = some x → ∀ d : D, c.G.glob[i]? = some d → ∃ u v, mg x = some u ∧ RelV v u ∧ ∀ F, Fz c.K c.ca F d v
  bis : ∀ x : Str, c.M.bis.contains x = true → mg x = none
  bfs : ∀ x : Str, c.M.bfs.contains x = true → ∀ b, biM b = true → x = biName b → mg x = some (biV b)
  fn : ∀ (f : Nat) (x : Str), c.M.defs[f]? = some x → ∃ a fd ps, mg x = some (.ref a) ∧ PySem.W.keepIn c.K (.ref a) = true ∧ Binds c.K fd ps [] ∧ FnOk P w c.K mg base (L2.CX P w) k a fd ps (spF c call f)
/-- what the classes stand for -/
structure Kl (c : Cn) (mg : Str → Option Value) : Prop where
  at_ : ∀ (j : Nat) (n : Str) (fs : List Str), c.M.cls[j]? = some (n, fs) → mg n = some (.ref (c.ca j)) ∧ PySem.W.keepIn c.K (.ref (c.ca j)) = true ∧ (fs = [] → ExcC c.K (c.ca j) ∧ PySem.W.subIn c.K (.ref (c.ca j)) (.type "BaseException") = some true ∧ PySem.W.typeIn c.K (.ref (c.ca j)) = some (.type "type") ∧ ∃ B newId initId bmB, ExcBaseFacts B newId initId bmB ∧ PySem.W.excIn c.K (c.ca j) bmB newId = true)
  sub : ∀ i j, i < c.M.cls.length → j < c.M.cls.length → PySem.W.kitOne c.K (.ref (c.ca i)) (.ref (c.ca j)) = some (c.G.sub i j) ∧ PySem.W.exmOne c.K (.ref (c.ca i)) (.ref (c.ca j)) = some (c.G.sub i j)
  ve : ∀ i, i < c.M.cls.length → PySem.W.kitOne c.K (.ref (c.ca i)) (.type "ValueError") = some true
/-- a place where terms are evaluated -/
structure Gd (c : Cn) (call : Nat → List D → CRes) (k : Nat) (X : Cx) (W : WX) (M : Nm) (N : List Str) (sc : Scope) : Prop where
  hK : X.K = c.K
  hN : X.N = N
  nd : N.Nodup
  hsc : X.env.scope = sc
  tk : Takes X W
  hM : M = c.M.heat M.hot
  cold : M.hot = false → X.calm = true ∧ Room k X.A ∧ c.er = fun _ _ _ _ => False
  un : X.A.units + 64 < cLine
  fx : Fx c X.prog X.w X.mg X.base call k
  cl : Kl c X.mg
  er : ∀ F i fs v, c.er F i fs v → i < c.M.cls.length ∧ ∃ Y ad oe pn dd, X = Cx.suite Y ad ((ad, oe) :: pn) ∧ v = .ref ad ∧ Zc (.ref (c.ca i)) dd oe ∧ (∃ vs, oe.data = .fields vs) ∧ XR c F F ⟨i, fs⟩ (.ref (c.ca i)) dd
section
variable {c : Cn} {call : Nat → List D → CRes} {k : Nat} {X : Cx} {W : WX} {M : Nm} {N : List Str} {sc : Scope} {a b : T} {x : Expr} {pos p : Pos}
theorem Gd.glob (g : Gd c call k X W M N sc) : M.glob = c.M.glob := by rw [g.hM]; rfl
theorem Gd.defs (g : Gd c call k X W M N sc) : M.defs = c.M.defs := by rw [g.hM]; rfl
theorem Gd.cls (g : Gd c call k X W M N sc) : M.cls = c.M.cls := by rw [g.hM]; rfl
theorem Gd.bfs (g : Gd c call k X W M N sc) : M.bfs = c.M.bfs := by rw [g.hM]; rfl
theorem Gd.bis (g : Gd c call k X W M N sc) : M.bis = c.M.bis := by rw [g.hM]; rfl
theorem okName_of {x : Str} (h : okName x = true) : (x == ("__debug__" : Str)) = false ∧ (x == ("__classdict__" : Str)) = false ∧ x ≠ "__name__" := by
  unfold okName at h
  simp only [Bool.and_eq_true, Bool.not_eq_true', beq_eq_false_iff_ne] at h
  refine ⟨beq_eq_false_iff_ne.mpr h.1.1, beq_eq_false_iff_ne.mpr h.1.2, h.2⟩
theorem vis_of {x : Str} (h : visB sc x = true) : Vis sc x := by
  unfold visB at h
  unfold Vis
  split at h <;> first | (rename_i q; rw [q]; simp; done) | cases h
theorem loc_of {x : Str} (h : locB sc x = true) : L2.Loc sc x := by
  unfold locB at h
  unfold L2.Loc
  split at h <;> first | (rename_i q; rw [q]; simp; done) | cases h
theorem gl_of {x : Str} (hs : X.env.scope = sc) (h : glbB sc x = true) : Gl X x := by
  unfold glbB at h
  unfold Gl Env.kindOf
  rw [hs]
  split at h
  · assumption
  · cases h
theorem g_var (g : Gd c call k X W M N sc) {i : Nat} (h : mE M N sc (.var i) x = true) : PE X x (tVar i) := by
  unfold mE at h
  split at h
  · rename_i y pp
    simp only [Bool.and_eq_true, beq_iff_eq] at h
    obtain ⟨⟨h1, h2⟩, h3⟩ := h
    obtain ⟨o1, o2, _⟩ := okName_of h3
    exact pe_var (by rw [g.hN]; exact h1) (by rw [g.hsc]; exact vis_of h2) o1 o2
  · cases h

theorem callN {σ : L2.St} {H : Hp} {Q : VK} {f : Nat} (h : tN c W call (.call f a) σ H Q) : frB c.G f = true → tL c W call a σ H fun vs H1 => spF c call f vs H1 Q (WE W σ) := fun hfr => by
  obtain ⟨F, e, s, h⟩ := h
  rw [evE] at h
  refine ⟨F, e, s, (tbind (TopN.tp Q) (PL c) h).imp (fun _ _ _ z => z) fun vs H1 ⟨F1, e1, us, s1, _, f1, z⟩ => ?_⟩
  refine ⟨F1, us, s1.le, f1, ?_⟩
  cases hq : call f us with
  | bad => rw [hq] at z; exact z.elim
  | ret d =>
    rw [hq] at z
    intro F' H' v l n
    rw [if_pos hfr] at n
    obtain ⟨s2, n2⟩ := frame_new s1 l n
    exact z F' H' v s2 n2
  | exc x =>
    rw [hq] at z
    intro F' H' cls dd l x' xr
    obtain ⟨s2, x2⟩ := frame_fz s1 l x'
    exact z F' H' cls dd s2 x2 xr
theorem callE {σ : L2.St} {H : Hp} {Q : VK} {f : Nat} (h : tE c W call (.call f a) σ H Q) : tL c W call a σ H fun vs H1 => spF c call f vs H1 Q (WE W σ) := by
  obtain ⟨F, e, s, h⟩ := h
  rw [evE] at h
  refine ⟨F, e, s, (tbind (TopP.tp _ Q) (PL c) h).imp (fun _ _ _ z => z) fun vs H1 ⟨F1, e1, us, s1, _, f1, z⟩ => ?_⟩
  refine ⟨F1, us, s1.le, f1, ?_⟩
  cases hq : call f us with
  | bad => rw [hq] at z; exact z.elim
  | ret d =>
    rw [hq] at z
    intro F' H' v l n
    by_cases hfr : frB c.G f = true
    · rw [if_pos hfr] at n
      obtain ⟨s2, n2⟩ := frame_new s1 l n
      obtain ⟨F'', s3, f3, x3⟩ := freeze s2 n2
      exact z F'' H' v s3 x3 f3
    · rw [if_neg hfr] at n
      obtain ⟨s2, x2⟩ := frame_fz s1 l n.2
      exact z F' H' v s2 x2 n.1
  | exc x =>
    rw [hq] at z
    intro F' H' cls dd l x' xr
    obtain ⟨s2, x2⟩ := frame_fz s1 l x'
    exact z F' H' cls dd s2 x2 xr
theorem mL_star : ∀ {t : T} {es : List Expr}, mL M N sc t es = true → ∀ y ∈ es, noStar y = true
  | _, [], _ => fun y hy => nomatch hy
  | t, z :: es, h => by
    cases t <;> unfold mL at h <;> try (cases h; done)
    rename_i t r
    simp only [Bool.and_eq_true] at h
    intro y hy
    rcases List.mem_cons.mp hy with rfl | hy
    · exact h.1.1
    · exact mL_star h.2 y hy
theorem x_call0 (g : Gd c call k X W M N sc) {f : Nat} {n : Str} {es : List Expr} (hf : M.defs[f]? = some n) (hg : glbB sc n = true) (ho : okName n = true) (hc : M.hot = false) (hm : mL M N sc a es = true) (ha : PA X es (tL c W call a)) :
    PE X (.Call (.Name n p) es [] pos) (fun σ H Q => tL c W call a σ H fun vs H1 => spF c call f vs H1 Q (WE W σ)) := by
  obtain ⟨_, hr, _⟩ := g.cold hc
  rw [g.defs] at hf
  obtain ⟨ad, fd, ps, h1, h2, h3, h4⟩ := g.fx.fn f n hf
  have hK := g.hK
  rw [← hK] at h2 h3 h4
  obtain ⟨o1, _, _⟩ := okName_of ho
  have hst := mL_star hm
  cases es with
  | nil =>
    refine ⟨fun pins s σ H Q I h => ?_⟩
    refine wpAny_Call_Name_kw (ld_glob I (gl_of g.hsc hg) h1 ?_ o1)
    refine PySem.W.callWith_K0 I.kIn h2 (run_fnS (us := []) (vs := []) (E := WE W) h4 hr h3 (passAt g.tk σ) I .nil ?_)
    obtain ⟨F, e, sr, h⟩ := h
    cases a <;> unfold mL at hm <;> try (cases hm; done)
    rw [evL] at h
    exact TopP.at h sr (by unfold FzL; rfl)
  | cons e es =>
    exact pe_callS h4 hr (gl_of g.hsc hg) h1 h2 h3 (passAt g.tk) ha o1 (star_of (hst e List.mem_cons_self)) (plain_of fun y hy => hst y (List.mem_cons_of_mem _ hy))

theorem bi_isi2 (hK : X.K = c.K) : CallR X (.builtin "isinstance") (rBi c .isi) := by
  intro pins s σ H xs us Q I r h
  obtain ⟨F, ds, d, sf, pr, e, n⟩ := h
  rcases ds with _ | ⟨d1, _ | ⟨d2, _ | _⟩⟩
  · cases e
  · cases e
  · cases d2 <;> first | (cases e; done) | skip
    rename_i nm
    obtain ⟨x1, x2, rfl, b1, b2⟩ := pair2 pr
    have e2 : x2 = .ty nm := by have := b2.fz rfl; unfold Fz at this; exact this
    subst e2
    have e' : (isiTy d1 nm).map D.bl = some d := e
    cases q : isiTy d1 nm with
    | none => rw [q] at e'; cases e'
    | some k =>
      rw [q] at e'; cases e'
      exact bi_isi hK pins s σ H _ us Q I r ⟨F, d1, x1, nm, k, sf, b1, rfl, q, n.bl⟩
  · simp [bfn] at e
theorem bi_callB {b : BI} (hK : X.K = c.K) (hb : biB b = true) (hc : biCalm b = true → X.calm = true) : ∃ id, biV b = .builtin id ∧ bootBuiltins (biName b) = some (.builtin id) ∧ CallR X (.builtin id) (rBi c b) := by
  cases b <;> first
    | (cases hb; done)
    | exact ⟨_, rfl, rfl, bi_len hK⟩
    | exact ⟨_, rfl, rfl, bi_abs⟩
    | exact ⟨_, rfl, rfl, bi_min1 (hc rfl)⟩
    | exact ⟨_, rfl, rfl, bi_max1 (hc rfl)⟩
    | exact ⟨_, rfl, rfl, bi_min2 (hc rfl)⟩
    | exact ⟨_, rfl, rfl, bi_max2 (hc rfl)⟩
    | exact ⟨_, rfl, rfl, bi_sum (hc rfl)⟩
    | exact ⟨_, rfl, rfl, bi_all (hc rfl)⟩
    | exact ⟨_, rfl, rfl, bi_any (hc rfl)⟩
    | exact ⟨_, rfl, rfl, bi_isi2 hK⟩
theorem bi_callT {b : BI} (hK : X.K = c.K) (hb : biT b = true) : ∃ id, biV b = .type id ∧ bootBuiltins (biName b) = some (.type id) ∧ CallR X (.type id) (rBi c b) := by
  cases b <;> first
    | (cases hb; done)
    | exact ⟨_, rfl, rfl, bi_int⟩
    | exact ⟨_, rfl, rfl, bi_tuple hK⟩
    | exact ⟨_, rfl, rfl, bi_list hK⟩
    | exact ⟨_, rfl, rfl, bi_str⟩
theorem pe_false {t : TE} (h : ∀ σ H Q, ¬ t σ H Q) : PE X x t := ⟨fun _ _ σ H Q _ q => (h σ H Q q).elim⟩
theorem x_biG (g : Gd c call k X W M N sc) {b : BI} {e : Expr} {es : List Expr} {t : TA} {t' : TE} {n : Str} (hn : n = biName b) (hm : (if biM b then M.bfs.contains n else M.bis.contains n && (biB b || biT b)) = true) (hg : glbB sc n = true) (ho : okName n = true) (hc : (M.hot && biCalm b) = false)
    (hst : ∀ y ∈ e :: es, noStar y = true) (ha : PA X (e :: es) t) (himp : ∀ σ H Q, t' σ H Q → tCB (rBi c b) t σ H Q) : PE X (.Call (.Name n p) (e :: es) [] pos) t' := by
  obtain ⟨o1, _, o3⟩ := okName_of ho
  have he := star_of (es := es) (env := X.env) (hst e List.mem_cons_self)
  have hpl := plain_of (pos := pos) (env := X.env) (es := es) fun y hy => hst y (List.mem_cons_of_mem _ hy)
  have hcal : biCalm b = true → X.calm = true := fun q => by
    rw [q, Bool.and_true] at hc
    exact (g.cold hc).1
  by_cases hM : biM b = true
  · rw [if_pos hM, g.bfs] at hm
    have hmg := g.fx.bfs n hm b hM hn
    cases b <;> first
      | (cases hM; done)
      | exact pe_imp (pe_callBfun bi_gcd (gl_of g.hsc hg) hmg ha o1 he hpl) himp
      | exact pe_imp (pe_callBfun bi_isqrt (gl_of g.hsc hg) hmg ha o1 he hpl) himp
  rw [if_neg hM, Bool.and_eq_true, g.bis] at hm
  have hmg := g.fx.bis n hm.1
  rcases Bool.or_eq_true_iff.mp hm.2 with h1 | h2
  · obtain ⟨id, _, hv, hr⟩ := bi_callB g.hK h1 hcal
    subst hn
    exact pe_imp (pe_callB hr (gl_of g.hsc hg) hmg hv ha o3 o1 he hpl) himp
  · obtain ⟨id, _, hv, hr⟩ := bi_callT g.hK h2
    subst hn
    exact pe_imp (pe_callTy hr (gl_of g.hsc hg) hmg hv ha o3 o1 he hpl) himp
/-- list(range(..)): the range, then the list -/
theorem x_rngG (g : Gd c call k X W M N sc) {e : Expr} {es : List Expr} {t : TA} {t' : TE} {p2 pos2 : Pos} {r : List V → Hp → VK → Prop} (hr : CallR X (.type "range") r) (h1 : M.bis.contains ("list" : Str) = true) (h2 : M.bis.contains ("range" : Str) = true) (h3 : glbB sc ("list" : Str) = true) (h4 : glbB sc ("range" : Str) = true) (hc : M.hot = false)
    (hst : ∀ y ∈ e :: es, noStar y = true) (ha : PA X (e :: es) t) (himp : ∀ σ H Q, t' σ H Q → t σ H fun vs H1 => r vs H1 fun v H2 => rListRng [v] H2 Q) : PE X (.Call (.Name "list" p) [.Call (.Name "range" p2) (e :: es) [] pos2] [] pos) t' := by
  have he := star_of (es := es) (env := X.env) (hst e List.mem_cons_self)
  have hpl := plain_of (pos := pos2) (env := X.env) (es := es) fun y hy => hst y (List.mem_cons_of_mem _ hy)
  rw [g.bis] at h1 h2
  have i1 := pe_callTy hr (gl_of g.hsc h4) (g.fx.bis _ h2) (by decide +kernel) ha (by decide) (by decide) he hpl (p := p2) (pos := pos2)
  exact pe_imp (pe_callTy (cr_listRng (g.cold hc).1) (gl_of g.hsc h3) (g.fx.bis _ h1) (by decide +kernel) (pa_cons i1 pa_nil rfl) (by decide) (by decide) rfl rfl (p := p) (pos := pos)) himp
theorem rng_put {F H : Hp} {a : Addr} {i j : Int} {Q : VK} (hq : rngOk i j = true) (k : ∀ p, (upd H a (.rng i j)) p = none → Q (.ref p) (upd (upd H a (.rng i j)) p (.lst (rngL i (j - i).toNat)))) : rListRng [.ref a] (upd H a (.rng i j)) Q := by
  obtain ⟨q1, q2, q3⟩ := rng_ok hq
  exact ⟨a, i, j, rfl, upd_same, q1, q2, q3, k⟩
theorem rng_end {σ : L2.St} {F H : Hp} {e : Env} {Q : VK} {i j : Int} {n : Nat} {b : BI} (hb : bfn b = bfn b) (s : SR c F H e σ) (hn : n = (j - i).toNat) (hq : rngOk i j = true) (z : TopN c W σ Q F H e (.ok (.lst (ranged i n)) e)) {a : Addr} (ha : H a = none) :
    rListRng [.ref a] (upd H a (.rng i j)) Q := by
  subst hn
  refine rng_put (F := F) hq fun p hp => ?_
  obtain ⟨s1, x1⟩ := s.newF ha (.rng i j)
  exact (TopN.ok s1 (TopN.tp Q |>.step s1 x1 z)).lst ranged_fz p hp
theorem x_lrange1 (g : Gd c call k X W M N sc) {e : Expr} {p2 pos2 : Pos} (h1 : M.bis.contains ("list" : Str) = true) (h2 : M.bis.contains ("range" : Str) = true) (h3 : glbB sc ("list" : Str) = true) (h4 : glbB sc ("range" : Str) = true) (hc : M.hot = false)
    (hs : noStar e = true) (ha : PE X e (tBw c W call a)) : PE X (.Call (.Name "list" p) [.Call (.Name "range" p2) [e] [] pos2] [] pos) (tN c W call (.bi .lrange1 (.cons a .nil))) := by
  refine x_rngG g cr_range1 h1 h2 h3 h4 hc (fun y hy => by simp at hy; subst hy; exact hs) (pa_cons ha pa_nil (star_of hs)) (fun σ H Q h => ?_)
  obtain ⟨F, e, s, h⟩ := h
  rw [evE] at h
  refine tBw_mono (brw_read (TopN.tp Q) s h) fun x H1 ⟨F1, e1, d, s1, _, b1, z⟩ => ?_
  cases d <;> first | exact z.elim | skip
  rename_i j
  cases b1.int
  have z : TopN c W σ Q F1 H1 e1 (lift (if rngOk 0 j = true then some (.lst (ranged 0 j.toNat)) else none) e1) := z
  by_cases hq : rngOk 0 j = true
  · rw [if_pos hq] at z
    exact ⟨j, rfl, fun q hp => rng_end (b := .len) rfl s1 (by congr 1; omega) hq z hp⟩
  · rw [if_neg hq] at z
    exact z.elim
theorem x_lrange2 (g : Gd c call k X W M N sc) {a2 : T} {e e2 : Expr} {p2 pos2 : Pos} (h1 : M.bis.contains ("list" : Str) = true) (h2 : M.bis.contains ("range" : Str) = true) (h3 : glbB sc ("list" : Str) = true) (h4 : glbB sc ("range" : Str) = true) (hc : M.hot = false)
    (hs : noStar e = true) (hs2 : noStar e2 = true) (ha : PE X e (tBw c W call a)) (ha2 : PE X e2 (tBw c W call a2)) : PE X (.Call (.Name "list" p) [.Call (.Name "range" p2) [e, e2] [] pos2] [] pos) (tN c W call (.bi .lrange2 (.cons a (.cons a2 .nil)))) := by
  refine x_rngG g cr_range2 h1 h2 h3 h4 hc (fun y hy => by
    rcases List.mem_cons.mp hy with rfl | hy
    · exact hs
    · simp at hy; subst hy; exact hs2) (pa_cons ha (pa_cons ha2 pa_nil (star_of hs2)) (star_of hs)) (fun σ H Q h => ?_)
  obtain ⟨F, e, s, h⟩ := h
  rw [evE] at h
  refine tBw_mono (brw2_read (TopN.tp Q) s h) fun x H1 h1 => tBw_mono h1 fun y H2 ⟨F1, e1, d, d2, s1, b1, b2, z⟩ => ?_
  cases d <;> first | exact z.elim | skip
  cases d2 <;> first | exact z.elim | skip
  rename_i i j
  cases b1.int
  cases b2.int
  have z : TopN c W σ Q F1 H2 e1 (lift (if rngOk i j = true then some (.lst (ranged i (j - i).toNat)) else none) e1) := z
  by_cases hq : rngOk i j = true
  · rw [if_pos hq] at z
    exact ⟨i, j, rfl, fun q hp => rng_end (b := .len) rfl s1 rfl hq z hp⟩
  · rw [if_neg hq] at z
    exact z.elim
theorem supB {o : Expr} {m : Str} {env : PySem.Env} {w : Sem Value} (h : noSup o = true) : attributeBase o m env w = w := by
  unfold attributeBase
  split
  · cases h
  · rfl
theorem nvarM (t : T) : (∃ i, t = .var i) ∨ ((∀ c W call, tBw c W call t = tE c W call t) ∧ ∀ m e ra rb k, brwM m t e ra rb k = ra.bind fun x e => if mTy m x = true then (rb e).bind fun ys e => k x ys e else .bad) := by
  cases t <;> first | exact .inl ⟨_, rfl⟩ | exact .inr ⟨fun _ _ _ => rfl, fun _ _ _ _ _ => rfl⟩
/-- the receiver of a method: its value early and late -/
theorem brwM_read {m : BI} {σ : L2.St} {Z : Hp → Hp → Env → Res D → Prop} (tp : Tp c W σ Z) {F H : Hp} {e : Env} {rb : T} {kk : D → List D → Env → Res D} (s : SR c F H e σ) (h : Z F H e (brwM m a e (evE c.G call a e) (evL c.G call rb) kk)) :
    tBw c W call a σ H fun x H1 => (∃ F1 d0, Same F1 H1 ∧ RB c F1 H1 d0 x ∧ mTy m d0 = true) ∧ tL c W call rb σ H1 fun ys H2 => ∃ F2 e2 d ds, SR c F2 H2 e2 σ ∧ RB c F2 H2 d x ∧ FzL c.K c.ca F2 ds ys ∧ Z F2 H2 e2 (kk d ds e2) := by
  rcases nvarM a with ⟨i, rfl⟩ | ⟨h2, h4⟩
  · have h : Z F H e (if ((dOf (e.get i)).map (mTy m)).getD false = true then (evL c.G call rb e).bind fun ys e => match dOf (e.get i) with
      | some x => kk x ys e
      | none => .bad else .bad) := h
    cases hd : dOf (e.get i) with
    | none => rw [hd] at h; exact (tp.bad h).elim
    | some d0 =>
      rw [hd] at h
      by_cases hm : mTy m d0 = true
      · have h : Z F H e ((evL c.G call rb e).bind fun ys e => match dOf (e.get i) with
          | some x => kk x ys e
          | none => .bad) := by
          have e1 : ((some d0).map (mTy m)).getD false = true := hm
          rw [if_pos e1] at h
          exact h
        obtain ⟨v, hv, rv⟩ := s.rb hd
        refine ⟨v, hv, ⟨F, d0, s.le, rv, hm⟩, F, e, s, (tbind tp (PL c) h).imp (fun _ _ _ z => z) fun ys H1 ⟨F1, e1, ds, s1, _, f1, z⟩ => ?_⟩
        cases hd2 : dOf (e1.get i) with
        | none => rw [hd2] at z; exact (tp.bad z).elim
        | some d2 =>
          rw [hd2] at z
          obtain ⟨v', hv', rv'⟩ := s1.rb hd2
          rw [hv] at hv'; cases hv'
          exact ⟨F1, e1, d2, ds, s1, rv', f1, z⟩
      · have e1 : ((some d0).map (mTy m)).getD false = false := by simpa using hm
        rw [if_neg (by rw [e1]; exact Bool.false_ne_true)] at h
        exact (tp.bad h).elim
  · rw [h4] at h
    rw [h2]
    refine ⟨F, e, s, (tbind tp (PF c) h).imp (fun _ _ _ z => z) fun x H1 ⟨F1, e1, d0, s1, _, f1, z⟩ => ?_⟩
    by_cases hm : mTy m d0 = true
    · rw [if_pos hm] at z
      refine ⟨⟨F1, d0, s1.le, .inl f1, hm⟩, F1, e1, s1, (tbind tp (PL c) z).imp (fun _ _ _ z => z) fun ys H2 ⟨F2, e2, ds, s2, sm2, f2, z⟩ => ?_⟩
      exact ⟨F2, e2, d0, ds, s2, .inl (f1.mono sm2), f2, z⟩
    · rw [if_neg hm] at z
      exact (tp.bad z).elim
theorem x_index (g : Gd c call k X W M N sc) {a2 : T} {e e2 : Expr} {apos : Pos} (hline : (apos.endLine == pos.line) = true) (hn : noSup e = true) (hs2 : noStar e2 = true) (ha : PE X e (tBw c W call a)) (ha2 : PA X [e2] (tL c W call a2)) :
    PE X (.Call (.Attribute e "index" apos) [e2] [] pos) (tE c W call (.meth .index a a2)) := by
  refine pe_imp (pe_bm PySem.F.plainAttrs_list PySem.F.slot_list_index PySem.F.type_list_index (mt_indexP g.un) ha ha2 (supB hn) (by rw [star_of hs2]; rfl) hline (star_of hs2) rfl) fun σ H Q ⟨F, e, s, h⟩ => ?_
  rw [evE] at h
  refine tBw_mono (brwM_read (TopP.tp _ Q) s h) fun x H1 ⟨⟨F1, d0, sf, rv, hm⟩, h1⟩ => ?_
  cases d0 <;> first | (cases hm; done) | skip
  rename_i l0
  obtain ⟨ad, vs, rfl, g1, f1⟩ := rv.lst sf
  refine ⟨.inl ⟨rfl, vs, SqL.of g1⟩, ?_⟩
  refine tL_mono h1 fun ys H2 ⟨F2, e2, d, ds, s2, rv2, f2, z⟩ => ?_
  cases d <;> first | exact z.elim | skip
  rename_i l
  rcases ds with _ | ⟨y, _ | ⟨y2, r⟩⟩
  · exact z.elim
  · have z : TopP c W σ (PF c) Q F2 H2 e2 (lift (if (plain y && plain (.lst l)) = true then (findI y l 0).map fun k => D.int k else none) e2) := z
    by_cases hp : (plain y && plain (.lst l)) = true
    · rw [if_pos hp] at z
      obtain ⟨hp1, hp2⟩ := Bool.and_eq_true_iff.mp hp
      cases hf : findI y l 0 with
      | none => rw [hf] at z; exact z.elim
      | some k =>
        rw [hf] at z
        obtain ⟨j, w, q1, q2, q3, q4⟩ := FzL.findI y l 0 k hf
        have q1 : k = j := by omega
        subst q1
        unfold FzL at f2
        obtain ⟨v, ws, rfl, fy, fn⟩ := f2
        unfold FzL at fn
        subst fn
        have gK := g.hK
        have d1 := rv2.dp s2.le hp2
        have d2 := Fz.dp s2.le (plN_M hp1) fy
        rw [← gK] at d1 d2
        have pl2 := plain_lst hp2
        have pm := plN_M hp1
        refine ⟨v, toPy y, toPyL l, k, toPy w, rfl, d1, d2, plain_pyL l pl2.1, plain_py y pm, Nat.le_trans (plN_depth hp1) (by decide), by rw [toPyL_map, List.getElem?_map, q2]; rfl, ?_, fun m z' hm hz => ?_, TopP.at z s2 (by unfold Fz; rfl)⟩
        · rw [eqv_py w y (plML_mem pl2.1 w (List.mem_of_getElem? q2)) pm]; exact q3
        · rw [toPyL_map, List.getElem?_map] at hz
          cases hw : l[m]? with
          | none => rw [hw] at hz; cases hz
          | some w' =>
            rw [hw] at hz
            cases hz
            rw [eqv_py w' y (plML_mem pl2.1 w' (List.mem_of_getElem? hw)) pm]
            exact q4 m w' hm hw
    · rw [if_neg hp] at z
      exact z.elim
  · exact z.elim
theorem x_bi1 (g : Gd c call k X W M N sc) {b : BI} {e : Expr} {n : Str} (hn : n = biName b) (hm : (if biM b then M.bfs.contains n else M.bis.contains n && (biB b || biT b)) = true) (hg : glbB sc n = true) (ho : okName n = true) (hc : (M.hot && biCalm b) = false)
    (h1 : noStar e = true) (ha : PE X e (tBw c W call a)) : PE X (.Call (.Name n p) [e] [] pos) (tN c W call (.bi b (.cons a .nil))) := by
  refine x_biG g hn hm hg ho hc (fun y hy => by simp at hy; subst hy; exact h1) (pa_cons ha pa_nil (star_of h1)) (fun σ H Q h => ?_)
  obtain ⟨F, e, s, h⟩ := h
  rw [evE] at h
  refine tBw_mono (brw_read (TopN.tp Q) s h) fun x H1 ⟨F1, e1, d, s1, _, b1, z⟩ => ?_
  cases hq : bfn b [d] with
  | none => rw [hq] at z; exact z.elim
  | some u => rw [hq] at z; exact ⟨F1, [d], u, s1.le, .cons b1 .nil, hq, TopN.ok s1 z⟩
theorem x_bi2 (g : Gd c call k X W M N sc) {b : BI} {a2 : T} {e e2 : Expr} {n : Str} (hn : n = biName b) (hm : (if biM b then M.bfs.contains n else M.bis.contains n && (biB b || biT b)) = true) (hg : glbB sc n = true) (ho : okName n = true) (hc : (M.hot && biCalm b) = false)
    (h1 : noStar e = true) (h2 : noStar e2 = true) (ha : PE X e (tBw c W call a)) (ha2 : PE X e2 (tBw c W call a2)) : PE X (.Call (.Name n p) [e, e2] [] pos) (tN c W call (.bi b (.cons a (.cons a2 .nil)))) := by
  refine x_biG g hn hm hg ho hc (fun y hy => by
    rcases List.mem_cons.mp hy with rfl | hy
    · exact h1
    · simp at hy; subst hy; exact h2) (pa_cons ha (pa_cons ha2 pa_nil (star_of h2)) (star_of h1)) (fun σ H Q h => ?_)
  obtain ⟨F, e, s, h⟩ := h
  rw [evE] at h
  refine tBw_mono (brw2_read (TopN.tp Q) s h) fun x H1 h1 => tBw_mono h1 fun y H2 ⟨F1, e1, d, d2, s1, b1, b2, z⟩ => ?_
  cases hq : bfn b [d, d2] with
  | none => rw [hq] at z; exact z.elim
  | some u => rw [hq] at z; exact ⟨F1, [d, d2], u, s1.le, .cons b1 (.cons b2 .nil), hq, TopN.ok s1 z⟩
end
end MP

namespace MP
open PySem L2 PySem.Spec PyProof.Rows

def setSt : List Nat → List V → L2.St → L2.St
  | [], _, σ => σ
  | i :: r, vs, σ => setSt r vs.tail (σ.set i (some (vs.headD .non)))
theorem setSt_len : ∀ {p : List Nat} {vs : List V} {σ : L2.St}, (setSt p vs σ).length = σ.length
  | [], _, _ => rfl
  | i :: r, vs, σ => by unfold setSt; rw [setSt_len, List.length_set]
def gP (K : PySem.W.Frag) (p : List Nat) (many : Bool) : TG := fun v σ H Q => match many with
  | false => Q (setSt p [v] σ) H
  | true => ∃ a xs, v = .ref a ∧ SqT K H a xs ∧ xs.length = p.length ∧ Q (setSt p xs σ) H
def gSt (p : List Nat) : TGs := fun vs σ H Q => vs.length = p.length ∧ Q (setSt p vs σ) H
section
variable {X : Cx} {N : List Str} {sc : Scope}
theorem pgs_of (hN : X.N = N) (nd : N.Nodup) (hs : X.env.scope = sc) : ∀ {p : List Nat} {es : List Expr}, p.length = es.length → (∀ i x, N[i]? = some x → i ∈ p → L2.Loc sc x → X.fn x = true ∨ sc.names.lookup x = some .local) →
    ((p.zip es).all fun q => (match q.2 with
      | .Name x _ => N[q.1]? == some x && locB sc x
      | _ => false)) = true → PGs X es (gSt p) ∧ (assignEach es X.env).length = p.length ∧ (assignEach es X.env).findIdx? (·.1) = none
  | [], [], _, _, _ => ⟨⟨fun pins s σ H vs us Q I r h => pgs_nil.run pins s σ H vs us Q I r ⟨List.eq_nil_of_length_eq_zero h.1, h.2⟩⟩, rfl, rfl⟩
  | [], _ :: _, h, _, _ => nomatch h
  | _ :: _, [], h, _, _ => nomatch h
  | i :: p, e :: es, hl, hf, h => by
    rw [List.zip_cons_cons, List.all_cons, Bool.and_eq_true] at h
    obtain ⟨h1, h2⟩ := h
    cases e <;> first | (cases h1; done) | skip
    rename_i x pp
    simp only [Bool.and_eq_true, beq_iff_eq] at h1
    have lx := loc_of h1.2
    obtain ⟨ih1, ih2, ih3⟩ := pgs_of hN nd hs (p := p) (es := es) (by simpa using hl) (fun j y hj hm => hf j y hj (List.mem_cons_of_mem _ hm)) h2
    have hx : X.fn x = true ∨ X.env.scope.names.lookup x = some .local := by rw [hs]; exact hf i x h1.1 List.mem_cons_self lx
    refine ⟨⟨fun pins s σ H vs us Q I r h => ?_⟩, ?_, ?_⟩
    · obtain ⟨hlen, q⟩ := h
      cases vs with
      | nil => cases hlen
      | cons v vs =>
        exact (pgs_cons (pg_name (by rw [hN]; exact nd) (by rw [hN]; exact h1.1) (by rw [hs]; exact lx) hx) ih1).run pins s σ H (v :: vs) us Q I r ⟨v, vs, rfl, by simpa using hlen, q⟩
    · show (assignEach es X.env).length + 1 = p.length + 1
      rw [ih2]
    · show (((false, _) :: assignEach es X.env).findIdx? _) = none
      rw [List.findIdx?_cons, ih3]
      rfl
theorem pg_of (hN : X.N = N) (nd : N.Nodup) (hs : X.env.scope = sc) {K : PySem.W.Frag} (hK : X.K = K) (hc : X.calm = true) {p : List Nat} {many : Bool} {e : Expr} (h : patIs N sc p many e = true)
    (hf : ∀ i x, N[i]? = some x → i ∈ p → L2.Loc sc x → X.fn x = true ∨ sc.names.lookup x = some .local) : PG X e (gP K p many) := by
  cases many with
  | false =>
    unfold patIs at h
    dsimp only at h
    split at h
    · rename_i x pp i
      simp only [Bool.and_eq_true, beq_iff_eq] at h
      have lx := loc_of h.2
      have hx : X.fn x = true ∨ X.env.scope.names.lookup x = some .local := by rw [hs]; exact hf i x h.1 List.mem_cons_self lx
      exact pg_name (by rw [hN]; exact nd) (by rw [hN]; exact h.1) (by rw [hs]; exact lx) hx
    · cases h
  | true =>
    unfold patIs at h
    dsimp only at h
    cases e <;> first | (cases h; done) | skip
    rename_i es k pp
    simp only [Bool.and_eq_true, beq_iff_eq] at h
    obtain ⟨h1, h2, h3⟩ := pgs_of hN nd hs h.1 hf h.2
    subst hK
    refine ⟨fun pins s σ H v u Q I r q => (pg_tup hc h1 h2 h3).run pins s σ H v u Q I r ?_⟩
    obtain ⟨a, xs, e1, e2, e3, q⟩ := q
    exact ⟨a, xs, e1, e2, e3, e3, q⟩
end

section
variable {c : Cn} {F F' H H' : Hp} {e e' : Env} {σ σ2 : L2.St}
theorem get_ge {i : Nat} (h : e.length ≤ i) : e.get i = .un := by
  unfold Env.get
  rw [List.getD_eq_getElem?_getD, List.getElem?_eq_none h]
  rfl
theorem get_put' {i j : Nat} {x : Sl} : (e.put i x).get j = if j = i ∧ i < e.length then x else e.get j := by
  by_cases h : i < e.length
  · rw [get_put h]
    by_cases q : j = i <;> simp [q, h]
  · have : e.put i x = e := by unfold Env.put; exact List.set_eq_of_length_le (by omega)
    rw [this, if_neg (by simp [h])]
theorem wipeE_len : ∀ {p : List Nat}, (wipeE p e).length = e.length
  | [] => rfl
  | i :: r => by unfold wipeE; rw [put_length, wipeE_len]
theorem wipeE_get {j : Nat} : ∀ {p : List Nat}, (wipeE p e).get j = if j ∈ p then .un else e.get j
  | [] => by simp [wipeE]
  | i :: r => by
    unfold wipeE
    rw [get_put', wipeE_get]
    by_cases q : j = i
    · subst q
      by_cases h : j < (wipeE r e).length
      · simp [h]
      · rw [wipeE_len] at h
        simp [wipeE_len, h, get_ge (e := e) (i := j) (by omega)]
    · simp [q]
theorem setPat_len : ∀ {p : List Nat} {ds : List D} {e : Env}, (setPat p ds e).length = e.length
  | [], _, _ => rfl
  | i :: r, ds, e => by unfold setPat; rw [setPat_len, put_length]
theorem setPat_get {j : Nat} : ∀ {p : List Nat} {ds : List D} {e : Env}, j ∉ p → (setPat p ds e).get j = e.get j
  | [], _, _, _ => rfl
  | i :: r, ds, e, h => by
    unfold setPat
    rw [setPat_get (fun z => h (List.mem_cons_of_mem _ z)), get_put', if_neg]
    rintro ⟨rfl, _⟩
    exact h List.mem_cons_self
/-- no slot of the target is owned -/
theorem setPat_fz {j : Nat} : ∀ {p : List Nat} {ds : List D} {e : Env}, (j ∈ p ∨ ∀ d, e.get j ≠ .own d) → ∀ d, (setPat p ds e).get j ≠ .own d
  | [], _, _, h => by
    rcases h with h | h
    · simp at h
    · exact h
  | i :: r, ds, e, h => by
    unfold setPat
    refine setPat_fz ?_
    by_cases q : j ∈ r
    · exact .inl q
    · refine .inr fun d => ?_
      rw [get_put']
      by_cases k : j = i ∧ i < e.length
      · rw [if_pos k]; exact fun z => nomatch z
      · rw [if_neg k]
        rcases h with h | h
        · rcases List.mem_cons.mp h with rfl | h
          · rw [get_ge (by simp at k; omega)]; exact fun z => nomatch z
          · exact absurd h q
        · exact h d
theorem rePat_len : ∀ {p : List Nat} {os : List Sl} {e : Env}, (rePat p os e).length = e.length
  | [], _, _ => rfl
  | i :: r, os, e => by unfold rePat; rw [rePat_len, put_length]
theorem rePat_out {j : Nat} : ∀ {p : List Nat} {os : List Sl} {e : Env}, j ∉ p → (rePat p os e).get j = e.get j
  | [], _, _, _ => rfl
  | i :: r, os, e, h => by
    unfold rePat
    rw [rePat_out (fun z => h (List.mem_cons_of_mem _ z)), get_put', if_neg]
    rintro ⟨rfl, _⟩
    exact h List.mem_cons_self
theorem rePat_in {j : Nat} {e0 : Env} : ∀ {p : List Nat} {e : Env}, e.length = e0.length → (j ∈ p ∨ e.get j = e0.get j) → (rePat p (oldPat p e0) e).get j = e0.get j
  | [], e, _, h => by
    rcases h with h | h
    · simp at h
    · exact h
  | i :: r, e, hl, h => by
    unfold rePat oldPat
    refine rePat_in (by rw [put_length]; exact hl) ?_
    by_cases q : j ∈ r
    · exact .inl q
    · refine .inr ?_
      rw [get_put']
      by_cases k : j = i ∧ i < e.length
      · rw [if_pos k]; rw [k.1]; rfl
      · rw [if_neg k]
        rcases h with h | h
        · rcases List.mem_cons.mp h with rfl | h
          · rw [get_ge (by simp at k; omega), get_ge (by simp at k; omega)]
          · exact absurd h q
        · exact h
theorem SR.wipe (s : SR c F H e σ) (p : List Nat) : SR c F H (wipeE p e) (L2.wipe σ p) := by
  refine ⟨s.le, by rw [wipeE_len, wipe_length]; exact s.len, fun j => ?_, fun i j d d' a h1 h2 h3 h4 => ?_⟩
  · rw [wipeE_get]
    by_cases q : j ∈ p
    · rw [if_pos q]; trivial
    · rw [if_neg q, wipe_out q]; exact s.sl j
  · rw [wipeE_get] at h1 h2
    by_cases q : i ∈ p
    · rw [if_pos q] at h1; cases h1
    · by_cases r : j ∈ p
      · rw [if_pos r] at h2; cases h2
      · rw [if_neg q] at h1
        rw [if_neg r] at h2
        rw [wipe_out q] at h3
        rw [wipe_out r] at h4
        exact s.inj i j d d' a h1 h2 h3 h4
theorem FzL.headT {l : List D} {vs : List V} (h : FzL c.K c.ca F l vs) : Fz c.K c.ca F (l.headD .non) (vs.headD .non) ∧ FzL c.K c.ca F l.tail vs.tail := by
  cases l with
  | nil =>
    unfold FzL at h
    subst h
    exact ⟨by unfold Fz; rfl, by unfold FzL; rfl⟩
  | cons d l =>
    unfold FzL at h
    obtain ⟨v, ws, rfl, h1, h2⟩ := h
    exact ⟨h1, h2⟩
/-- a value's slot: an error is not stored so -/
theorem slot_fz {d : D} {v : V} (h : Fz c.K c.ca F d v) : SlotR c F H (.fz d) (some (some v)) := by
  refine ⟨v, rfl, ?_⟩
  cases d <;> first | exact h | (unfold Fz at h; exact h.elim)
theorem sr_pat : ∀ {p : List Nat} {ds : List D} {vs : List V} {e : Env} {σ : L2.St}, SR c F H e σ → FzL c.K c.ca F ds vs → (∀ i ∈ p, i < σ.length) → SR c F H (setPat p ds e) (setSt p vs σ)
  | [], _, _, _, _, s, _, _ => s
  | i :: r, ds, vs, e, σ, s, h, hi => by
    unfold setPat setSt
    have hh := h.headT
    refine sr_pat (s.put (hi i List.mem_cons_self) (slot_fz hh.1) (fun d a z => nomatch z)) hh.2 fun j hj => ?_
    rw [List.length_set]
    exact hi j (List.mem_cons_of_mem _ hj)
theorem setSt_out {j : Nat} : ∀ {p : List Nat} {vs : List V} {σ : L2.St}, j ∉ p → (setSt p vs σ)[j]? = σ[j]?
  | [], _, _, _ => rfl
  | i :: r, vs, σ, h => by
    unfold setSt
    rw [setSt_out (fun z => h (List.mem_cons_of_mem _ z)), List.getElem?_set_ne]
    rintro rfl
    exact h List.mem_cons_self
theorem wipe_congr {σ σ' : L2.St} {p : List Nat} (hl : σ.length = σ'.length) (h : ∀ j, j ∉ p → σ[j]? = σ'[j]?) : L2.wipe σ p = L2.wipe σ' p := by
  refine List.ext_getElem? fun j => ?_
  by_cases q : j ∈ p
  · have key : ∀ (σ : L2.St) (p : List Nat), j ∈ p → (L2.wipe σ p)[j]? = if j < σ.length then some none else none := by
      intro σ p
      induction p with
      | nil => intro h; simp at h
      | cons i r ih =>
        intro h
        unfold L2.wipe
        by_cases k : j = i
        · subst k
          by_cases l : j < σ.length
          · rw [List.getElem?_set_self (by rw [wipe_length]; exact l), if_pos l]
          · rw [List.getElem?_eq_none (by rw [List.length_set, wipe_length]; omega), if_neg l]
        · rw [List.getElem?_set_ne (Ne.symm k)]
          exact ih ((List.mem_cons.mp h).resolve_left k)
    rw [key σ p q, key σ' p q, hl]
  · rw [wipe_out q, wipe_out q]; exact h j q
theorem wipe_setSt {p : List Nat} {vs : List V} {σ : L2.St} : L2.wipe (setSt p vs (L2.wipe σ p)) p = L2.wipe σ p := by
  have h : L2.wipe (setSt p vs (L2.wipe σ p)) p = L2.wipe σ p := wipe_congr (by rw [setSt_len, wipe_length]) fun j hj => by rw [setSt_out hj, wipe_out hj]
  exact h
theorem block_ft {p : List Nat} {ds : List D} {a : Addr} (ho : ∀ j, j ∉ p → σ2[j]? = σ[j]?) (h : Ft (setPat p ds (wipeE p e)) σ2 a) : ∃ j d, j ∉ p ∧ e.get j = .own d ∧ σ[j]? = some (some (V.ref a)) := by
  obtain ⟨j, d, h1, h2⟩ := h
  by_cases q : j ∈ p
  · exact absurd h1 (setPat_fz (.inl q) d)
  · rw [setPat_get q, wipeE_get, if_neg q] at h1
    rw [ho j q] at h2
    exact ⟨j, d, q, h1, h2⟩
theorem block_end {p : List Nat} {ds : List D} (s : SR c F H e σ) (hl : σ2.length = σ.length) (ho : ∀ j, j ∉ p → σ2[j]? = σ[j]?) (s2 : SR c F' H' e' σ2) (x : Ext (Ft (setPat p ds (wipeE p e)) σ2) F H (Ft e' σ2) F' H') :
    SR c F' H' (rePat p (oldPat p e) e') σ ∧ Ext (Ft e σ) F H (Ft (rePat p (oldPat p e) e') σ) F' H' := by
  have hle : e'.length = e.length := by rw [s2.len, hl, s.len]
  have gin : ∀ j, j ∈ p → (rePat p (oldPat p e) e').get j = e.get j := fun j hj => rePat_in hle (.inl hj)
  have gout : ∀ j, j ∉ p → (rePat p (oldPat p e) e').get j = e'.get j := fun j hj => rePat_out hj
  have old : ∀ j d a, j ∈ p → e.get j = .own d → σ[j]? = some (some (V.ref a)) → ¬ Ft (setPat p ds (wipeE p e)) σ2 a := fun j d a hj h1 h2 z => by
    obtain ⟨i, d', hi, h3, h4⟩ := block_ft ho z
    have := s.inj j i d d' a h1 h3 h2 h4
    subst this
    exact hi hj
  have mix : ∀ i j d d' a, i ∈ p → j ∉ p → e.get i = .own d → e'.get j = .own d' → σ[i]? = some (some (V.ref a)) → σ[j]? = some (some (V.ref a)) → False := fun i j d d' a hi hj h1 h2 h3 h4 => by
    have fa : Ft e' σ2 a := ⟨j, d', h2, by rw [ho j hj]; exact h4⟩
    have fe : Ft e σ a := ⟨i, d, h1, h3⟩
    obtain ⟨b, o, k1, _, k3, _⟩ := s.own h1
    rw [h3] at k1; cases k1
    rcases x.new a (.inr fa) with z | z | z
    · exact z (s.ft a fe)
    · exact old i d a hi h1 h3 z
    · rw [k3] at z; cases z
  refine ⟨⟨s2.le, by rw [rePat_len, hle]; exact s.len, fun j => ?_, fun i j d d' a h1 h2 h3 h4 => ?_⟩, x.ff, fun a o ha n => ?_, fun a z => ?_⟩
  · by_cases q : j ∈ p
    · rw [gin j q]
      have sl := s.sl j
      cases hj : e.get j with
      | un => trivial
      | fz d =>
        rw [hj] at sl
        obtain ⟨v, h1, h2⟩ := sl
        refine ⟨v, h1, ?_⟩
        cases d <;> first | exact c.erm _ _ _ _ _ x.ff h2 | exact Fz.mono x.ff h2
      | own d =>
        rw [hj] at sl
        obtain ⟨a, o, h1, h2, h3, h4⟩ := sl
        have nf := old j d a q hj h1
        refine ⟨a, o, h1, ?_, x.keep a o h3 nf, h4.mono x.ff⟩
        cases hf : F' a with
        | none => rfl
        | some u =>
          exfalso
          rcases x.new a (.inl (by rw [hf]; exact fun z => nomatch z)) with z | z | z
          · exact z h2
          · exact nf z
          · rw [h3] at z; cases z
    · rw [gout j q, ← ho j q]; exact s2.sl j
  · by_cases q : i ∈ p
    · by_cases r : j ∈ p
      · rw [gin i q] at h1
        rw [gin j r] at h2
        exact s.inj i j d d' a h1 h2 h3 h4
      · rw [gin i q] at h1
        rw [gout j r] at h2
        exact (mix i j d d' a q r h1 h2 h3 h4).elim
    · by_cases r : j ∈ p
      · rw [gout i q] at h1
        rw [gin j r] at h2
        exact (mix j i d' d a r q h2 h1 h4 h3).elim
      · rw [gout i q] at h1
        rw [gout j r] at h2
        exact s2.inj i j d d' a h1 h2 (by rw [ho i q]; exact h3) (by rw [ho j r]; exact h4)
  · refine x.keep a o ha fun z => n ?_
    obtain ⟨j, d, _, h1, h2⟩ := block_ft ho z
    exact ⟨j, d, h1, h2⟩
  · have back : (F a ≠ none ∨ Ft (setPat p ds (wipeE p e)) σ2 a ∨ H a = none) → F a ≠ none ∨ Ft e σ a ∨ H a = none := fun z => by
      rcases z with z | z | z
      · exact .inl z
      · obtain ⟨j, d, _, h1, h2⟩ := block_ft ho z
        exact .inr (.inl ⟨j, d, h1, h2⟩)
      · exact .inr (.inr z)
    rcases z with z | ⟨j, d, h1, h2⟩
    · exact back (x.new a (.inl z))
    · by_cases q : j ∈ p
      · rw [gin j q] at h1
        exact .inr (.inl ⟨j, d, h1, h2⟩)
      · rw [gout j q] at h1
        exact back (x.new a (.inr ⟨j, d, h1, by rw [ho j q]; exact h2⟩))
end

/-- what is walked -/
def ItR (c : Cn) (F : Hp) (items : List D) (J : It) : Prop := (∃ a vs, J = Itl c.K a ∧ SqL c.K F a vs ∧ FzL c.K c.ca F items vs) ∨ (∃ a vs, J = Itt c.K a ∧ SqT c.K F a vs ∧ FzL c.K c.ca F items vs) ∨ ∃ lo n, J = Itr lo n ∧ items = ranged lo n
def tI (c : Cn) (W : WX) (call : Nat → List D → CRes) (t : T) : TI := fun σ H R => ∃ F e, SR c F H e σ ∧ TopP c W σ (fun F items J => ItR c F items J) R F H e (evI c.G call t e)
section
variable {c : Cn} {F F' H H' : Hp}
theorem FzL.getV {l : List D} {vs : List V} {i : Nat} {x : V} (h : FzL c.K c.ca F l vs) (e : vs[i]? = some x) : ∃ d, l[i]? = some d ∧ Fz c.K c.ca F d x := by
  induction l generalizing vs i with
  | nil => unfold FzL at h; subst h; simp at e
  | cons d l ih =>
    unfold FzL at h
    obtain ⟨v, ws, rfl, h1, h2⟩ := h
    cases i with
    | zero => simp at e; subst e; exact ⟨d, rfl, h1⟩
    | succ i => exact ih h2 (by simpa using e)
theorem lc_any {items : List D} {J : It} (hJ : ItR c F items J) {g : TG} {tt : TT} {te : TE} {vs : List Nat} {σ : L2.St} {H1 : Hp} {A : Addr} {Qd : Hp → Prop} (Pv : Nat → Hp → Prop) (h0 : Pv 0 (upd H1 A (.lst []))) (hl : ∀ i H, Pv i H → Same F H)
    (hs : ∀ i d x H, items[i]? = some d → Fz c.K c.ca F d x → Pv i H → g x (wipe σ vs) H fun σ2 H2 => wipe σ2 vs = wipe σ vs ∧ tt σ2 H2 fun b H3 =>
      if b = true then te σ2 H3 fun y H4 => ∃ acc, H4 A = some (.lst acc) ∧ acc.length < sizeLine ∧ Pv (i + 1) (upd H4 A (.lst (acc ++ [y]))) else Pv (i + 1) H3) (hd : ∀ H, Pv items.length H → Qd H) :
    ∃ W : Nat → Nat → Hp → Prop, (∃ m, W 0 m (upd H1 A (.lst []))) ∧ ∀ i m H, W i m H →
      (J.stop i H ∧ Qd H) ∨ (J.go i H ∧ ∃ Nx : Hp → Prop, (∀ H', Nx H' → ∃ m', m' < m ∧ W (i + 1) m' H') ∧ ∀ x H', J.yld i H x H' → g x (wipe σ vs) H' fun σ2 H2 => wipe σ2 vs = wipe σ vs ∧ tt σ2 H2 fun b H3 =>
        if b = true then te σ2 H3 fun y H4 => ∃ acc, H4 A = some (.lst acc) ∧ acc.length < sizeLine ∧ Nx (upd H4 A (.lst (acc ++ [y]))) else Nx H3) := by
  rcases hJ with ⟨a, xs, rfl, hq, hf⟩ | ⟨a, xs, rfl, hq, hf⟩ | ⟨lo, n, rfl, rfl⟩
  · exact lc_list Pv h0 (fun i H _ p => Same.seq (hl i H p) hq) (fun i x H e p => by
      obtain ⟨d, h1, h2⟩ := hf.getV e
      exact hs i d x H h1 h2 p) fun H p => hd H (by rw [← hf.len]; exact p)
  · exact lc_tup Pv h0 (fun i H _ p => same_tup (hl i H p) hq) (fun i x H e p => by
      obtain ⟨d, h1, h2⟩ := hf.getV e
      exact hs i d x H h1 h2 p) fun H p => hd H (by rw [← hf.len]; exact p)
  · refine lc_range Pv h0 (fun i H hi p => hs i (.int (lo + i)) _ H (by unfold ranged; simp [hi]) (by unfold Fz; rfl) p) fun H p => hd H ?_
    have : (ranged lo n).length = n := by unfold ranged; simp
    rw [this]; exact p
end
abbrev noW : WX := fun _ _ _ _ => False
section
variable {c : Cn} {call : Nat → List D → CRes} {k : Nat} {X : Cx} {W : WX} {M : Nm} {N : List Str} {sc : Scope} {it ct el : T}
theorem pat_len {p : List Nat} {many : Bool} {d : D} {ds : List D} (h : patItems p many d = some ds) (hp : many = false → p.length = 1) : ds.length = p.length := by
  unfold patItems at h
  cases many with
  | false => simp at h; subst h; rw [hp rfl]; rfl
  | true =>
    rw [if_pos rfl] at h
    cases d <;> first | (cases h; done) | skip
    rename_i l
    dsimp only at h
    split at h
    · rename_i q; cases h; exact q
    · cases h
/-- the target takes an item -/
theorem gP_of {F H : Hp} {p : List Nat} {many : Bool} {d : D} {ds : List D} {x : V} {σ : L2.St} {Q : L2.St → Hp → Prop} (sf : Same F H) (h : patItems p many d = some ds) (fx : Fz c.K c.ca F d x) (q : ∀ vs, FzL c.K c.ca F ds vs → Q (setSt p vs σ) H) : gP c.K p many x σ H Q := by
  unfold patItems at h
  cases many with
  | false =>
    simp at h; subst h
    exact q [x] (by unfold FzL; exact ⟨x, [], rfl, fx, by unfold FzL; rfl⟩)
  | true =>
    rw [if_pos rfl] at h
    cases d <;> first | (cases h; done) | skip
    rename_i l
    dsimp only at h
    split at h
    · rename_i hl
      cases h
      unfold Fz at fx
      obtain ⟨a, vs, rfl, h1, h2⟩ := fx
      exact ⟨a, vs, rfl, same_tup sf h1, by rw [h2.len]; exact hl, q vs h2⟩
    · cases h
theorem x_comp {p : List Nat} {many : Bool} {elt tg iter : Expr} {ifs : List Expr} {scope : Scope} {own : List (Str × Nat)} {pos : Pos} (hc : X.calm = true) (hN : X.N.Nodup) (hvs : own.map (·.2) = p) (hi : PI X tg iter (tI c W call it)) (ok : BlkOk X.N X.env.scope scope own)
    (hg : ∀ (s : Shared) (H : Hp) (C : Addr) (cl : List (Str × Addr)) (fp : List Addr), PG (X.blk s H scope (compEnvC scope cl C X.env) fp) tg (gP c.K p many)) (ht : ∀ (s : Shared) (H : Hp) (C : Addr) (cl : List (Str × Addr)) (fp : List Addr), PTs (X.blk s H scope (compEnvC scope cl C X.env) fp) ifs (tCn c noW call ct))
    (he : ∀ (s : Shared) (H : Hp) (C : Addr) (cl : List (Str × Addr)) (fp : List Addr), PE (X.blk s H scope (compEnvC scope cl C X.env) fp) elt (tE c noW call el)) (hs : ∀ x, foldedSetIterable iter X.env x = pure x) (hpl : ∀ i ∈ p, i < X.N.length) :
    (∀ σ H Q, tN c W call (.comp p many it ct el) σ H Q → σ.length = X.N.length → tLc (tI c W call it) (gP c.K p many) (tCn c noW call ct) (tE c noW call el) p σ H Q) ∧ PE X (.ListComp elt [⟨tg, iter, ifs, 0⟩] scope pos) (tN c W call (.comp p many it ct el)) := by
  subst hvs
  have main : ∀ σ H Q, tN c W call (.comp (own.map (·.2)) many it ct el) σ H Q → σ.length = X.N.length → tLc (tI c W call it) (gP c.K (own.map (·.2)) many) (tCn c noW call ct) (tE c noW call el) (own.map (·.2)) σ H Q := by
    intro σ H Q ⟨F, e, s, h⟩ hσ
    rw [evE] at h
    generalize own.map (·.2) = p at h hpl ⊢
    refine ⟨F, e, s, (tbind (TopN.tp Q) (fun F items J => ItR c F items J) h).imp (fun _ _ _ z => z) fun J H1 ⟨F1, e1, items, s1, _, hJ, z⟩ A hA => ?_⟩
    by_cases hlen : items.length ≤ lim
    · rw [if_pos hlen] at z
      have lift : ∀ {F2 H2 F3 H3 : Hp} {e2 e3 : Env} {acc : List V}, SR c F2 H2 e2 σ → Same F1 F2 → H2 A = some (.lst acc) → F2 A = none → ¬ Ft e2 σ A → Ext (Ft e1 σ) F1 H1 (fun b => Ft e2 σ b ∨ b = A) F2 H2 →
          SR c F3 H3 e3 σ → Ext (Ft e2 σ) F2 H2 (Ft e3 σ) F3 H3 → Same F1 F3 ∧ H3 A = some (.lst acc) ∧ F3 A = none ∧ ¬ Ft e3 σ A ∧ Ext (Ft e1 σ) F1 H1 (fun b => Ft e3 σ b ∨ b = A) F3 H3 := by
        intro F2 H2 F3 H3 e2 e3 acc s2 sm h1 h2 h3 x s3 y
        have k1 := y.keep A _ h1 h3
        have nn : ¬ (F2 A ≠ none ∨ Ft e2 σ A ∨ H2 A = none) := by
          rintro (z | z | z)
          · exact z h2
          · exact h3 z
          · rw [h1] at z; cases z
        have k2 : F3 A = none := by
          cases q : F3 A with
          | none => rfl
          | some u => exact absurd (y.new A (.inl (by rw [q]; exact fun z => nomatch z))) nn
        have k3 : ¬ Ft e3 σ A := fun z => nn (y.new A (.inr z))
        refine ⟨Same.trans sm y.ff, k1, k2, k3, ?_⟩
        have y' : Ext (fun b => Ft e2 σ b ∨ b = A) F2 H2 (fun b => Ft e3 σ b ∨ b = A) F3 H3 := ⟨y.ff, fun b o hb n => y.keep b o hb fun z => n (.inl z), fun b z => by
          rcases z with z | z | z
          · exact (y.new b (.inl z)).imp_right fun z => z.imp_left .inl
          · exact (y.new b (.inr z)).imp_right fun z => z.imp_left .inl
          · exact .inr (.inl (.inr z))⟩
        exact x.trans (fun a z => by
          rcases z with z | z
          · exact s2.ft a z
          · rw [z]; exact h2) y'
      obtain ⟨sN, xN⟩ := s1.newO hA (.lst [])
      obtain ⟨nA, nF⟩ := s1.nofr hA
      refine lc_any hJ (fun i Hc => ∃ F2 e2 acc accD, i ≤ items.length ∧ SR c F2 Hc e2 σ ∧ Same F1 F2 ∧ Hc A = some (.lst acc) ∧ F2 A = none ∧ ¬ Ft e2 σ A ∧ FzL c.K c.ca F2 accD acc ∧ accD.length ≤ i ∧
          Ext (Ft e1 σ) F1 H1 (fun b => Ft e2 σ b ∨ b = A) F2 Hc ∧ TopN c W σ Q F1 H1 e1 ((loopC p many (fun e => (evC c.G call ct e).bind fun k e => if k = true then (evE c.G call el e).bind fun v e => .ok (some v) e else .ok none e) (items.drop i) accD e2).bind fun ds e => .ok (.lst ds) e))
        ⟨F1, e1, [], [], Nat.zero_le _, sN, Same.refl F1, upd_same, nA, nF, by unfold FzL; rfl, Nat.le_refl _, xN, z⟩ (fun i H' ⟨F2, e2, acc, accD, _, s2, sm, _⟩ => Same.trans sm s2.le) (fun i d x Hc hd fx ⟨F2, e2, acc, accD, hi, s2, sm, a1, a2, a3, a4, a5, a6, zz⟩ => ?_) fun Hc ⟨F2, e2, acc, accD, hi, s2, sm, a1, a2, a3, a4, a5, a6, zz⟩ => ?_
      · have hlt : i < items.length := (List.getElem?_eq_some_iff.mp hd).1
        have hdr : items.drop i = d :: items.drop (i + 1) := by
          rw [List.drop_eq_getElem_cons hlt, (List.getElem?_eq_some_iff.mp hd).2]
        rw [hdr, loopC] at zz
        cases hp : patItems p many d with
        | none => rw [hp] at zz; exact zz.elim
        | some ds =>
          rw [hp] at zz
          dsimp only at zz
          refine gP_of s2.le hp (fx.mono sm) fun vs fvs => ⟨wipe_setSt, ?_⟩
          have sW : SR c F2 Hc (setPat p ds (wipeE p e2)) (setSt p vs (wipe σ p)) := sr_pat (s2.wipe p) fvs fun j hj => by rw [wipe_length, hσ]; exact hpl j hj
          have hout : ∀ j, j ∉ p → (setSt p vs (wipe σ p))[j]? = σ[j]? := fun j hj => by rw [setSt_out hj, wipe_out hj]
          have hlen2 : (setSt p vs (wipe σ p)).length = σ.length := by rw [setSt_len, wipe_length]
          generalize setSt p vs (wipe σ p) = σ2 at sW hout hlen2
          refine ⟨F2, _, sW, ?_⟩
          cases hC : evC c.G call ct (setPat p ds (wipeE p e2)) with
          | bad => rw [hC] at zz; exact zz.elim
          | exc y e3 => rw [hC] at zz; exact zz.elim
          | ok b e3 =>
            rw [hC] at zz
            intro F3 H3 b' s3 x3 hb
            cases hb
            cases b with
            | false =>
              rw [if_neg Bool.false_ne_true]
              have zz : TopN c W σ Q F1 H1 e1 ((loopC p many _ (items.drop (i + 1)) accD (rePat p (oldPat p e2) e3)).bind fun ds e => .ok (.lst ds) e) := zz
              obtain ⟨s4, x4⟩ := block_end s2 hlen2 hout s3 x3
              obtain ⟨l1, l2, l3, l4, l5⟩ := lift s2 sm a1 a2 a3 a6 s4 x4
              exact ⟨F3, _, acc, accD, hlt, s4, l1, l2, l3, l4, a4.mono x4.ff, Nat.le_succ_of_le a5, l5, zz⟩
            | true =>
              rw [if_pos rfl]
              refine ⟨F3, e3, s3, ?_⟩
              have zz : TopN c W σ Q F1 H1 e1 ((match ((evE c.G call el e3).bind fun v e => Res.ok (some v) e : Res (Option D)) with
                | .ok (some v) e' => loopC p many (fun e => (evC c.G call ct e).bind fun k e => if k = true then (evE c.G call el e).bind fun v e => .ok (some v) e else .ok none e) (items.drop (i + 1)) (accD ++ [v]) (rePat p (oldPat p e2) e')
                | .ok none e' => loopC p many (fun e => (evC c.G call ct e).bind fun k e => if k = true then (evE c.G call el e).bind fun v e => .ok (some v) e else .ok none e) (items.drop (i + 1)) accD (rePat p (oldPat p e2) e')
                | .exc _ _ => .bad
                | .bad => .bad).bind fun ds e => .ok (.lst ds) e) := zz
              cases hE : evE c.G call el e3 with
              | bad => rw [hE] at zz; exact zz.elim
              | exc y e4 => rw [hE] at zz; exact zz.elim
              | ok v e4 =>
                rw [hE] at zz
                have zz : TopN c W σ Q F1 H1 e1 ((loopC p many _ (items.drop (i + 1)) (accD ++ [v]) (rePat p (oldPat p e2) e4)).bind fun ds e => .ok (.lst ds) e) := zz
                intro F4 H4 y s4 x4 fy
                obtain ⟨s5, x5⟩ := block_end s2 hlen2 hout s4 (x3.trans s3.ft x4)
                obtain ⟨l1, l2, l3, l4, l5⟩ := lift s2 sm a1 a2 a3 a6 s5 x5
                have hz : acc.length < sizeLine := by
                  have := a4.len
                  have h2 : lim = sizeLine := rfl
                  omega
                have s6 : SR c F4 (upd H4 A (.lst (acc ++ [y]))) (rePat p (oldPat p e2) e4) σ := s5.ext (Same.refl F4) (Same.updH s5.le l3) fun a ha => by
                  have ne : a ≠ A := fun z => l4 (z ▸ ha)
                  exact ⟨s5.ft a ha, fun o ho => by rw [upd_ne ne]; exact ho⟩
                refine ⟨acc, l2, hz, F4, _, acc ++ [y], accD ++ [v], hlt, s6, l1, upd_same, l3, l4, FzL.append (a4.mono x5.ff) (by unfold FzL; exact ⟨y, [], rfl, fy, by unfold FzL; rfl⟩), by rw [List.length_append]; simp; omega, ⟨l5.ff, fun b o hb n => ?_, l5.new⟩, zz⟩
                rw [upd_ne (show b ≠ A from fun z => by rw [z, hA] at hb; cases hb)]
                exact l5.keep b o hb n
      · rw [List.drop_length, loopC] at zz
        have zz : TopN c W σ Q F1 H1 e1 (.ok (.lst accD) e2) := zz
        refine zz F2 Hc (.ref A) s2 ?_
        unfold NewR
        rw [if_pos (show (D.lst accD).isMut = true from rfl)]
        exact ⟨A, .lst acc, rfl, a2, a1, a4, a3, a6⟩
    · rw [if_neg hlen] at z; exact z.elim
  exact ⟨main, ⟨fun pins s σ H Q I h => (pe_lc hc hN hi ok hg ht he hs).run pins s σ H Q I (main σ H Q h (I.len))⟩⟩
end
end MP

namespace MP
open PySem L2 PySem.Spec PyProof.Rows

section
variable {c : Cn} {call : Nat → List D → CRes} {k : Nat} {X : Cx} {W : WX} {M : Nm} {N : List Str} {sc : Scope} {a b : T} {x y : Expr} {pos p apos : Pos} {i : Nat}
theorem isOL_of {s : Sl} (h : isOL s = true) : ∃ l, s = .own (.lst l) := by
  cases s <;> first | (cases h; done) | skip
  rename_i d
  cases d <;> first | (cases h; done) | exact ⟨_, rfl⟩
theorem own_list {F H : Hp} {e : Env} {σ : L2.St} {l : List D} (s : SR c F H e σ) (h : e.get i = .own (.lst l)) : ∃ a vs, σ[i]? = some (some (.ref a)) ∧ H a = some (.lst vs) ∧ FzL c.K c.ca F l vs := by
  obtain ⟨a, o, h1, h2, h3, h4⟩ := s.own h
  cases o <;> first | exact ⟨a, _, h1, h3, h4⟩ | exact h4.elim
theorem FzL.lastV {F : Hp} {l : List D} {vs : List V} {d : D} (h : FzL c.K c.ca F l vs) (e : l.getLast? = some d) : ∃ v, vs[vs.length - 1]? = some v ∧ Fz c.K c.ca F d v := by
  rw [List.getLast?_eq_getElem?] at e
  have := h.len
  have hl : l.length - 1 < l.length := (List.getElem?_eq_some_iff.mp e).1
  have hv : vs[l.length - 1]? = some (vs[l.length - 1]'(by omega)) := List.getElem?_eq_getElem _
  obtain ⟨d', h1, h2⟩ := h.getV hv
  rw [e] at h1; cases h1
  exact ⟨_, (by rw [show vs.length - 1 = l.length - 1 by omega]; exact hv), h2⟩
theorem FzL.dropLastV {F : Hp} {l : List D} {vs : List V} (h : FzL c.K c.ca F l vs) : FzL c.K c.ca F l.dropLast vs.dropLast := by
  rw [List.dropLast_eq_take, List.dropLast_eq_take, h.len]
  exact FzL.take _ h
theorem x_pop0 (hv : PE X x (tVar i)) (hline : (apos.endLine == pos.line) = true) (hb : attributeBase x "pop" X.env (eval x X.env) = eval x X.env) : PE X (.Call (.Attribute x "pop" apos) [] [] pos) (tE c W call (.pop i .nil)) := by
  refine pe_imp (pe_bm0 PySem.F.plainAttrs_list PySem.F.slot_list_pop PySem.F.type_list_pop mt_pop hv hb hline) fun σ H Q ⟨F, e, s, h⟩ => ?_
  rw [evE] at h
  by_cases ho : isOL (e.get i) = true
  · rw [if_pos ho] at h
    obtain ⟨l, hl⟩ := isOL_of ho
    rw [hl] at h
    obtain ⟨ad, vs, h1, h2, h3⟩ := own_list s hl
    dsimp only at h
    cases hq : l.getLast? with
    | none => rw [hq] at h; exact h.elim
    | some d =>
      rw [hq] at h
      obtain ⟨v, hv1, hv2⟩ := h3.lastV hq
      refine ⟨.ref ad, h1, .inl ⟨rfl, vs, SqL.of h2⟩, ad, vs, v, rfl, rfl, h2, hv1, ?_⟩
      obtain ⟨s1, x1⟩ := s.change (d' := .lst l.dropLast) (x' := .lst vs.dropLast) hl h1 h3.dropLastV
      exact h _ _ v s1 x1 hv2
  · rw [if_neg ho] at h; exact h.elim
theorem FzL.eraseV {F : Hp} {l : List D} {vs : List V} (h : FzL c.K c.ca F l vs) (j : Nat) : FzL c.K c.ca F (l.eraseIdx j) (vs.eraseIdx j) := FzL.erase j h
theorem x_popi (hnil : a ≠ .nil) (hv : PE X x (tVar i)) (hn : noStar y = true) (ha : PE X y (tE c W call a)) (hline : (apos.endLine == pos.line) = true) (hb : attributeBase x "pop" X.env (eval x X.env) = eval x X.env) :
    PE X (.Call (.Attribute x "pop" apos) [y] [] pos) (tE c W call (.pop i a)) := by
  refine pe_imp (pe_bm PySem.F.plainAttrs_list PySem.F.slot_list_pop PySem.F.type_list_pop mt_popAt hv (pa_cons ha pa_nil (star_of hn)) hb (by rw [star_of hn]; rfl) hline (star_of hn) rfl) fun σ H Q ⟨F, e, s, h⟩ => ?_
  have hev : evE c.G call (.pop i a) e = if isOL (e.get i) = true then ((evE c.G call a e).bind fun k e => (match k with
      | .int k => (match e.get i with
        | .own (.lst l) => if l.length ≤ lim then (match ixN l.length k with
          | some j => (match l[j]? with | some d => .ok d (e.put i (.own (.lst (l.eraseIdx j)))) | none => .bad)
          | none => .bad) else .bad
        | _ => .bad)
      | _ => .bad)) else .bad := by
    cases a <;> first | exact absurd rfl hnil | rfl
  rw [hev] at h
  by_cases ho : isOL (e.get i) = true
  · rw [if_pos ho] at h
    obtain ⟨l0, hl0⟩ := isOL_of ho
    obtain ⟨ad, vs0, h1, h2, h3⟩ := own_list s hl0
    refine ⟨.ref ad, h1, .inl ⟨rfl, vs0, SqL.of h2⟩, F, e, s, (tbind (TopP.tp _ Q) (PF c) h).imp (fun _ _ _ z => z) fun v H1 ⟨F1, e1, u, s1, _, f1, z⟩ => ?_⟩
    cases u <;> first | exact z.elim | skip
    rename_i n
    have ev : v = .int n := by unfold Fz at f1; exact f1
    subst ev
    have z : TopP c W σ (PF c) Q F1 H1 e1 (match e1.get i with
      | .own (.lst l) => if l.length ≤ lim then (match ixN l.length n with
        | some j => (match l[j]? with | some d => .ok d (e1.put i (.own (.lst (l.eraseIdx j)))) | none => .bad)
        | none => .bad) else .bad
      | _ => .bad) := z
    cases hs : e1.get i with
    | un => rw [hs] at z; exact z.elim
    | fz d => rw [hs] at z; exact z.elim
    | own d =>
      rw [hs] at z
      cases d <;> first | exact z.elim | skip
      rename_i l
      have z : TopP c W σ (PF c) Q F1 H1 e1 (if l.length ≤ lim then (match ixN l.length n with
        | some j => (match l[j]? with | some d => .ok d (e1.put i (.own (.lst (l.eraseIdx j)))) | none => .bad)
        | none => .bad) else .bad) := z
      by_cases hll : l.length ≤ lim
      · rw [if_pos hll] at z
        cases hx : ixN l.length n with
        | none => rw [hx] at z; exact z.elim
        | some j =>
          rw [hx] at z
          have z : TopP c W σ (PF c) Q F1 H1 e1 (match l[j]? with | some d => .ok d (e1.put i (.own (.lst (l.eraseIdx j)))) | none => .bad) := z
          cases hd : l[j]? with
          | none => rw [hd] at z; exact z.elim
          | some d =>
            rw [hd] at z
            obtain ⟨ad2, vs, g1, g2, g3⟩ := own_list s1 hs
            rw [h1] at g1; cases g1
            obtain ⟨q1, q2, q3, q4⟩ := ixN_seq hx
            have hlen := g3.len
            have hjv : vs[j]? = some (vs[j]'(by omega)) := List.getElem?_eq_getElem _
            obtain ⟨d', k1, k2⟩ := g3.getV hjv
            rw [hd] at k1; cases k1
            have hlim : lim = 16777216 := rfl
            refine ⟨ad, vs, n, j, _, rfl, rfl, g2, by omega, by omega, by rw [hlen]; exact q1, hjv, ?_⟩
            obtain ⟨s2, x2⟩ := s1.change (d' := .lst (l.eraseIdx j)) (x' := .lst (vs.eraseIdx j)) hs h1 (g3.eraseV j)
            exact z _ _ _ s2 x2 k2
      · rw [if_neg hll] at z; exact z.elim
  · rw [if_neg ho] at h; exact h.elim

theorem fzl_ints {F : Hp} : ∀ l : List Int, FzL c.K c.ca F (l.map D.int) (l.map V.int)
  | [] => by unfold FzL; rfl
  | i :: l => by
    rw [List.map_cons, List.map_cons]
    unfold FzL
    exact ⟨_, _, rfl, by unfold Fz; rfl, fzl_ints l⟩
theorem i_itv {tg : Expr} (hK : X.K = c.K) (ha : PE X x (tE c W call a)) : PI X tg x (tI c W call (.itv a)) := by
  refine ⟨fun pins s σ H R I ⟨F, e, sr, h⟩ => ?_⟩
  rw [evI] at h
  have z := tbind (TopP.tp _ R) (PF c) h
  cases hq : evE c.G call a e with
  | bad => rw [hq] at z; exact z.elim
  | exc y e' =>
    rw [hq] at z
    exact (pi_list ha).run pins s σ H R I ⟨F, e, sr, by rw [hq]; exact z⟩
  | ok u e' =>
    rw [hq] at h
    have h : TopP c W σ (fun F items J => ItR c F items J) R F H e (lift (itemsOf u) e') := h
    cases u <;> first | exact h.elim | skip
    · rename_i l _
      refine (pi_list ha).run pins s σ H R I ⟨F, e, sr, ?_⟩
      rw [hq]
      intro F' H' v s' x' f'
      have f0 : Fz c.K c.ca F' (.lst l) v := f'
      unfold Fz at f0
      obtain ⟨ad, vs, rfl, h1, h2⟩ := f0
      rw [hK]
      exact ⟨ad, rfl, ⟨vs, SqL.of (s'.le _ _ h1)⟩, h F' H' _ s' x' (.inl ⟨ad, vs, rfl, SqL.of h1, h2⟩)⟩
    · rename_i l _
      refine (pi_tup ha).run pins s σ H R I ⟨F, e, sr, ?_⟩
      rw [hq]
      intro F' H' v s' x' f'
      have f0 : Fz c.K c.ca F' (.tup l) v := f'
      unfold Fz at f0
      obtain ⟨ad, vs, rfl, h1, h2⟩ := f0
      rw [hK]
      exact ⟨ad, rfl, ⟨vs, same_tup s'.le h1⟩, h F' H' _ s' x' (.inr (.inl ⟨ad, vs, rfl, h1, h2⟩))⟩
    · rename_i l _
      refine (pi_list ha).run pins s σ H R I ⟨F, e, sr, ?_⟩
      rw [hq]
      intro F' H' v s' x' f'
      have f0 : Fz c.K c.ca F' (.scr l) v := f'
      unfold Fz at f0
      obtain ⟨ad, rfl, h1⟩ := f0
      rw [hK]
      refine ⟨ad, rfl, ⟨_, Same.seq s'.le h1⟩, h F' H' _ s' x' (.inl ⟨ad, _, rfl, h1, ?_⟩)⟩
      exact fzl_ints l
theorem i_range1 {tg : Expr} (hg : Gl X "range") (hm : X.mg "range" = none) (hn : noStar x = true) (ha : PE X x (tE c W call a)) : PI X tg (.Call (.Name "range" p) [x] [] pos) (tI c W call (.bi .range1 (.cons a .nil))) := by
  refine ⟨fun pins s σ H R I ⟨F, e, sr, h⟩ => (pi_range1 hg hm (pa_cons ha pa_nil (star_of hn)) (star_of hn)).run pins s σ H R I ?_⟩
  rw [evI] at h
  refine ⟨F, e, sr, (tbind (TopP.tp _ R) (PF c) h).imp (fun _ _ _ z => z) fun v H1 ⟨F1, e1, u, s1, _, f1, z⟩ => ?_⟩
  cases u <;> first | exact z.elim | skip
  rename_i j
  have ev : v = .int j := by unfold Fz at f1; exact f1
  subst ev
  have z : TopP c W σ (fun F items J => ItR c F items J) R F1 H1 e1 (if -4611686018427387904 ≤ j ∧ j < 4611686018427387904 then .ok (ranged 0 j.toNat) e1 else .bad) := z
  by_cases hj : -4611686018427387904 ≤ j ∧ j < 4611686018427387904
  · rw [if_pos hj] at z
    exact ⟨j, rfl, by omega, by omega, TopP.at z s1 (.inr (.inr ⟨0, j.toNat, rfl, rfl⟩))⟩
  · rw [if_neg hj] at z; exact z.elim
theorem i_range2 {tg : Expr} (hg : Gl X "range") (hm : X.mg "range" = none) (hn : noStar x = true) (hn2 : noStar y = true) (ha : PE X x (tE c W call a)) (hb : PE X y (tE c W call b)) : PI X tg (.Call (.Name "range" p) [x, y] [] pos) (tI c W call (.bi .range2 (.cons a (.cons b .nil)))) := by
  refine ⟨fun pins s σ H R I ⟨F, e, sr, h⟩ => (pi_range2 hg hm (pa_cons ha (pa_cons hb pa_nil (star_of hn2)) (star_of hn)) (by rw [star_of hn, star_of hn2]; rfl) (star_of hn2)).run pins s σ H R I ?_⟩
  rw [evI] at h
  refine ⟨F, e, sr, (tbind (TopP.tp _ R) (PF c) h).imp (fun _ _ _ z => z) fun v H1 ⟨F1, e1, u, s1, _, f1, z⟩ => ?_⟩
  refine ⟨F1, e1, s1, (tbind (TopP.tp _ R) (PF c) z).imp (fun _ _ _ z => z) fun v2 H2 ⟨F2, e2, u2, s2, _, f2, z⟩ => ?_⟩
  cases u <;> first | exact z.elim | skip
  rename_i m _ _
  cases u2 <;> first | exact z.elim | skip
  rename_i j
  have ev : v = .int m := by unfold Fz at f1; exact f1
  have ev2 : v2 = .int j := by unfold Fz at f2; exact f2
  subst ev ev2
  have z : TopP c W σ (fun F items J => ItR c F items J) R F2 H2 e2 (if (-4611686018427387904 ≤ m ∧ m < 4611686018427387904) ∧ (-4611686018427387904 ≤ j ∧ j < 4611686018427387904) then .ok (ranged m (j - m).toNat) e2 else .bad) := z
  by_cases hj : (-4611686018427387904 ≤ m ∧ m < 4611686018427387904) ∧ (-4611686018427387904 ≤ j ∧ j < 4611686018427387904)
  · rw [if_pos hj] at z
    exact ⟨m, j, rfl, ⟨by omega, by omega, by omega, by omega⟩, TopP.at z s2 (.inr (.inr ⟨m, _, rfl, rfl⟩))⟩
  · rw [if_neg hj] at z; exact z.elim
end
end MP

namespace MP
open PySem L2 PySem.Spec PyProof.Rows

def ArgsB (c : Cn) (W : WX) (call : Nat → List D → CRes) (X : Cx) : T → List Expr → Prop
  | .cons a r, es => (match es with
    | x :: q => PE X x (tBw c W call a) ∧ PE X x (tE c W call a) ∧ ArgsB c W call X r q
    | [] => True)
  | _, _ => True
structure OkT (c : Cn) (call : Nat → List D → CRes) (k : Nat) (t : T) : Prop where
  e : ∀ {X W M N sc x}, Gd c call k X W M N sc → mE M N sc t x = true → PE X x (tE c W call t)
  n : ∀ {X W M N sc x}, Gd c call k X W M N sc → mE M N sc t x = true → freshT c.G t = true → PE X x (tN c W call t)
  cw : ∀ {X W M N sc op vs p}, Gd c call k X W M N sc → mC M N sc t (.BoolOp op vs p) = true → PW X (.BoolOp op vs p) (tCn c W call t)
  cc : ∀ {X W M N sc x}, Gd c call k X W M N sc → mC M N sc t x = true → PT X x (tCn c W call t)
  l : ∀ {X W M N sc es}, Gd c call k X W M N sc → mL M N sc t es = true → PA X es (tL c W call t)
  as : ∀ {X W M N sc es}, Gd c call k X W M N sc → mL M N sc t es = true → ArgsB c W call X t es
  p : ∀ {X W M N sc o}, Gd c call k X W M N sc → mP M N sc t o = true → PO X o (tP c W call t)
  tc : ∀ {X W M N sc l o r p}, Gd c call k X W M N sc → mE M N sc t (.Compare l o r p) = true → PT X (.Compare l o r p) (tCn c W call (.tst t))
  i : ∀ {X W M N sc x tg}, Gd c call k X W M N sc → mI M N sc t x = true → PI X tg x (tI c W call t)
section
variable {c : Cn} {call : Nat → List D → CRes} {k : Nat}
theorem OkT.b {t : T} (h : OkT c call k t) {X : Cx} {W : WX} {M : Nm} {N : List Str} {sc : Scope} {x : Expr} (g : Gd c call k X W M N sc) (hm : mE M N sc t x = true) : PE X x (tBw c W call t) :=
  pe_brw (fun i q => by subst q; exact g_var g hm) (h.e g hm)
theorem no_as {X : Cx} {W : WX} {t : T} {es : List Expr} (h : ∀ a r, t ≠ .cons a r) : ArgsB c W call X t es := by
  cases t <;> first | trivial | exact absurd rfl (h _ _)
/-- an expression's term -/
theorem ok_e {t : T} (he : ∀ {X W M N sc x}, Gd c call k X W M N sc → mE M N sc t x = true → PE X x (tE c W call t)) (hn : ∀ {X W M N sc x}, Gd c call k X W M N sc → mE M N sc t x = true → freshT c.G t = true → PE X x (tN c W call t))
    (tc : ∀ M N sc l o r p, mE M N sc t (.Compare l o r p) = false) (hc : ∀ M N sc x, mC M N sc t x = false) (hl : ∀ M N sc es, mL M N sc t es = false) (hp : ∀ M N sc o, mP M N sc t o = false) (hi : ∀ M N sc x, mI M N sc t x = false) (ha : ∀ a r, t ≠ .cons a r) : OkT c call k t where
  e := he
  n := hn
  cw := fun _ h => by rw [hc] at h; cases h
  cc := fun _ h => by rw [hc] at h; cases h
  l := fun _ h => by rw [hl] at h; cases h
  as := fun _ _ => no_as ha
  p := fun _ h => by rw [hp] at h; cases h
  tc := fun _ h => by rw [tc] at h; cases h
  i := fun _ h => by rw [hi] at h; cases h
theorem e_of {X : Cx} {W : WX} {x : Expr} {t : T} (h : PE X x (tN c W call t)) : PE X x (tE c W call t) := pe_imp h fun _ _ _ q => tE_of q
theorem ok_f {t : T} (hn : ∀ {X W M N sc x}, Gd c call k X W M N sc → mE M N sc t x = true → PE X x (tN c W call t))
    (tc : ∀ M N sc l o r p, mE M N sc t (.Compare l o r p) = false) (hc : ∀ M N sc x, mC M N sc t x = false) (hl : ∀ M N sc es, mL M N sc t es = false) (hp : ∀ M N sc o, mP M N sc t o = false) (hi : ∀ M N sc x, mI M N sc t x = false) (ha : ∀ a r, t ≠ .cons a r) : OkT c call k t :=
  ok_e (fun g h => e_of (hn g h)) (fun g h _ => hn g h) tc hc hl hp hi ha

theorem pt_false {X : Cx} {x : Expr} {t : TT} (h : ∀ σ H Q, ¬ t σ H Q) : PT X x t := ⟨fun _ _ σ H Q _ q => (h σ H Q q).elim⟩

theorem boot_ty {n : String} (h : tyAll.contains n = true) : bootBuiltins (Str.ofString n) = some (.type n) := by
  have h' : n ∈ tyAll := List.contains_iff_mem.mp h
  unfold tyAll at h'
  simp only [List.mem_cons, List.not_mem_nil, or_false] at h'
  rcases h' with rfl | rfl | rfl | rfl | rfl | rfl | rfl <;> decide +kernel
theorem ok_con (d : D) : OkT c call k (.con d) := by
  refine ok_e (fun {X W M N sc x} g h => ?_) (fun g h q => nomatch q) (fun _ _ _ _ _ _ _ => rfl) (fun _ _ _ _ => rfl) (fun _ _ _ _ => rfl) (fun _ _ _ _ => rfl) (fun _ _ _ _ => rfl) (fun _ _ => fun z => nomatch z)
  unfold mE at h
  cases x <;> try (cases h; done)
  · rename_i cn j pos
    cases d <;> cases cn <;> simp only [conIs] at h <;> try (cases h; done)
    · exact x_con pe_non fun F => by unfold Fz; rfl
    · cases beq_iff_eq.mp h; exact x_con pe_bl fun F => by unfold Fz; rfl
    · cases beq_iff_eq.mp h; exact x_con pe_int fun F => by unfold Fz; rfl
    · cases of_decide_eq_true h; exact x_con pe_str fun F => by unfold Fz; rfl
  · rename_i nm pos
    cases d <;> try (cases h; done)
    rename_i n
    simp only [Bool.and_eq_true, decide_eq_true_eq] at h
    obtain ⟨⟨⟨⟨rfl, h2⟩, h3⟩, h4⟩, h5⟩ := h
    obtain ⟨o1, _, o3⟩ := okName_of h5
    rw [g.bis] at h3
    exact x_con (pe_bltn (gl_of g.hsc h4) (g.fx.bis _ h3) (boot_ty h2) (v := .ty n) rfl o3 o1) fun F => by unfold Fz; rfl
theorem ok_var (i : Nat) : OkT c call k (.var i) := ok_e (fun {X W M N sc x} g h => x_var (g_var g h)) (fun g h q => nomatch q) (fun _ _ _ _ _ _ _ => rfl) (fun _ _ _ _ => rfl) (fun _ _ _ _ => rfl) (fun _ _ _ _ => rfl) (fun _ _ _ _ => rfl) (fun _ _ => fun z => nomatch z)
theorem ok_glb (i : Nat) : OkT c call k (.glb i) := by
  refine ok_e (fun {X W M N sc x} g h => ?_) (fun g h q => nomatch q) (fun _ _ _ _ _ _ _ => rfl) (fun _ _ _ _ => rfl) (fun _ _ _ _ => rfl) (fun _ _ _ _ => rfl) (fun _ _ _ _ => rfl) (fun _ _ => fun z => nomatch z)
  unfold mE at h
  cases x <;> try (cases h; done)
  simp only [Bool.and_eq_true, beq_iff_eq] at h
  obtain ⟨⟨h1, h2⟩, h3⟩ := h
  obtain ⟨o1, _, _⟩ := okName_of h3
  rw [g.glob] at h1
  refine x_glb (v := .non) fun u hu => ?_
  obtain ⟨uu, v, g1, g2, g3⟩ := g.fx.glob i _ h1 u hu
  exact ⟨v, pe_glob (gl_of g.hsc h2) g1 g2 o1, g3⟩
theorem ok_bin {a b : T} (op : BOp) (ha : OkT c call k a) (hb : OkT c call k b) : OkT c call k (.bin op a b) := by
  refine ok_f (fun {X W M N sc x} g h => ?_) (fun _ _ _ _ _ _ _ => rfl) (fun _ _ _ _ => rfl) (fun _ _ _ _ => rfl) (fun _ _ _ _ => rfl) (fun _ _ _ _ => rfl) (fun _ _ => fun z => nomatch z)
  unfold mE at h
  cases x <;> try (cases h; done)
  simp only [Bool.and_eq_true] at h
  exact x_bin g.hK h.1.1 (ha.b g h.1.2) (hb.b g h.2)
theorem ok_neg {a : T} (ha : OkT c call k a) : OkT c call k (.neg a) := by
  refine ok_e (fun {X W M N sc x} g h => ?_) (fun g h q => nomatch q) (fun _ _ _ _ _ _ _ => rfl) (fun _ _ _ _ => rfl) (fun _ _ _ _ => rfl) (fun _ _ _ _ => rfl) (fun _ _ _ _ => rfl) (fun _ _ => fun z => nomatch z)
  unfold mE at h
  cases x <;> try (cases h; done)
  rename_i op e pos
  cases op <;> try (cases h; done)
  exact x_neg (ha.e g h)
theorem ok_tst {a : T} (ha : OkT c call k a) : OkT c call k (.tst a) where
  e := fun _ h => nomatch h
  n := fun _ h => nomatch h
  cw := fun g h => by
    unfold mC at h
    rw [Bool.and_eq_true] at h
    exact nomatch h.2
  cc := fun {X W M N sc x} g h => by
    unfold mC at h
    rw [Bool.and_eq_true] at h
    obtain ⟨h1, h2⟩ := h
    cases x with
    | Compare l o r p => exact ha.tc g h1
    | BoolOp => cases h2
    | IfExp => cases h2
    | UnaryOp op e p =>
      cases op <;> first
        | (cases h2; done)
        | exact c_tst g.hK (ha.b g h1) fun _ => rfl
    | _ => exact c_tst g.hK (ha.b g h1) fun _ => rfl
  l := fun _ h => nomatch h
  as := fun _ _ => trivial
  tc := fun _ h => nomatch h
  p := fun _ h => nomatch h
  i := fun _ h => nomatch h
theorem ok_nil : OkT c call k .nil where
  e := fun _ h => nomatch h
  n := fun _ h => nomatch h
  cw := fun _ h => nomatch h
  cc := fun _ h => nomatch h
  l := fun _ h => by
    unfold mL at h
    cases List.isEmpty_iff.mp h
    exact a_nil
  as := fun _ _ => trivial
  tc := fun _ h => nomatch h
  p := fun {X W M N sc o} _ h => by
    unfold mP at h
    cases o with
    | none => exact po_nil
    | some _ => cases h
  i := fun _ h => nomatch h
theorem ok_cons {a r : T} (ha : OkT c call k a) (hr : OkT c call k r) : OkT c call k (.cons a r) where
  e := fun _ h => nomatch h
  n := fun _ h => nomatch h
  cw := fun _ h => nomatch h
  cc := fun _ h => nomatch h
  l := fun {X W M N sc es} g h => by
    unfold mL at h
    cases es with
    | nil => cases h
    | cons x q =>
      simp only [Bool.and_eq_true] at h
      exact a_cons h.1.1 (ha.e g h.1.2) (hr.l g h.2)
  as := fun {X W M N sc es} g h => by
    unfold mL at h
    cases es with
    | nil => cases h
    | cons x q =>
      simp only [Bool.and_eq_true] at h
      exact ⟨ha.b g h.1.2, ha.e g h.1.2, hr.as g h.2⟩
  tc := fun _ h => nomatch h
  p := fun _ h => nomatch h
  i := fun _ h => nomatch h
theorem ok_prt {a : T} (ha : OkT c call k a) : OkT c call k (.prt a) where
  e := fun _ h => nomatch h
  n := fun _ h => nomatch h
  cw := fun _ h => nomatch h
  cc := fun _ h => nomatch h
  l := fun _ h => nomatch h
  as := fun _ _ => trivial
  tc := fun _ h => nomatch h
  p := fun {X W M N sc o} g h => by
    unfold mP at h
    cases o with
    | none => cases h
    | some x => exact po_prt (ha.e g h)
  i := fun _ h => nomatch h
theorem ok_itv {a : T} (ha : OkT c call k a) : OkT c call k (.itv a) where
  e := fun _ h => nomatch h
  n := fun _ h => nomatch h
  cw := fun _ h => nomatch h
  cc := fun _ h => nomatch h
  l := fun _ h => nomatch h
  as := fun _ _ => trivial
  tc := fun _ h => nomatch h
  p := fun _ h => nomatch h
  i := fun g h => by
    unfold mI at h
    simp only [Bool.and_eq_true] at h
    exact i_itv g.hK (ha.e g h.2)
theorem ok_never : OkT c call k .never where
  e := fun _ _ => pe_false fun σ H Q ⟨F, e, s, q⟩ => by rw [evE] at q; exact q
  n := fun _ _ q => nomatch q
  cw := fun _ _ => ⟨fun _ _ _ σ H Q _ ⟨F, e, s, q⟩ => by rw [evC] at q <;> first | exact q.elim | (intros; nofun)⟩
  cc := fun _ _ => ⟨fun _ _ σ H Q _ ⟨F, e, s, q⟩ => by rw [evC] at q <;> first | exact q.elim | (intros; nofun)⟩
  l := fun _ h => nomatch h
  as := fun _ _ => trivial
  tc := fun _ _ => pt_false fun σ H Q ⟨F, e, s, q⟩ => by rw [evC] at q; exact q
  p := fun _ h => nomatch h
  i := fun _ _ => ⟨fun _ _ σ H Q _ ⟨F, e, s, q⟩ => by rw [evI] at q <;> first | exact q.elim | (intros; nofun)⟩

theorem Tp.comp {W : WX} {σ : L2.St} {α β : Type} {Z : Hp → Hp → Env → Res β → Prop} (tp : Tp c W σ Z) (f : α → Env → Res β) : Tp c W σ (fun F H e (r : Res α) => Z F H e (r.bind f)) where
  step := fun s x h => tp.step s x h
  exc := fun h => tp.exc h
  bad := fun h => tp.bad h
theorem ok_cmp {a b : T} (op : COp) (ha : OkT c call k a) (hb : OkT c call k b) : OkT c call k (.cmp op a b) := by
  have he : ∀ {X W M N sc x}, Gd c call k X W M N sc → mE M N sc (.cmp op a b) x = true → PE X x (tE c W call (.cmp op a b)) ∧ (∀ l o r p, x = .Compare l o r p → PT X (.Compare l o r p) (tCn c W call (.tst (.cmp op a b)))) := by
    intro X W M N sc x g h
    unfold mE at h
    cases x <;> try (cases h; done)
    rename_i l os rs pos
    rcases os with _ | ⟨o, _ | _⟩ <;> try (cases h; done)
    rcases rs with _ | ⟨r, _ | _⟩ <;> try (cases h; done)
    simp only [Bool.and_eq_true] at h
    have p1 := ha.b g h.1.2
    have p2 := hb.b g h.2
    refine ⟨x_cmp g.hK g.un h.1.1.1 h.1.1.2 p1 p2, fun l' o' r' p' e => ?_⟩
    cases e
    obtain rfl := copIs_eq h.1.1.1
    refine pt_imp (pt_cmpR (op_cop g.hK g.un op) p1 p2 (noSet h.1.1.2)) fun σ H Q ⟨F, e, s, q⟩ => ?_
    rw [evC] at q
    have q' : TopP c W σ PB Q F H e ((evE c.G call (.cmp op a b) e).bind fun x e => lift (truth x) e) := q
    rw [evE] at q'
    refine tBw_mono (brw2_read (Z := fun F H e r => TopP c W σ PB Q F H e (r.bind fun x e => lift (truth x) e)) (Tp.comp (TopP.tp _ Q) _) s q') fun x H1 h1 => tBw_mono h1 fun y H2 ⟨F2, e2, dx, dy, s2, bx, by_, z⟩ => ?_
    cases hq : cmpop op dx dy with
    | none => rw [hq] at z; exact z.elim
    | some u =>
      rw [hq] at z
      exact ⟨F2, dx, dy, u, s2.le, bx, by_, hq, u, rfl, TopP.at z s2 rfl⟩
  exact ⟨fun g h => (he g h).1, fun g h q => (nomatch q), fun _ h => (nomatch h), fun _ h => (nomatch h), fun _ h => (nomatch h), fun _ _ => trivial, fun _ h => (nomatch h), fun g h => (he g h).2 _ _ _ _ rfl, fun _ h => nomatch h⟩
theorem ok_chain {a b d : T} (o1 o2 : COp) (ha : OkT c call k a) (hb : OkT c call k b) (hd : OkT c call k d) : OkT c call k (.chain o1 o2 a b d) := by
  have he : ∀ {X W M N sc x}, Gd c call k X W M N sc → mE M N sc (.chain o1 o2 a b d) x = true → PE X x (tE c W call (.chain o1 o2 a b d)) ∧ (∀ l o r p, x = .Compare l o r p → PT X (.Compare l o r p) (tCn c W call (.tst (.chain o1 o2 a b d)))) := by
    intro X W M N sc x g h
    unfold mE at h
    cases x <;> try (cases h; done)
    rename_i l os rs pos
    rcases os with _ | ⟨o, _ | ⟨o', _ | _⟩⟩ <;> try (cases h; done)
    rcases rs with _ | ⟨r, _ | ⟨r', _ | _⟩⟩ <;> try (cases h; done)
    simp only [Bool.and_eq_true] at h
    obtain ⟨⟨⟨⟨⟨h1, h2⟩, h3⟩, h4⟩, h5⟩, h6⟩ := h
    have p1 := ha.e g h4
    have p2 := hb.e g h5
    have p3 := hd.e g h6
    refine ⟨x_chain g.hK g.un h1 h2 h3 p1 p2 p3, fun l' o' r' p' e => ?_⟩
    cases e
    obtain rfl := copIs_eq h1
    obtain rfl := copIs_eq h2
    refine pt_imp (pt_chain (op_cop g.hK g.un o1) (op_cop g.hK g.un o2) p1 p2 p3 (noSet h3)) fun σ H Q h => ?_
    refine chain_read (tst_val (fun _ _ => rfl) h fun e u e' q => ?_)
    rw [evE] at q
    cases q1 : evE c.G call a e with
    | bad => rw [q1] at q; cases q
    | exc => rw [q1] at q; cases q
    | ok x1 e1 =>
      rw [q1] at q
      have q : (evE c.G call b e1).bind (fun y e => match cmpop o1 x1 y with
        | some k => (if k = true then (evE c.G call d e).bind fun z e => lift ((cmpop o2 y z).map .bl) e else .ok (.bl false) e)
        | none => .bad) = .ok u e' := q
      cases q2 : evE c.G call b e1 with
      | bad => rw [q2] at q; cases q
      | exc => rw [q2] at q; cases q
      | ok x2 e2 =>
        rw [q2] at q
        have q : (match cmpop o1 x1 x2 with
          | some k => (if k = true then (evE c.G call d e2).bind fun z e => lift ((cmpop o2 x2 z).map .bl) e else .ok (.bl false) e2)
          | none => .bad) = Res.ok u e' := q
        cases q3 : cmpop o1 x1 x2 with
        | none => rw [q3] at q; cases q
        | some kk =>
          rw [q3] at q
          cases kk with
          | false => cases q; exact ⟨_, rfl⟩
          | true =>
            have q : (evE c.G call d e2).bind (fun z e => lift ((cmpop o2 x2 z).map .bl) e) = .ok u e' := q
            cases q4 : evE c.G call d e2 with
            | bad => rw [q4] at q; cases q
            | exc => rw [q4] at q; cases q
            | ok x3 e3 =>
              rw [q4] at q
              have q : lift ((cmpop o2 x2 x3).map .bl) e3 = .ok u e' := q
              cases q5 : cmpop o2 x2 x3 with
              | none => rw [q5] at q; cases q
              | some k5 => rw [q5] at q; cases q; exact ⟨_, rfl⟩
  exact ⟨fun g h => (he g h).1, fun g h q => (nomatch q), fun _ h => (nomatch h), fun _ h => (nomatch h), fun _ h => (nomatch h), fun _ _ => trivial, fun _ h => (nomatch h), fun g h => (he g h).2 _ _ _ _ rfl, fun _ h => nomatch h⟩
theorem ok_not {a : T} (ha : OkT c call k a) : OkT c call k (.not a) := by
  refine ⟨fun {X W M N sc x} g h => ?_, fun g h q => (nomatch q), fun _ h => (nomatch h), fun {X W M N sc x} g h => ?_, fun _ h => (nomatch h), fun _ _ => trivial, fun _ h => (nomatch h), fun _ h => (nomatch h), fun _ h => nomatch h⟩
  · unfold mE at h
    cases x <;> try (cases h; done)
    rename_i op e pos
    cases op <;> try (cases h; done)
    exact x_not (ha.e g h)
  · unfold mC at h
    cases x <;> try (cases h; done)
    rename_i op e pos
    cases op <;> try (cases h; done)
    exact c_not (ha.cc g h)
theorem ok_and {a b : T} (ha : OkT c call k a) (hb : OkT c call k b) : OkT c call k (.and a b) := by
  have hw : ∀ {X W M N sc op vs p}, Gd c call k X W M N sc → mC M N sc (.and a b) (.BoolOp op vs p) = true → PW X (.BoolOp op vs p) (tCn c W call (.and a b)) := by
    intro X W M N sc op vs p g h
    unfold mC at h
    cases op <;> try (cases h; done)
    rcases vs with _ | ⟨x, _ | ⟨y, r⟩⟩ <;> try (cases h; done)
    simp only [Bool.and_eq_true] at h
    refine c_and (ha.cc g h.1) ?_
    cases r with
    | nil => exact c_one (hb.cc g h.2)
    | cons z r => exact hb.cw g h.2
  refine ⟨fun {X W M N sc x} g h => ?_, fun g h q => (nomatch q), hw, fun {X W M N sc x} g h => ?_, fun _ h => (nomatch h), fun _ _ => trivial, fun _ h => (nomatch h), fun _ h => (nomatch h), fun _ h => nomatch h⟩
  · unfold mE at h
    cases x <;> try (cases h; done)
    rename_i op vs pos
    cases op <;> try (cases h; done)
    rcases vs with _ | ⟨x, _ | ⟨y, r⟩⟩ <;> try (cases h; done)
    simp only [Bool.and_eq_true] at h
    refine x_and (ha.e g h.1) ?_
    cases r with
    | nil => exact pe_one (hb.e g h.2)
    | cons z r => exact hb.e g h.2
  · cases x <;> first
      | exact (hw g h).pt
      | (unfold mC at h; cases h; done)
theorem ok_or {a b : T} (ha : OkT c call k a) (hb : OkT c call k b) : OkT c call k (.or a b) := by
  have hw : ∀ {X W M N sc op vs p}, Gd c call k X W M N sc → mC M N sc (.or a b) (.BoolOp op vs p) = true → PW X (.BoolOp op vs p) (tCn c W call (.or a b)) := by
    intro X W M N sc op vs p g h
    unfold mC at h
    cases op <;> try (cases h; done)
    rcases vs with _ | ⟨x, _ | ⟨y, r⟩⟩ <;> try (cases h; done)
    simp only [Bool.and_eq_true] at h
    refine c_or (ha.cc g h.1) ?_
    cases r with
    | nil => exact c_one (hb.cc g h.2)
    | cons z r => exact hb.cw g h.2
  refine ⟨fun {X W M N sc x} g h => ?_, fun g h q => (nomatch q), hw, fun {X W M N sc x} g h => ?_, fun _ h => (nomatch h), fun _ _ => trivial, fun _ h => (nomatch h), fun _ h => (nomatch h), fun _ h => nomatch h⟩
  · unfold mE at h
    cases x <;> try (cases h; done)
    rename_i op vs pos
    cases op <;> try (cases h; done)
    rcases vs with _ | ⟨x, _ | ⟨y, r⟩⟩ <;> try (cases h; done)
    simp only [Bool.and_eq_true] at h
    refine x_or (ha.e g h.1) ?_
    cases r with
    | nil => exact pe_one (hb.e g h.2)
    | cons z r => exact hb.e g h.2
  · cases x <;> first
      | exact (hw g h).pt
      | (unfold mC at h; cases h; done)
theorem ok_ite {d a b : T} (hd : OkT c call k d) (ha : OkT c call k a) (hb : OkT c call k b) : OkT c call k (.ite d a b) := by
  refine ok_e (fun {X W M N sc x} g h => ?_) (fun g h q => nomatch q) (fun _ _ _ _ _ _ _ => rfl) (fun _ _ _ _ => rfl) (fun _ _ _ _ => rfl) (fun _ _ _ _ => rfl) (fun _ _ _ _ => rfl) (fun _ _ => fun z => nomatch z)
  unfold mE at h
  cases x <;> try (cases h; done)
  simp only [Bool.and_eq_true] at h
  exact x_ite (hd.cc g h.1.1) (ha.e g h.1.2) (hb.e g h.2)
theorem ok_tup {a : T} (ha : OkT c call k a) : OkT c call k (.tup a) := by
  refine ok_e (fun {X W M N sc x} g h => ?_) (fun g h q => nomatch q) (fun _ _ _ _ _ _ _ => rfl) (fun _ _ _ _ => rfl) (fun _ _ _ _ => rfl) (fun _ _ _ _ => rfl) (fun _ _ _ _ => rfl) (fun _ _ => fun z => nomatch z)
  unfold mE at h
  cases x <;> try (cases h; done)
  exact x_tup (ha.l g h)
theorem ok_lst {a : T} (ha : OkT c call k a) : OkT c call k (.lst a) := by
  refine ok_f (fun {X W M N sc x} g h => ?_) (fun _ _ _ _ _ _ _ => rfl) (fun _ _ _ _ => rfl) (fun _ _ _ _ => rfl) (fun _ _ _ _ => rfl) (fun _ _ _ _ => rfl) (fun _ _ => fun z => nomatch z)
  unfold mE at h
  cases x <;> try (cases h; done)
  exact x_lst (ha.l g h)
theorem ok_idx {a b : T} (ha : OkT c call k a) (hb : OkT c call k b) : OkT c call k (.idx a b) := by
  refine ok_e (fun {X W M N sc x} g h => ?_) (fun g h q => nomatch q) (fun _ _ _ _ _ _ _ => rfl) (fun _ _ _ _ => rfl) (fun _ _ _ _ => rfl) (fun _ _ _ _ => rfl) (fun _ _ _ _ => rfl) (fun _ _ => fun z => nomatch z)
  unfold mE at h
  cases x <;> try (cases h; done)
  simp only [Bool.and_eq_true] at h
  exact x_idx g.hK h.1.1 (ha.b g h.1.2) (hb.b g h.2)
theorem ok_slc {a b d : T} (ha : OkT c call k a) (hb : OkT c call k b) (hd : OkT c call k d) : OkT c call k (.slc a b d) := by
  refine ok_f (fun {X W M N sc x} g h => ?_) (fun _ _ _ _ _ _ _ => rfl) (fun _ _ _ _ => rfl) (fun _ _ _ _ => rfl) (fun _ _ _ _ => rfl) (fun _ _ _ _ => rfl) (fun _ _ => fun z => nomatch z)
  unfold mE at h
  split at h
  · simp only [Bool.and_eq_true] at h
    exact x_slc g.hK (ha.b g h.1.1) (hb.p g h.1.2) (hd.p g h.2)
  · cases h
theorem ok_call {a : T} (f : Nat) (ha : OkT c call k a) : OkT c call k (.call f a) := by
  have he : ∀ {X W M N sc x}, Gd c call k X W M N sc → mE M N sc (.call f a) x = true → PE X x (fun σ H Q => tL c W call a σ H fun vs H1 => spF c call f vs H1 Q (WE W σ)) := by
    intro X W M N sc x g h
    unfold mE at h
    split at h
    · simp only [Bool.and_eq_true, beq_iff_eq, Bool.not_eq_true'] at h
      obtain ⟨⟨⟨⟨h1, h2⟩, h3⟩, h4⟩, h5⟩ := h
      exact x_call0 g h1 h2 h3 h4 h5 (ha.l g h5)
    · cases h
  exact ok_e (fun g h => pe_imp (he g h) fun σ H Q q => callE q) (fun g h q => pe_imp (he g h) fun σ H Q z => callN z q) (fun _ _ _ _ _ _ _ => rfl) (fun _ _ _ _ => rfl) (fun _ _ _ _ => rfl) (fun _ _ _ _ => rfl) (fun _ _ _ _ => rfl) (fun _ _ => fun z => nomatch z)
theorem n_rng {a : T} (b : BI) (hb : biL b = true) (ha : OkT c call k a) {X : Cx} {W : WX} {M : Nm} {N : List Str} {sc : Scope} {n : Str} {p pos : Pos} {es : List Expr} (g : Gd c call k X W M N sc) (h : (match es with
        | [.Call (.Name y _) fs [] _] => n == ("list" : Str) && (y == ("range" : Str) && (M.bis.contains n && (M.bis.contains y && (glbB sc n && (glbB sc y && (okName n && (okName y && (!M.hot && (arB b fs.length && mL M N sc a fs)))))))))
        | _ => false) = true) : PE X (.Call (.Name n p) es [] pos) (tN c W call (.bi b a)) := by
  split at h
  · rename_i y p2 fs pos2
    simp only [Bool.and_eq_true, beq_iff_eq, Bool.not_eq_true'] at h
    obtain ⟨h1, h2, h3, h4, h5, h6, _, _, h7, h9, h8⟩ := h
    subst h1 h2
    have hst := mL_star h8
    have hab := ha.as g h8
    have hbad : (∀ e, evE c.G call (.bi b a) e = .bad) → PE X (.Call (.Name "list" p) [.Call (.Name "range" p2) fs [] pos2] [] pos) (tN c W call (.bi b a)) := fun q1 => pe_false fun σ H Q ⟨F, e, s, q⟩ => by
      rw [q1 e] at q; exact q
    cases a with
    | cons t r =>
      unfold mL at h8
      cases fs with
      | nil => cases h8
      | cons e1 es =>
        simp only [Bool.and_eq_true] at h8
        cases r with
        | nil =>
          unfold mL at h8
          have := List.isEmpty_iff.mp h8.2
          subst this
          cases b <;> first
            | (cases hb; done)
            | exact x_lrange1 g h3 h4 h5 h6 h7 (hst _ List.mem_cons_self) hab.1
            | (cases h9; done)
        | cons u r =>
          obtain ⟨_, h82⟩ := h8
          unfold mL at h82
          cases es with
          | nil => cases h82
          | cons e2 es =>
            simp only [Bool.and_eq_true] at h82
            cases r with
            | nil =>
              unfold mL at h82
              have := List.isEmpty_iff.mp h82.2
              subst this
              cases b <;> first
                | (cases hb; done)
                | exact x_lrange2 g h3 h4 h5 h6 h7 (hst _ List.mem_cons_self) (hst _ (List.mem_cons_of_mem _ List.mem_cons_self)) hab.1 hab.2.2.1
                | (cases h9; done)
            | _ => exact hbad fun _ => rfl
        | _ => exact hbad fun _ => rfl
    | _ => exact hbad fun _ => rfl
  · cases h
theorem ok_meth {a d : T} (m : BI) (ha : OkT c call k a) (hd : OkT c call k d) : OkT c call k (.meth m a d) := by
  refine ok_e (fun {X W M N sc x} g h => ?_) (fun g h q => nomatch q) (fun _ _ _ _ _ _ _ => rfl) (fun _ _ _ _ => rfl) (fun _ _ _ _ => rfl) (fun _ _ _ _ => rfl) (fun _ _ _ _ => rfl) (fun _ _ => fun z => nomatch z)
  unfold mE at h
  split at h
  · rename_i o n apos es cpos
    simp only [Bool.and_eq_true, beq_iff_eq] at h
    obtain ⟨h1, h2, h3, h4, h5, h6⟩ := h
    subst h1
    rcases es with _ | ⟨y, _ | _⟩
    · cases h6
    · have hs := mL_star h6 y List.mem_cons_self
      cases m <;> first
        | (cases h2; done)
        | exact x_index g (beq_iff_eq.mpr h3) h4 hs (ha.b g h5) (hd.l g h6)
    · cases h6
  · cases h
theorem n_bi {a : T} (b : BI) (ha : OkT c call k a) {X : Cx} {W : WX} {M : Nm} {N : List Str} {sc : Scope} {x : Expr} (g : Gd c call k X W M N sc) (h : mE M N sc (.bi b a) x = true) : PE X x (tN c W call (.bi b a)) := by
  unfold mE at h
  split at h
  · rename_i n p es pos
    by_cases hb : biL b = true
    · rw [if_pos hb] at h
      exact n_rng b hb ha g h
    rw [if_neg hb] at h
    simp only [Bool.and_eq_true, beq_iff_eq, Bool.not_eq_true'] at h
    obtain ⟨⟨⟨⟨⟨h1, h2⟩, h3⟩, h4⟩, h5⟩, h7⟩ := h
    have hst := mL_star h7
    have hab := ha.as g h7
    have hbad : (∀ e, evE c.G call (.bi b a) e = .bad) → PE X (.Call (.Name n p) es [] pos) (tN c W call (.bi b a)) := fun q1 => pe_false fun σ H Q ⟨F, e, s, q⟩ => by
      rw [q1 e] at q; exact q
    cases a with
    | cons t r =>
      unfold mL at h7
      cases es with
      | nil => cases h7
      | cons e1 es =>
        simp only [Bool.and_eq_true] at h7
        cases r with
        | nil =>
          unfold mL at h7
          have := List.isEmpty_iff.mp h7.2
          subst this
          exact x_bi1 g h1 h2 h3 h4 h5 (hst _ List.mem_cons_self) hab.1
        | cons u r =>
          obtain ⟨_, h72⟩ := h7
          unfold mL at h72
          cases es with
          | nil => cases h72
          | cons e2 es =>
            simp only [Bool.and_eq_true] at h72
            cases r with
            | nil =>
              unfold mL at h72
              have := List.isEmpty_iff.mp h72.2
              subst this
              exact x_bi2 g h1 h2 h3 h4 h5 (hst _ List.mem_cons_self) (hst _ (List.mem_cons_of_mem _ List.mem_cons_self)) hab.1 hab.2.2.1
            | _ => exact hbad fun _ => rfl
        | _ => exact hbad fun _ => rfl
    | _ => exact hbad fun _ => rfl
  · cases h
theorem pi_false {X : Cx} {tg x : Expr} {t : TI} (h : ∀ σ H Q, ¬ t σ H Q) : PI X tg x t := ⟨fun _ _ σ H Q _ q => (h σ H Q q).elim⟩
theorem i_bi {a : T} (b : BI) (ha : OkT c call k a) {X : Cx} {W : WX} {M : Nm} {N : List Str} {sc : Scope} {x tg : Expr} (g : Gd c call k X W M N sc) (h : mI M N sc (.bi b a) x = true) : PI X tg x (tI c W call (.bi b a)) := by
  unfold mI at h
  split at h
  · rename_i n p es pos
    simp only [Bool.and_eq_true, beq_iff_eq] at h
    obtain ⟨⟨⟨h1, h2⟩, h3⟩, h4⟩ := h
    have hst := mL_star h4
    have hab := ha.as g h4
    rw [g.bis] at h2
    have hmg := g.fx.bis n h2
    have hgl := gl_of g.hsc h3
    have hbad : (∀ e, evI c.G call (.bi b a) e = .bad) → PI X tg (.Call (.Name n p) es [] pos) (tI c W call (.bi b a)) := fun q1 => pi_false fun σ H Q ⟨F, e, s, q⟩ => by
      rw [q1 e] at q; exact q
    by_cases hb1 : b = .range1
    · subst hb1
      subst h1
      cases a with
      | cons t r =>
        unfold mL at h4
        cases es with
        | nil => cases h4
        | cons e1 es =>
          simp only [Bool.and_eq_true] at h4
          cases r with
          | nil =>
            unfold mL at h4
            have := List.isEmpty_iff.mp h4.2
            subst this
            exact i_range1 hgl hmg (hst _ List.mem_cons_self) hab.2.1
          | _ => exact hbad fun _ => rfl
      | _ => exact hbad fun _ => rfl
    · by_cases hb2 : b = .range2
      · subst hb2
        subst h1
        cases a with
        | cons t r =>
          unfold mL at h4
          cases es with
          | nil => cases h4
          | cons e1 es =>
            simp only [Bool.and_eq_true] at h4
            cases r with
            | cons u r =>
              obtain ⟨_, h42⟩ := h4
              unfold mL at h42
              cases es with
              | nil => cases h42
              | cons e2 es =>
                simp only [Bool.and_eq_true] at h42
                cases r with
                | nil =>
                  unfold mL at h42
                  have := List.isEmpty_iff.mp h42.2
                  subst this
                  exact i_range2 hgl hmg (hst _ List.mem_cons_self) (hst _ (List.mem_cons_of_mem _ List.mem_cons_self)) hab.2.1 hab.2.2.2.1
                | _ => exact hbad fun _ => rfl
            | _ => exact hbad fun _ => rfl
        | _ => exact hbad fun _ => rfl
      · exact hbad fun _ => by cases b <;> first | exact absurd rfl hb1 | exact absurd rfl hb2 | (cases a <;> rfl)
  · cases h
theorem ok_bi {a : T} (b : BI) (ha : OkT c call k a) : OkT c call k (.bi b a) :=
  ⟨fun g h => e_of (n_bi b ha g h), fun g h _ => n_bi b ha g h, fun _ h => (nomatch h), fun _ h => (nomatch h), fun _ h => (nomatch h), fun _ _ => trivial, fun _ h => (nomatch h), fun _ h => (nomatch h), fun g h => i_bi b ha g h⟩
theorem fold_of {iter : Expr} {env : PySem.Env} (h : noStar iter = true) : ∀ x, foldedSetIterable iter env x = pure x := by
  intro x
  cases iter <;> first | rfl | cases h
theorem mI_star {M : Nm} {N : List Str} {sc : Scope} {t : T} {x : Expr} (h : mI M N sc t x = true) : noStar x = true := by
  cases t <;> unfold mI at h <;> first
    | (cases h; done)
    | exact h
    | (simp only [Bool.and_eq_true] at h; exact h.1)
    | (split at h
       · rfl
       · cases h)
theorem Gd.blk {X : Cx} {W : WX} {M : Nm} {N : List Str} {sc : Scope} (g : Gd c call k X W M N sc) (hh : M.hot = false) (s : Shared) (H : Hp) (scope : Scope) (C : Addr) (cl : List (Str × Addr)) (fp : List Addr) : Gd c call k (X.blk s H scope (compEnvC scope cl C X.env) fp) noW M N (relS scope sc) where
  hK := g.hK
  hN := g.hN
  nd := g.nd
  hsc := by rw [← g.hsc]; rfl
  tk := fun u s' ⟨_, _, _, _, _, _, _, _, _, _, _, _, _, _, _, _, w⟩ => w.elim
  hM := g.hM
  cold := g.cold
  un := g.un
  fx := g.fx
  cl := g.cl
  er := fun F i fs v h => by rw [(g.cold hh).2.2] at h; exact h.elim
theorem n_comp {it ct el : T} (p : List Nat) (many : Bool) (hit : OkT c call k it) (hct : OkT c call k ct) (hel : OkT c call k el) {X : Cx} {W : WX} {M : Nm} {N : List Str} {sc : Scope} {elt tg iter : Expr} {ifs : List Expr} {scope : Scope} {pos : Pos} (g : Gd c call k X W M N sc)
    (h : mE M N sc (.comp p many it ct el) (.ListComp elt [⟨tg, iter, ifs, 0⟩] scope pos) = true) : X.calm = true ∧ PI X tg iter (tI c W call it) ∧ BlkOk X.N X.env.scope scope (p.map fun i => (N.getD i (Str.ofString ""), i)) ∧ (p.map fun i => (N.getD i (Str.ofString ""), i)).map (·.2) = p ∧
    (∀ (s : Shared) (H : Hp) (C : Addr) (cl : List (Str × Addr)) (fp : List Addr), PG (X.blk s H scope (compEnvC scope cl C X.env) fp) tg (gP c.K p many)) ∧ (∀ (s : Shared) (H : Hp) (C : Addr) (cl : List (Str × Addr)) (fp : List Addr), PTs (X.blk s H scope (compEnvC scope cl C X.env) fp) ifs (tCn c noW call ct)) ∧
    (∀ (s : Shared) (H : Hp) (C : Addr) (cl : List (Str × Addr)) (fp : List Addr), PE (X.blk s H scope (compEnvC scope cl C X.env) fp) elt (tE c noW call el)) ∧ (∀ x, foldedSetIterable iter X.env x = pure x) ∧ ∀ i ∈ p, i < X.N.length := by
  unfold mE at h
  simp only [Bool.and_eq_true, Bool.not_eq_true'] at h
  obtain ⟨⟨⟨⟨⟨⟨h1, h2⟩, h3⟩, h4⟩, h5⟩, h6⟩, h7⟩ := h
  unfold blkNm at h5
  rw [List.all_eq_true] at h5
  refine ⟨(g.cold h1).1, hit.i g h2, by rw [g.hN, g.hsc]; exact blkOk_by h3, by rw [List.map_map]; exact List.map_id'' (fun _ => rfl) p, fun s H C cl fp => ?_, fun s H C cl fp => ?_, fun s H C cl fp => hel.e (g.blk h1 s H scope C cl fp) h7, fold_of (mI_star h2), fun i hi => ?_⟩
  · have gb := g.blk h1 s H scope C cl fp
    refine pg_of gb.hN g.nd gb.hsc g.hK (g.cold h1).1 h4 fun i x hx hi _ => ?_
    have := h5 i hi
    rw [hx] at this
    simp only [Bool.or_eq_true, beq_iff_eq] at this
    rcases this with q | q
    · exact .inr q
    · refine .inl ?_
      show (scope.names.lookup x == some .cell) = true
      rw [q]; rfl
  · rcases ifs with _ | ⟨t, _ | _⟩
    · cases ct <;> try (cases h6; done)
      refine ⟨fun pins s' σ H' Q I ⟨F, e, sr, q⟩ => pts_nil.run pins s' σ H' Q I ?_⟩
      rw [evC] at q
      exact TopP.at q sr rfl
    · refine pts_one ?_
      cases ct <;> first
        | (cases h6; done)
        | exact hct.cc (g.blk h1 s H scope C cl fp) h6
    · cases h6
  · have := h5 i hi
    rw [g.hN]
    cases q : N[i]? with
    | none => rw [q] at this; cases this
    | some x => exact (List.getElem?_eq_some_iff.mp q).1
theorem ok_comp {it ct el : T} (p : List Nat) (many : Bool) (hit : OkT c call k it) (hct : OkT c call k ct) (hel : OkT c call k el) : OkT c call k (.comp p many it ct el) := by
  refine ok_f (fun {X W M N sc x} g h => ?_) (fun _ _ _ _ _ _ _ => rfl) (fun _ _ _ _ => rfl) (fun _ _ _ _ => rfl) (fun _ _ _ _ => rfl) (fun _ _ _ _ => rfl) (fun _ _ => fun z => nomatch z)
  have h' := h
  unfold mE at h
  split at h
  · obtain ⟨a1, a2, a3, a4, a5, a6, a7, a8, a9⟩ := n_comp p many hit hct hel g h'
    exact (x_comp a1 (by rw [g.hN]; exact g.nd) a4 a2 a3 a5 a6 a7 a8 a9).2
  · cases h
theorem ok_pop {a : T} (i : Nat) (ha : OkT c call k a) : OkT c call k (.pop i a) := by
  refine ok_e (fun {X W M N sc x} g h => ?_) (fun g h q => nomatch q) (fun _ _ _ _ _ _ _ => rfl) (fun _ _ _ _ => rfl) (fun _ _ _ _ => rfl) (fun _ _ _ _ => rfl) (fun _ _ _ _ => rfl) (fun _ _ => fun z => nomatch z)
  unfold mE at h
  split at h
  · rename_i x p m apos es cpos
    simp only [Bool.and_eq_true, beq_iff_eq] at h
    obtain ⟨⟨⟨⟨⟨h1, h2⟩, h3⟩, h4⟩, h5⟩, h6⟩ := h
    subst h1
    obtain ⟨o1, o2, _⟩ := okName_of h5
    have hv : PE X (.Name x p) (tVar i) := pe_var (by rw [g.hN]; exact h3) (by rw [g.hsc]; exact vis_of h4) o1 o2
    rcases es with _ | ⟨y, _ | _⟩
    · cases a <;> try (cases h6; done)
      exact x_pop0 hv (beq_iff_eq.mpr h2) rfl
    · dsimp only at h6
      rw [Bool.and_eq_true] at h6
      refine x_popi (fun z => ?_) hv h6.1 (ha.e g h6.2) (beq_iff_eq.mpr h2) rfl
      subst z
      exact nomatch h6.2
    · cases h6
  · cases h

theorem ok_eisi (i : Nat) (kk : Option Nat) : OkT c call k (.eisi i kk) := by
  refine ok_e (fun {X W M N sc x} g h => ?_) (fun g h q => nomatch q) (fun _ _ _ _ _ _ _ => rfl) (fun _ _ _ _ => rfl) (fun _ _ _ _ => rfl) (fun _ _ _ _ => rfl) (fun _ _ _ _ => rfl) (fun _ _ => fun z => nomatch z)
  unfold mE at h
  split at h
  · rename_i n p y py z pz pos
    simp only [Bool.and_eq_true, beq_iff_eq] at h
    obtain ⟨⟨⟨⟨⟨⟨⟨⟨⟨h1, h2⟩, h3⟩, h4⟩, h5⟩, h6⟩, h7⟩, h8⟩, h9⟩, h10⟩ := h
    subst h1
    refine ⟨fun pins s σ H Q I ⟨F, e, sr, q⟩ => ?_⟩
    rw [evE] at q
    cases hs : e.get i with
    | un => rw [hs] at q; exact q.elim
    | own d => rw [hs] at q; exact q.elim
    | fz d =>
      rw [hs] at q
      cases d <;> first | exact q.elim | skip
      rename_i ec fs
      have q : TopP c W σ (PF c) Q F H e (if fs.isEmpty = true then .ok (.bl (subK c.G kk ec)) e else .bad) := q
      by_cases hf : fs.isEmpty = true
      · rw [if_pos hf] at q
        have hf := List.isEmpty_iff.mp hf
        subst hf
        have sl := sr.sl i
        rw [hs] at sl
        obtain ⟨v, hv, her⟩ := sl
        obtain ⟨hlt, Y, ad, oe, pn, dd, hX, rfl, hz, hd, xr⟩ := g.er F ec [] v her
        obtain ⟨_, nm, fs', hc, xr⟩ := xr
        have hdd : fs' = [] ∧ dd = none := by
          rcases xr with ⟨a1, _, a3⟩ | ⟨a1, a, vs, _, _, a4, a5⟩
          · exact ⟨a1, a3⟩
          · exfalso
            have := a5.len
            refine a1 (List.eq_nil_of_length_eq_zero ?_)
            rw [a4, this]; rfl
        obtain ⟨rfl, rfl⟩ := hdd
        obtain ⟨_, _, hE⟩ := g.cl.at_ ec nm [] hc
        have hE := (hE rfl).1
        have hbis := h2
        rw [g.bis] at hbis
        obtain ⟨o1, _, o3⟩ := okName_of h4
        obtain ⟨y1, y2, _⟩ := okName_of h7
        obtain ⟨z1, _, z3⟩ := okName_of h9
        have hpv : PE X (.Name y py) (tVar i) := pe_var (by rw [g.hN]; exact h5) (by rw [g.hsc]; exact vis_of h6) y1 y2
        have hcl : ∃ (cV : V) (cv : Value), PE X (.Name z pz) (tC cV) ∧ (∀ u, RelV cV u → u = cv) ∧ PySem.W.kitOne c.K (.ref (c.ca ec)) cv = some (subK c.G kk ec) := by
          cases kk with
          | some j =>
            dsimp only at h10
            rw [g.cls] at h10
            cases hj : c.M.cls[j]? with
            | none => rw [hj] at h10; cases h10
            | some w =>
              obtain ⟨w, wf⟩ := w
              rw [hj] at h10
              have h10 : z = w := beq_iff_eq.mp h10
              subst h10
              obtain ⟨g1, g2, _⟩ := g.cl.at_ j z wf hj
              exact ⟨.ref (c.ca j), .ref (c.ca j), pe_glob (gl_of g.hsc h8) g1 rfl z1, fun u hu => hu, (g.cl.sub ec j hlt (List.getElem?_eq_some_iff.mp hj).1).1⟩
          | none =>
            dsimp only at h10
            rw [Bool.and_eq_true, beq_iff_eq] at h10
            obtain ⟨rfl, hb⟩ := h10
            rw [g.bis] at hb
            exact ⟨.ty "ValueError", .type "ValueError", pe_bltn (gl_of g.hsc h8) (g.fx.bis _ hb) boot_ValueError rfl z3 z1, fun u hu => hu, g.cl.ve ec hlt⟩
        obtain ⟨cV, cv, pc, hcv, hk⟩ := hcl
        have gK := g.hK
        have gsc := gl_of g.hsc h3
        have gmg := g.fx.bis _ hbis
        clear g
        subst hX
        have hkY : Y.K = c.K := gK
        rw [← hkY] at hE hk
        exact (pe_callB (call_isE hE hz hd) gsc gmg rfl (pa_cons hpv (pa_cons pc pa_nil)) o3 o1).run pins s σ H Q I ⟨.ref ad, hv, cV, cv, _, rfl, hcv, hk, TopP.at q sr fz_bl'⟩
      · rw [if_neg hf] at q; exact q.elim
  · cases h
theorem ok_no {t : T} (he : ∀ M N sc x, mE M N sc t x = false) (hc : ∀ M N sc x, mC M N sc t x = false) (hl : ∀ M N sc es, mL M N sc t es = false) (hp : ∀ M N sc o, mP M N sc t o = false) (hi : ∀ M N sc x, mI M N sc t x = false) (ha : ∀ a r, t ≠ .cons a r) : OkT c call k t :=
  ok_e (fun {X W M N sc x} g h => by rw [he] at h; cases h) (fun {X W M N sc x} g h _ => by rw [he] at h; cases h) (fun M N sc l o r p => he M N sc _) hc hl hp hi ha

theorem key_of {F : Hp} {d : D} {v : V} (h : d.isKey = true) (f : Fz c.K c.ca F d v) : ∃ kk, keyD d = some kk ∧ v = kV kk := by
  cases d <;> first | (cases h; done) | skip
  all_goals
    unfold Fz at f
    subst f
    exact ⟨_, rfl, rfl⟩
theorem key_eqv {a b : D} {x y : Key} (ha : keyD a = some x) (hb : keyD b = some y) : eqv a b = decide (x = y) := by
  cases a <;> cases ha <;> cases b <;> cases hb
  · exact (key_ll _ _).symm
  · exact (key_lr _ _).symm
  · exact (key_rl _ _).symm
  · show (_ == _) = _
    rw [key_rr]; exact Bool.eq_iff_iff.mpr (by simp)
theorem FzK.len {F : Hp} : ∀ {l : List (D × D)} {ks : List (Key × V)}, FzK c.K c.ca F l ks → l.length = ks.length
  | [], ks, h => by unfold FzK at h; subst h; rfl
  | p :: l, ks, h => by
    unfold FzK at h
    obtain ⟨q, qs, rfl, _, _, h⟩ := h
    simp [FzK.len h]
theorem FzK.any {F : Hp} {k : D} {kk : Key} (hk : keyD k = some kk) : ∀ {l : List (D × D)} {ks : List (Key × V)}, FzK c.K c.ca F l ks → (l.any fun p => eqv p.1 k) = ks.any fun p => decide (p.1 = kk)
  | [], ks, h => by unfold FzK at h; subst h; rfl
  | p :: l, ks, h => by
    unfold FzK at h
    obtain ⟨q, qs, rfl, h1, _, h⟩ := h
    rw [List.any_cons, List.any_cons, FzK.any hk h, key_eqv h1 hk]
theorem FzK.map {F : Hp} {k d : D} {kk : Key} {v : V} (hk : keyD k = some kk) (hv : Fz c.K c.ca F d v) : ∀ {l : List (D × D)} {ks : List (Key × V)}, FzK c.K c.ca F l ks → FzK c.K c.ca F (l.map fun p => if eqv p.1 k = true then (p.1, d) else p) (ks.map fun p => if p.1 = kk then (p.1, v) else p)
  | [], ks, h => by unfold FzK at h; subst h; unfold FzK; rfl
  | p :: l, ks, h => by
    unfold FzK at h
    obtain ⟨q, qs, rfl, h1, h2, h⟩ := h
    rw [List.map_cons, List.map_cons]
    unfold FzK
    refine ⟨_, _, rfl, ?_, ?_, FzK.map hk hv h⟩
    · rw [key_eqv h1 hk]
      by_cases z : q.1 = kk
      · simp [z, h1]
      · simp [z, h1]
    · rw [key_eqv h1 hk]
      by_cases z : q.1 = kk
      · simp [z, hv]
      · simp [z, h2]
theorem FzK.snoc {F : Hp} {k d : D} {kk : Key} {v : V} (hk : keyD k = some kk) (hv : Fz c.K c.ca F d v) : ∀ {l : List (D × D)} {ks : List (Key × V)}, FzK c.K c.ca F l ks → FzK c.K c.ca F (l ++ [(k, d)]) (ks ++ [(kk, v)])
  | [], ks, h => by unfold FzK at h; subst h; show FzK _ _ _ [(k, d)] [(kk, v)]; unfold FzK; exact ⟨_, _, rfl, hk, hv, by unfold FzK; rfl⟩
  | p :: l, ks, h => by
    unfold FzK at h
    obtain ⟨q, qs, rfl, h1, h2, h⟩ := h
    show FzK _ _ _ (p :: (l ++ [(k, d)])) (q :: (qs ++ [(kk, v)]))
    unfold FzK
    exact ⟨_, _, rfl, h1, h2, FzK.snoc hk hv h⟩
theorem FzK.put {F : Hp} {k d : D} {kk : Key} {v : V} {l : List (D × D)} {ks : List (Key × V)} (h : FzK c.K c.ca F l ks) (hk : keyD k = some kk) (hv : Fz c.K c.ca F d v) : FzK c.K c.ca F (putKey k d l) (putK ks kk v) := by
  unfold putKey putK
  rw [FzK.any hk h]
  split
  · exact FzK.map hk hv h
  · exact FzK.snoc hk hv h

theorem keep_new {W : WX} {σ : L2.St} {B : Addr → Prop} {F0 H0 F2 H2 F3 H3 : Hp} {e2 e3 : Env} {A : Addr} {o : HO} (s2 : ∀ a, Ft e2 σ a → F2 a = none) (h1 : H2 A = some o) (h2 : F2 A = none) (h3 : ¬ Ft e2 σ A) (x : Ext B F0 H0 (fun b => Ft e2 σ b ∨ b = A) F2 H2)
    (y : Ext (Ft e2 σ) F2 H2 (Ft e3 σ) F3 H3) : H3 A = some o ∧ F3 A = none ∧ ¬ Ft e3 σ A ∧ Ext B F0 H0 (fun b => Ft e3 σ b ∨ b = A) F3 H3 := by
  have k1 := y.keep A _ h1 h3
  have nn : ¬ (F2 A ≠ none ∨ Ft e2 σ A ∨ H2 A = none) := by
    rintro (z | z | z)
    · exact z h2
    · exact h3 z
    · rw [h1] at z; cases z
  have k2 : F3 A = none := by
    cases q : F3 A with
    | none => rfl
    | some u => exact absurd (y.new A (.inl (by rw [q]; exact fun z => nomatch z))) nn
  have k3 : ¬ Ft e3 σ A := fun z => nn (y.new A (.inr z))
  refine ⟨k1, k2, k3, ?_⟩
  have y' : Ext (fun b => Ft e2 σ b ∨ b = A) F2 H2 (fun b => Ft e3 σ b ∨ b = A) F3 H3 := ⟨y.ff, fun b o hb n => y.keep b o hb fun z => n (.inl z), fun b z => by
    rcases z with z | z | z
    · exact (y.new b (.inl z)).imp_right fun z => z.imp_left .inl
    · exact (y.new b (.inr z)).imp_right fun z => z.imp_left .inl
    · exact .inr (.inl (.inr z))⟩
  exact x.trans (fun a z => by
    rcases z with z | z
    · exact s2 a z
    · rw [z]; exact h2) y'
/-- the wish while a new object stands at A -/
def ZAt (c : Cn) (W : WX) (σ : L2.St) (A : Addr) (o : HO) (B : Addr → Prop) (F0 H0 : Hp) (T : Res D → Prop) : Hp → Hp → Env → Res D → Prop := fun F1 H1 e1 r =>
  ((∀ a, Ft e1 σ a → F1 a = none) ∧ F1 A = none ∧ ¬ Ft e1 σ A ∧ H1 A = some o ∧ Ext B F0 H0 (fun b => Ft e1 σ b ∨ b = A) F1 H1) ∧ T r
theorem ZAt.tp {W : WX} {σ : L2.St} {A : Addr} {o : HO} {e0 : Env} {F0 H0 : Hp} {Q : VK} (hA : H0 A = none) : Tp c W σ (ZAt c W σ A o (Ft e0 σ) F0 H0 (TopN c W σ Q F0 H0 e0)) where
  step := fun {F H e F1 H1 e1 r} s x ⟨⟨h0, h1, h2, h3, h4⟩, t⟩ => by
    obtain ⟨k1, k2, k3, k4⟩ := keep_new (W := W) h0 h3 h1 h2 h4 x
    exact ⟨⟨s.ft, k2, k3, k1, k4⟩, t⟩
  exc := fun {F H e x e'} ⟨⟨h0, h1, h2, h3, h4⟩, t⟩ F' H' cls dd s y xr => by
    obtain ⟨k1, k2, k3, k4⟩ := keep_new (W := W) h0 h3 h1 h2 h4 y
    exact t F' H' cls dd s (k4.sub fun a z => .inl z) xr
  bad := fun ⟨_, t⟩ => t
def trsOf (c : Cn) (W : WX) (call : Nat → List D → CRes) : T → List (TE × TE)
  | .cons a r => match r with
    | .cons b r => (tE c W call a, tE c W call b) :: trsOf c W call r
    | _ => []
  | _ => []
def flatV : List (V × V) → List V
  | [] => []
  | p :: r => p.1 :: p.2 :: flatV r
theorem pps_of {X : Cx} {W : WX} {M : Nm} {N : List Str} {sc : Scope} {pos : Pos} : ∀ {ks : List (Option Expr)} {vs : List Expr} {l : T} {es : List Expr}, flatP ks vs = some es → mL M N sc l es = true → ArgsB c W call X l es → PPs X pos ks vs (trsOf c W call l) ∧ ks.all (·.isSome) = true ∧ ks.length = vs.length
  | [], vs, l, es, h, hm, _ => by
    unfold flatP at h
    split at h
    · rename_i q
      cases List.isEmpty_iff.mp q
      cases h
      cases l <;> unfold mL at hm <;> first | (cases hm; done) | exact ⟨pps_nil, rfl, rfl⟩
    · cases h
  | k :: ks, vs, l, es, h, hm, ha => by
    unfold flatP at h
    cases k with
    | none => cases h
    | some k =>
      cases vs with
      | nil => cases h
      | cons v vs =>
        dsimp only at h
        cases q : flatP ks vs with
        | none => rw [q] at h; cases h
        | some es' =>
          rw [q] at h
          cases h
          cases l <;> unfold mL at hm <;> try (cases hm; done)
          rename_i a r
          simp only [Bool.and_eq_true] at hm
          obtain ⟨_, hm⟩ := hm
          cases r <;> unfold mL at hm <;> try (cases hm; done)
          rename_i b r
          simp only [Bool.and_eq_true] at hm
          obtain ⟨p1, p2, p3⟩ := pps_of (pos := pos) q hm.2 ha.2.2.2.2
          exact ⟨pps_cons ha.2.1 ha.2.2.2.1 p1, by simp [p2], by simp [p3]⟩
theorem tPairs_mono {W : WX} {σ : L2.St} : ∀ {trs : List (TE × TE)} {H : Hp} {R R' : List (V × V) → Hp → Prop}, (∀ t ∈ trs, ∃ u w, t = (tE c W call u, tE c W call w)) → (∀ ps H, R ps H → R' ps H) → tPairs trs σ H R → tPairs trs σ H R' := by
  intro trs
  induction trs with
  | nil => intro H R R' _ i h; exact i _ _ h
  | cons t trs ih =>
    intro H R R' ht i h
    obtain ⟨u, w, rfl⟩ := ht t List.mem_cons_self
    exact tE_mono h fun v1 H1 h1 => tE_mono h1 fun v2 H2 h2 => ih (fun t ht' => ht t (List.mem_cons_of_mem _ ht')) (fun ps H3 => i _ _) h2
theorem trs_ok {W : WX} (l : T) : ∀ t ∈ trsOf c W call l, ∃ u w, t = (tE c W call u, tE c W call w) := by
  refine trsOf.induct (motive := fun l => ∀ t ∈ trsOf c W call l, ∃ u w, t = (tE c W call u, tE c W call w)) ?_ ?_ ?_ l
  · intro a b r ih t ht
    unfold trsOf at ht
    rcases List.mem_cons.mp ht with rfl | ht
    · exact ⟨a, b, rfl⟩
    · exact ih t ht
  · intro a r hr t ht
    unfold trsOf at ht
    cases r <;> first | (exact absurd rfl (hr _ _)) | simp at ht
  · intro l hl t ht
    unfold trsOf at ht
    cases l <;> first | (exact absurd rfl (hl _ _)) | simp at ht
theorem disp_read {W : WX} {σ : L2.St} {Z : Hp → Hp → Env → Res D → Prop} (tp : Tp c W σ Z) : ∀ (ks : List (Option Expr)) (vs : List Expr) (l : T) (es : List Expr) {M : Nm} {N : List Str} {sc : Scope} {F H : Hp} {e : Env} {kk : List D → Env → Res D}, flatP ks vs = some es → mL M N sc l es = true →
    SR c F H e σ → Z F H e ((evL c.G call l e).bind kk) → tPairs (trsOf c W call l) σ H fun ps H2 => ∃ F2 e2 ds, SR c F2 H2 e2 σ ∧ Same F F2 ∧ FzL c.K c.ca F2 ds (flatV ps) ∧ Z F2 H2 e2 (kk ds e2)
  | [], vs, l, es, M, N, sc, F, H, e, kk, h, hm, s, q => by
    unfold flatP at h
    split at h
    · rename_i q'
      cases List.isEmpty_iff.mp q'
      cases h
      cases l <;> unfold mL at hm <;> try (cases hm; done)
      rw [evL] at q
      exact ⟨F, e, [], s, Same.refl F, by unfold flatV FzL; rfl, q⟩
    · cases h
  | k :: ks, vs, l, es, M, N, sc, F, H, e, kk, h, hm, s, q => by
    unfold flatP at h
    cases k with
    | none => cases h
    | some k =>
      cases vs with
      | nil => cases h
      | cons v vs =>
        dsimp only at h
        cases q' : flatP ks vs with
        | none => rw [q'] at h; cases h
        | some es' =>
          rw [q'] at h
          cases h
          cases l <;> unfold mL at hm <;> try (cases hm; done)
          rename_i a r
          simp only [Bool.and_eq_true] at hm
          obtain ⟨_, hm⟩ := hm
          cases r <;> unfold mL at hm <;> try (cases hm; done)
          rename_i b r
          simp only [Bool.and_eq_true] at hm
          have bb : ∀ {α β γ : Type} {r : Res α} {f : α → Env → Res β} {g : β → Env → Res γ}, ((r.bind f).bind g) = r.bind fun a e => (f a e).bind g := fun {α β γ r f g} => by cases r <;> rfl
          rw [evL, bb] at q
          show tE c W call a σ H fun x H1 => tE c W call b σ H1 fun y H2 => tPairs (trsOf c W call r) σ H2 fun ps H3 => _
          refine ⟨F, e, s, (tbind tp (PF c) q).imp (fun _ _ _ z => z) fun x H1 ⟨F1, e1, dx, s1, sm1, fx, z⟩ => ?_⟩
          rw [evL, bb, bb] at z
          refine ⟨F1, e1, s1, (tbind tp (PF c) z).imp (fun _ _ _ z => z) fun y H2 ⟨F2, e2, dy, s2, sm2, fy, z⟩ => ?_⟩
          rw [bb] at z
          have ih := disp_read tp ks vs r es' (M := M) (N := N) (sc := sc) (kk := fun ds e => kk (dx :: dy :: ds) e) q' hm.2 s2 z
          refine tPairs_mono (trs_ok r) (fun ps H3 ⟨F3, e3, ds, s3, sm3, f3, z3⟩ => ?_) ih
          refine ⟨F3, e3, dx :: dy :: ds, s3, Same.trans sm1 (Same.trans sm2 sm3), ?_, z3⟩
          show FzL c.K c.ca F3 (dx :: dy :: ds) (x :: y :: flatV ps)
          unfold FzL
          refine ⟨x, _, rfl, (fx.mono sm2).mono sm3, ?_⟩
          unfold FzL
          exact ⟨y, _, rfl, fy.mono sm3, f3⟩
theorem pairs_ok {F : Hp} : ∀ {ps : List (V × V)} {ds : List D} {dp : List (D × D)}, pairsOf ds = some dp → FzL c.K c.ca F ds (flatV ps) → ∃ kvs : List (Key × V), ps = kvs.map (fun kv => (kV kv.1, kv.2)) ∧ FzK c.K c.ca F dp kvs ∧ 2 * kvs.length = ds.length
  | [], ds, dp, h, f => by
    have hl := f.len
    cases ds with
    | nil => unfold pairsOf at h; cases h; exact ⟨[], rfl, by unfold FzK; rfl, rfl⟩
    | cons _ _ => cases hl
  | p :: ps, ds, dp, h, f => by
    have hl := f.len
    cases ds with
    | nil => cases hl
    | cons k r =>
      cases r with
      | nil => simp [flatV] at hl
      | cons v r =>
        unfold pairsOf at h
        dsimp only at h
        unfold flatV FzL at f
        obtain ⟨x, ws, e1, f1, f2⟩ := f
        cases e1
        unfold FzL at f2
        obtain ⟨y, ws, e2, f2, f3⟩ := f2
        cases e2
        by_cases hk : k.isKey = true
        · rw [if_pos hk] at h
          cases q : pairsOf r with
          | none => rw [q] at h; cases h
          | some dp' =>
            rw [q] at h
            cases h
            obtain ⟨kvs, h1, h2, h3⟩ := pairs_ok q f3
            obtain ⟨kk, k1, k2⟩ := key_of hk f1
            refine ⟨(kk, p.2) :: kvs, ?_, ?_, by simp; omega⟩
            · rw [List.map_cons, ← h1, ← k2]
            · unfold FzK
              exact ⟨_, _, rfl, k1, f2, h2⟩
        · rw [if_neg hk] at h; cases h
theorem FzK.merge {F : Hp} : ∀ {dp : List (D × D)} {kvs : List (Key × V)} {acc : List (D × D)} {ak : List (Key × V)}, FzK c.K c.ca F dp kvs → FzK c.K c.ca F acc ak → FzK c.K c.ca F (dp.foldl (fun acc p => putKey p.1 p.2 acc) acc) (mergeK ak kvs)
  | [], kvs, acc, ak, h, ha => by unfold FzK at h; subst h; exact ha
  | p :: dp, kvs, acc, ak, h, ha => by
    unfold FzK at h
    obtain ⟨q, qs, rfl, h1, h2, h3⟩ := h
    show FzK c.K c.ca F (dp.foldl (fun acc p => putKey p.1 p.2 acc) (putKey p.1 p.2 acc)) (mergeK (putK ak q.1 q.2) qs)
    exact FzK.merge h3 (FzK.put ha h1 h2)
theorem ok_dct {a : T} (ha : OkT c call k a) : OkT c call k (.dct a) := by
  refine ok_f (fun {X W M N sc x} g h => ?_) (fun _ _ _ _ _ _ _ => rfl) (fun _ _ _ _ => rfl) (fun _ _ _ _ => rfl) (fun _ _ _ _ => rfl) (fun _ _ _ _ => rfl) (fun _ _ => fun z => nomatch z)
  unfold mE at h
  split at h
  · rename_i ks vs pos
    cases hf : flatP ks vs with
    | none => rw [hf] at h; cases h
    | some es =>
      rw [hf] at h
      simp only [Bool.and_eq_true, decide_eq_true_eq] at h
      obtain ⟨h1, h2⟩ := h
      obtain ⟨p1, p2, p3⟩ := pps_of (pos := pos) hf h1 (ha.as g h1)
      by_cases h0 : ks = []
      · subst h0
        cases vs with
        | cons _ _ => cases p3
        | nil =>
          unfold flatP at hf
          cases hf
          refine pe_imp pe_dnewK fun σ H Q ⟨F, e, s, q⟩ => ?_
          cases a <;> unfold mL at h1 <;> try (cases h1; done)
          rw [evE, evL] at q
          have q : TopN c W σ Q F H e (.ok (.dct []) e) := q
          intro p hp
          exact (TopN.ok s q).2 p _ hp (.inl (show FzK c.K c.ca F [] [] by unfold FzK; rfl))
      · refine pe_imp (pe_disp p1 p2 p3 h0 h2) fun σ H Q ⟨F, e, s, q⟩ p hp => ?_
        rw [evE] at q
        obtain ⟨s1, x1⟩ := s.newO hp (.dK [])
        obtain ⟨n1, n2⟩ := s.nofr hp
        have dr := disp_read (ZAt.tp (Q := Q) (e0 := e) (F0 := F) (o := .dK []) hp) ks vs a es hf h1 s1 ⟨⟨s.ft, n1, n2, upd_same, x1⟩, q⟩
        refine tPairs_mono (trs_ok a) (fun ps H2 ⟨F2, e2, ds, s2, sm, f2, ⟨⟨z0, z1, z2, z3, z4⟩, z⟩⟩ => ?_) dr
        refine ⟨z3, ?_⟩
        unfold dispOf at z
        by_cases hl : ds.length ≤ 30
        · rw [if_pos hl] at z
          cases hq : pairsOf ds with
          | none => rw [hq] at z; exact z.elim
          | some dp =>
            rw [hq] at z
            obtain ⟨kvs, k1, k2, k3⟩ := pairs_ok hq f2
            refine ⟨kvs, k1, by omega, z F2 _ (.ref p) (s2.ext (Same.refl F2) (Same.updH s2.le z1) fun b hb => ?_) ?_⟩
            · have ne : b ≠ p := fun w => z2 (w ▸ hb)
              exact ⟨s2.ft b hb, fun o ho => by rw [upd_ne ne]; exact ho⟩
            · unfold NewR
              rw [if_pos (by rfl)]
              refine ⟨p, .dK (mergeK [] kvs), rfl, z1, upd_same, FzK.merge (acc := []) k2 (by unfold FzK; rfl), z2, z4.ff, fun b o hb n => ?_, z4.new⟩
              rw [upd_ne (show b ≠ p from fun w => by rw [w, hp] at hb; cases hb)]
              exact z4.keep b o hb n
        · rw [if_neg hl] at z; exact z.elim
  · cases h
theorem ok_all : ∀ t, OkT c call k t := by
  intro t
  induction t with
  | con d => exact ok_con d
  | var i => exact ok_var i
  | glb i => exact ok_glb i
  | bin op a b ha hb => exact ok_bin op ha hb
  | neg a ha => exact ok_neg ha
  | not a ha => exact ok_not ha
  | and a b ha hb => exact ok_and ha hb
  | or a b ha hb => exact ok_or ha hb
  | cmp op a b ha hb => exact ok_cmp op ha hb
  | chain o1 o2 a b d ha hb hd => exact ok_chain o1 o2 ha hb hd
  | ite d a b hd ha hb => exact ok_ite hd ha hb
  | tup l hl => exact ok_tup hl
  | lst l hl => exact ok_lst hl
  | dct l hl => exact ok_dct hl
  | idx a i ha hi => exact ok_idx ha hi
  | slc a lo hi ha hl hh => exact ok_slc ha hl hh
  | call f args ha => exact ok_call f ha
  | bi b args ha => exact ok_bi b ha
  | comp p many it ct el h1 h2 h3 => exact ok_comp p many h1 h2 h3
  | dcomp p many it kk v h1 h2 h3 => exact ok_no (fun _ _ _ _ => rfl) (fun _ _ _ _ => rfl) (fun _ _ _ _ => rfl) (fun _ _ _ _ => rfl) (fun _ _ _ _ => rfl) (fun _ _ => fun z => nomatch z)
  | pop i ix h => exact ok_pop i h
  | meth m a d h1 h2 => exact ok_meth m h1 h2
  | efld i kk => exact ok_no (fun _ _ _ _ => rfl) (fun _ _ _ _ => rfl) (fun _ _ _ _ => rfl) (fun _ _ _ _ => rfl) (fun _ _ _ _ => rfl) (fun _ _ => fun z => nomatch z)
  | eisi i kk => exact ok_eisi i kk
  | tst a ha => exact ok_tst ha
  | itv a ha => exact ok_itv ha
  | prt a ha => exact ok_prt ha
  | nil => exact ok_nil
  | cons a r ha hr => exact ok_cons ha hr
  | never => exact ok_never
end
end MP

namespace MP
open PySem L2 PySem.Spec PyProof.Rows

/-- what a statement leaves -/
def TopS (c : Cn) (W : WX) (fr : Bool) (Z : Ends) (F H : Hp) (e : Env) (σ : L2.St) (r : SRes) : Prop := match r with
  | .nx e' => ∀ F' H' σ', SR c F' H' e' σ' → Ext (Ft e σ) F H (Ft e' σ') F' H' → Z.nx σ' H'
  | .bk e' => ∀ F' H' σ', SR c F' H' e' σ' → Ext (Ft e σ) F H (Ft e' σ') F' H' → Z.bk σ' H'
  | .ct e' => ∀ F' H' σ', SR c F' H' e' σ' → Ext (Ft e σ) F H (Ft e' σ') F' H' → Z.ct σ' H'
  | .rt d e' => ∀ F' H' v, Same F' H' → (if fr = true then NewR c F H (Ft e σ) F' H' noA d v else Fz c.K c.ca F' d v ∧ Ext (Ft e σ) F H noA F' H') → Z.rt v H'
  | .exc x e' => ∀ F' H' σ' cls dd, SR c F' H' e' σ' → Ext (Ft e σ) F H (Ft e' σ') F' H' → XR c F' H' x cls dd → W cls dd σ' H'
  | .bad => False
section
variable {c : Cn} {W : WX} {fr : Bool} {Z Z' : Ends} {F H F1 H1 : Hp} {e e1 : Env} {σ σ1 : L2.St} {r : SRes}
theorem TopS.step' (s : ∀ a, Ft e1 σ1 a → F1 a = none) (x : Ext (Ft e σ) F H (Ft e1 σ1) F1 H1) (t : TopS c W fr Z F H e σ r) : TopS c W fr Z F1 H1 e1 σ1 r := by
  cases r with
  | nx e' => exact fun F' H' σ' s' y => t F' H' σ' s' (x.trans s y)
  | bk e' => exact fun F' H' σ' s' y => t F' H' σ' s' (x.trans s y)
  | ct e' => exact fun F' H' σ' s' y => t F' H' σ' s' (x.trans s y)
  | rt d e' =>
    intro F' H' v l n
    refine t F' H' v l ?_
    by_cases q : fr = true
    · rw [if_pos q] at n ⊢; exact NewR.step x s n
    · rw [if_neg q] at n ⊢; exact ⟨n.1, x.trans s n.2⟩
  | exc y e' => exact fun F' H' σ' cls dd s' z p => t F' H' σ' cls dd s' (x.trans s z) p
  | bad => exact t
theorem TopS.step (s : SR c F1 H1 e1 σ1) (x : Ext (Ft e σ) F H (Ft e1 σ1) F1 H1) (t : TopS c W fr Z F H e σ r) : TopS c W fr Z F1 H1 e1 σ1 r := TopS.step' s.ft x t
theorem TopS.at_nx (t : TopS c W fr Z F H e σ (.nx e)) (s : SR c F H e σ) : Z.nx σ H := t F H σ s Ext.refl
theorem sbind {α β : Type} {q : Res α} {f : α → Env → SRes} (P : Hp → α → β → Prop) (t : TopS c W fr Z F H e σ (q.st f)) :
    TopP c W σ P (fun b H1 => ∃ F1 e1 a, SR c F1 H1 e1 σ ∧ Same F F1 ∧ P F1 a b ∧ TopS c W fr Z F1 H1 e1 σ (f a e1)) F H e q := by
  cases q with
  | ok a e' => exact fun F' H' b s x p => ⟨F', e', a, s, x.ff, p, TopS.step s x t⟩
  | exc y e' => exact fun F' H' cls dd s x p => t F' H' σ cls dd s x p
  | bad => exact t
/-- behind a store -/
theorem TopS.put {i : Nat} {x : Sl} {v : V} (s : SR c F H e σ) (hi : i < σ.length) (hx : SlotR c F H x (some (some v))) (hj : ∀ d a, x = .own d → v = .ref a → ¬ Ft e σ a ∨ ∃ d', e.get i = .own d' ∧ σ[i]? = some (some (V.ref a))) (hno : ∀ d, x ≠ .own d) :
    SR c F H (e.put i x) (σ.set i (some v)) ∧ Ext (Ft e σ) F H (Ft (e.put i x) (σ.set i (some v))) F H :=
  ⟨s.put hi hx hj, Ext.refl.sub fun a ha => (ft_put hi s.len ha).elim id fun ⟨⟨d, h⟩, _⟩ => absurd h (hno d)⟩
end

def tS (c : Cn) (W : WX) (call : Nat → List D → CRes) (io : List Bool) (fr : Bool) (t : S) : TS := fun Z σ H => ∃ F e, SR c F H e σ ∧ TopS c W fr Z F H e σ (ex c.G call io fr t e)
/-- a place where statements run -/
structure Gs (c : Cn) (call : Nat → List D → CRes) (k : Nat) (X : Cx) (W : WX) (M : Nm) (N : List Str) (sc : Scope) (hot : Bool) : Prop extends Gd c call k X W (M.heat hot) N sc where
  fnA : ∀ x, X.fn x = true
  pa : hot = false → PassesOwn (model X.prog X.w) X.A X.env X.xe
  st : X.stack = X.env :: X.outer
  fm : X.env.frame = some X.env.locals
  xw : hot = true → ∀ a b d e, ¬ W a b d e
structure OkS (c : Cn) (call : Nat → List D → CRes) (k : Nat) (io : List Bool) (fr : Bool) (t : S) : Prop where
  s : ∀ {X W M N sc hot x}, Gs c call k X W M N sc hot → mS M N sc t hot x = true → PS X x (tS c W call io fr t)
  b : ∀ {X W M N sc hot x}, Gs c call k X W M N sc hot → mB M N sc t hot x = true → PSs X x (tS c W call io fr t)
section
variable {c : Cn} {call : Nat → List D → CRes} {k : Nat} {io : List Bool} {fr : Bool} {X : Cx} {W : WX} {M : Nm} {N : List Str} {sc : Scope} {hot : Bool}
theorem ok_s {t : S} (h : ∀ {c X W M N sc hot x}, Gs c call k X W M N sc hot → mS M N sc t hot x = true → PS X x (tS c W call io fr t)) (hb : ∀ M N sc hot x, mB M N sc t hot x = false) : ∀ c, OkS c call k io fr t := fun _ => ⟨h, fun _ q => by rw [hb] at q; cases q⟩
theorem Gs.lt (g : Gs c call k X W M N sc hot) {pins : List (Addr × Obj)} {σ : L2.St} {H : Hp} {s : Shared} (I : Inv X pins σ H s) {i : Nat} {x : Str} (h : N[i]? = some x) : i < σ.length := by
  rw [I.len, g.hN]; exact (List.getElem?_eq_some_iff.mp h).1
theorem sw_no {e : Expr} {t : Option Expr} {l : Nat} {env : PySem.Env} (h : isComp e = false) : swapsWith e t l env = pure false := by
  cases e <;> first | rfl | cases h
/-- an assignment to a name, whatever the value -/
theorem ps_store {i : Nat} {y : Str} {py pos : Pos} {t : T} {e : Expr} (g : Gs c call k X W M N sc hot) (h1 : N[i]? = some y) (h2 : locB sc y = true) (hm : mE (M.heat hot) N sc t e = true) :
    (∀ (pins : List (Addr × Obj)) (s : Shared) (σ : L2.St) (H : Hp) (Z : Ends), Inv X pins σ H s → tE c W call t σ H (fun v H1 => Z.nx (σ.set i (some v)) H1) → wpAny (model X.prog X.w) X.A (exec (.Assign [.Name y py] e pos) X.env) (SP X pins Z) X.xe s) ∧
    (freshT c.G t = true → ∀ (pins : List (Addr × Obj)) (s : Shared) (σ : L2.St) (H : Hp) (Z : Ends), Inv X pins σ H s → tN c W call t σ H (fun v H1 => Z.nx (σ.set i (some v)) H1) → wpAny (model X.prog X.w) X.A (exec (.Assign [.Name y py] e pos) X.env) (SP X pins Z) X.xe s) := by
  have gN : X.N.Nodup := by rw [g.hN]; exact g.nd
  have gi : X.N[i]? = some y := by rw [g.hN]; exact h1
  have gl : L2.Loc X.env.scope y := by rw [g.hsc]; exact loc_of h2
  by_cases hc : isComp e = false
  · exact ⟨fun pins s σ H Z I h => (ps_set gN gi gl ((ok_all t).e g.toGd hm) (sw_no hc) (.inl (g.fnA y))).run pins s σ H Z I h, fun hf pins s σ H Z I h => (ps_set gN gi gl ((ok_all t).n g.toGd hm hf) (sw_no hc) (.inl (g.fnA y))).run pins s σ H Z I h⟩
  · have hc : isComp e = true := by simpa using hc
    by_cases ht : ∃ p many it ct el, t = .comp p many it ct el
    · obtain ⟨p, many, it, ct, el, rfl⟩ := ht
      have hm' := hm
      unfold mE at hm'
      split at hm'
      · rename_i elt tg iter ifs scope epos _
        obtain ⟨a1, a2, a3, a4, a5, a6, a7, a8, a9⟩ := n_comp p many (ok_all it) (ok_all ct) (ok_all el) g.toGd hm
        have xc := x_comp (pos := epos) (ct := ct) (el := el) a1 gN a4 a2 a3 a5 a6 a7 a8 a9
        have key : ∀ (pins : List (Addr × Obj)) (s : Shared) (σ : L2.St) (H : Hp) (Z : Ends), Inv X pins σ H s → tN c W call (.comp p many it ct el) σ H (fun v H1 => Z.nx (σ.set i (some v)) H1) → wpAny (model X.prog X.w) X.A (exec (.Assign [.Name y py] (.ListComp elt [⟨tg, iter, ifs, 0⟩] scope epos) pos) X.env) (SP X pins Z) X.xe s := by
          intro pins s σ H Z I h
          by_cases hw : swB sc y py scope epos = true
          · unfold swB at hw
            simp only [Bool.and_eq_true, beq_iff_eq, Bool.not_eq_true'] at hw
            obtain ⟨⟨w1, w2⟩, w3⟩ := hw
            refine (ps_setLc a1 gN gi (by rw [g.hsc]; exact w1) (sw_true I.ok.kind (by rw [g.hsc]; exact w1) (beq_iff_eq.mpr w2) w3) a2 a3 a5 a6 a7 a8).run pins s σ H Z I ?_
            have q := xc.1 σ H _ h I.len
            have q2 : tLc (tI c W call it) (gP c.K p many) (tCn c noW call ct) (tE c noW call el) ((p.map fun i => (N.getD i (Str.ofString ""), i)).map (·.2)) σ H (fun v H1 => Z.nx (σ.set i (some v)) H1) := by rw [a4]; exact q
            exact q2
          · have sw : swapsWith (.ListComp elt [⟨tg, iter, ifs, 0⟩] scope epos) (some (.Name y py)) pos.line X.env = pure false := by
              show pure (X.env.blockKind == .function && X.env.kindOf y == some .local && py.line == epos.line && !(scope.names.any fun (n, k) => n == y && (k == .local || k == .cell))) = pure false
              congr 1
              have hw : swB sc y py scope epos = false := by simpa using hw
              unfold swB at hw
              have e1 : X.env.kindOf y = sc.names.lookup y := by unfold Env.kindOf; rw [g.hsc]
              rw [e1, Bool.and_assoc, Bool.and_assoc, ← Bool.and_assoc (sc.names.lookup y == some .local), hw, Bool.and_false]
            exact (ps_set gN gi gl xc.2 sw (.inl (g.fnA y))).run pins s σ H Z I h
        exact ⟨fun pins s σ H Z I h => key pins s σ H Z I (tE_of h), fun _ => key⟩
      · cases hm'
    · have hnv : t = .never := by
        cases e <;> first | (cases hc; done) | skip
        all_goals cases t <;> first | rfl | exact absurd ⟨_, _, _, _, _, rfl⟩ ht | (simp only [mE] at hm; done) | exact nomatch hm
      subst hnv
      exact ⟨fun pins s σ H Z I ⟨F, e, sr, q⟩ => by rw [evE] at q; exact q.elim, fun hf => nomatch hf⟩

theorem opt_some {α : Type} {o : Option α} {f : α → SRes} {F H : Hp} {e : Env} {σ : L2.St} {Z : Ends} (h : TopS c W fr Z F H e σ (opt o f)) : ∃ a, o = some a ∧ TopS c W fr Z F H e σ (f a) := by
  cases o with
  | none => exact h.elim
  | some a => exact ⟨a, rfl, h⟩
theorem asg_some {e e' : Env} {i : Nat} {x : Sl} (h : asg io i x e = some e') : e' = e.put i x := by
  unfold asg at h
  split at h
  · cases h
  · cases h; rfl
theorem asg_lt {e e' : Env} {i : Nat} {x : Sl} (h : asg io i x e = some e') : i < e.length := by
  unfold asg at h
  split at h
  · cases h
  · rename_i q
    simp only [Bool.or_eq_true, decide_eq_true_eq, not_or] at q
    omega
theorem os_set (i : Nat) (t : T) : OkS c call k io fr (.set i t) := by
  refine ok_s (fun {c X W M N sc hot x} g h => ?_) (fun _ _ _ _ _ => rfl) c
  unfold mS at h
  split at h
  · rename_i y py e pos
    simp only [Bool.and_eq_true, beq_iff_eq] at h
    obtain ⟨⟨h1, h2⟩, h3⟩ := h
    refine ⟨fun pins s σ H Z I ⟨F, e, sr, q⟩ => (ps_store g h1 h2 h3).1 pins s σ H Z I ?_⟩
    rw [ex] at q
    refine ⟨F, e, sr, (sbind (PF c) q).imp (fun _ _ _ z => z) fun v H1 ⟨F1, e1, u, s1, _, f1, z⟩ => ?_⟩
    obtain ⟨e2, z1, z⟩ := opt_some z
    have := asg_some z1
    subst this
    obtain ⟨s2, x2⟩ := TopS.put s1 (i := i) (g.lt I h1) (slot_fz f1) (fun d a z => nomatch z) (fun d z => nomatch z)
    exact z F1 H1 _ s2 x2
  · cases h
theorem os_setO (i : Nat) (t : T) : OkS c call k io fr (.setO i t) := by
  refine ok_s (fun {c X W M N sc hot x} g h => ?_) (fun _ _ _ _ _ => rfl) c
  unfold mS at h
  split at h
  · rename_i y py e pos
    simp only [Bool.and_eq_true, beq_iff_eq] at h
    obtain ⟨⟨h1, h2⟩, h3⟩ := h
    refine ⟨fun pins s σ H Z I ⟨F, e, sr, q⟩ => ?_⟩
    rw [ex] at q
    by_cases hf : freshT c.G t = true
    · refine (ps_store g h1 h2 h3).2 hf pins s σ H Z I ⟨F, e, sr, ?_⟩
      have hi := g.lt I h1
      cases hq : evE c.G call t e with
      | bad => rw [hq] at q; exact q.elim
      | exc y e' => rw [hq] at q; exact fun F' H' cls dd s' x p => q F' H' σ cls dd s' x p
      | ok d e1 =>
        rw [hq] at q
        have q : TopS c W fr Z F H e σ (if (freshT c.G t && d.isMut) = true then opt (asg io i (.own d) e1) .nx else .bad) := q
        by_cases hm : d.isMut = true
        · rw [if_pos (by rw [hf, hm]; rfl)] at q
          obtain ⟨e2, z1, z⟩ := opt_some q
          have := asg_some z1
          subst this
          intro F' H' v s' n
          unfold NewR at n
          rw [if_pos hm] at n
          obtain ⟨a, o, rfl, n1, n2, n3, n4, n5⟩ := n
          have sl : SlotR c F' H' (.own d) (some (some (V.ref a))) := ⟨a, o, rfl, n1, n2, n3⟩
          refine z F' H' _ (s'.put hi sl fun d' a' _ e2 => .inl (by cases e2; exact n4)) (n5.sub fun b hb => ?_)
          rcases ft_put hi s'.len hb with w | ⟨_, w⟩
          · exact .inl w
          · cases w; exact .inr rfl
        · rw [if_neg (by simp [hm])] at q; exact q.elim
    · refine (ps_store g h1 h2 h3).1 pins s σ H Z I ⟨F, e, sr, ?_⟩
      cases hq : evE c.G call t e with
      | bad => rw [hq] at q; exact q.elim
      | exc y e' => rw [hq] at q; exact fun F' H' cls dd s' x p => q F' H' σ cls dd s' x p
      | ok d e1 =>
        rw [hq] at q
        have q : TopS c W fr Z F H e σ (if (freshT c.G t && d.isMut) = true then opt (asg io i (.own d) e1) .nx else .bad) := q
        rw [if_neg (by simp [hf])] at q; exact q.elim
  · cases h
theorem os_skip : OkS c call k io fr .skip := by
  refine ⟨fun {X W M N sc hot x} g h => ?_, fun {X W M N sc hot x} g h => ?_⟩
  · unfold mS at h
    cases x <;> try (cases h; done)
    exact ps_imp ps_pass fun Z σ H ⟨F, e, s, q⟩ => by rw [ex] at q; exact q.at_nx s
  · unfold mB at h
    cases List.isEmpty_iff.mp h
    exact pss_imp pss_nil fun Z σ H ⟨F, e, s, q⟩ => by rw [ex] at q; exact q.at_nx s
theorem seq_read {a b : S} {Z : Ends} {σ : L2.St} {H : Hp} (h : tS c W call io fr (.seq a b) Z σ H) : tS c W call io fr a { Z with nx := tS c W call io fr b Z } σ H := by
  obtain ⟨F, e, s, q⟩ := h
  rw [ex] at q
  refine ⟨F, e, s, ?_⟩
  cases hq : ex c.G call io fr a e with
  | nx e' => rw [hq] at q; exact fun F' H' σ' s' x => ⟨F', e', s', TopS.step s' x q⟩
  | bk e' => rw [hq] at q; exact q
  | ct e' => rw [hq] at q; exact q
  | rt d e' => rw [hq] at q; exact q
  | exc x e' => rw [hq] at q; exact q
  | bad => rw [hq] at q; exact q
theorem frz_read {b : S} {i : Nat} {Z : Ends} {σ : L2.St} {H : Hp} (h : tS c W call io fr (.seq (.frz i) b) Z σ H) : tS c W call io fr b Z σ H := by
  obtain ⟨F, e, s, q⟩ := seq_read h
  rw [ex] at q
  cases hs : e.get i with
  | un => rw [hs] at q; exact q.at_nx s
  | fz d => rw [hs] at q; exact q.at_nx s
  | own d =>
    rw [hs] at q
    have q : TopS c W fr { Z with nx := tS c W call io fr b Z } F H e σ (.nx (e.put i (.fz d))) := q
    obtain ⟨a, o, h1, h2, h3, h4⟩ := s.own hs
    have fa : Ft e σ a := ⟨i, d, hs, h1⟩
    have he : i < e.length := get_lt (by rw [hs]; exact fun z => nomatch z)
    have hi : i < σ.length := by rw [← s.len]; exact he
    have sm : Same F (L2.upd F a o) := Same.upd h2
    have le : Same (L2.upd F a o) H := fun b u hb => by
      by_cases z : b = a
      · subst z; rw [upd_same] at hb; rw [h3]; exact hb
      · rw [upd_ne z] at hb; exact s.le b u hb
    have fz : Fz c.K c.ca (L2.upd F a o) d (.ref a) := OwnO.fz sm upd_same h4
    refine q (L2.upd F a o) H σ ⟨le, by rw [put_length]; exact s.len, fun j => ?_, fun j1 j2 d1 d2 b k1 k2 k3 k4 => ?_⟩ ⟨sm, fun b u hb _ => hb, fun b z => ?_⟩
    · rw [get_put he]
      by_cases z : j = i
      · subst z; rw [if_pos rfl, h1]; exact slot_fz fz
      · rw [if_neg z]
        have sl := s.sl j
        cases hj : e.get j with
        | un => trivial
        | fz u =>
          rw [hj] at sl
          obtain ⟨v, g1, g2⟩ := sl
          refine ⟨v, g1, ?_⟩
          cases u <;> first | exact c.erm _ _ _ _ _ sm g2 | exact Fz.mono sm g2
        | own u =>
          rw [hj] at sl
          obtain ⟨b, y, g1, g2, g3, g4⟩ := sl
          refine ⟨b, y, g1, ?_, g3, g4.mono sm⟩
          rw [upd_ne]
          · exact g2
          · rintro rfl
            exact z (s.inj j i u d b hj hs g1 h1)
    · rw [get_put he] at k1 k2
      by_cases z1 : j1 = i
      · rw [if_pos z1] at k1; cases k1
      · by_cases z2 : j2 = i
        · rw [if_pos z2] at k2; cases k2
        · rw [if_neg z1] at k1
          rw [if_neg z2] at k2
          exact s.inj j1 j2 d1 d2 b k1 k2 k3 k4
    · rcases z with z | z
      · by_cases w : b = a
        · rw [w]; exact .inr (.inl fa)
        · rw [upd_ne w] at z; exact .inl z
      · obtain ⟨j, u, k1, k2⟩ := z
        rw [get_put he] at k1
        by_cases w : j = i
        · rw [if_pos w] at k1; cases k1
        · rw [if_neg w] at k1; exact .inr (.inl ⟨j, u, k1, k2⟩)
theorem os_seq {a b : S} (ha : OkS c call k io fr a) (hb : OkS c call k io fr b) : OkS c call k io fr (.seq a b) := by
  refine ⟨fun {X W M N sc hot x} g h => (nomatch h), fun {X W M N sc hot x} g h => ?_⟩
  unfold mB at h
  split at h
  · exact pss_imp (hb.b g h) fun Z σ H q => frz_read q
  · cases x with
    | nil => cases h
    | cons s r =>
      simp only [Bool.and_eq_true] at h
      exact pss_imp (pss_cons (ha.s g h.1) (hb.b g h.2)) fun Z σ H q => seq_read q
theorem os_frz (i : Nat) : OkS c call k io fr (.frz i) := ⟨fun g h => (nomatch h), fun g h => nomatch h⟩
theorem os_never : OkS c call k io fr .never := ⟨fun g h => ⟨fun _ _ σ H Z _ ⟨F, e, s, q⟩ => by rw [ex] at q; exact q.elim⟩, fun g h => nomatch h⟩
theorem os_brk : OkS c call k io fr .brk := by
  refine ok_s (fun {c X W M N sc hot x} g h => ?_) (fun _ _ _ _ _ => rfl) c
  unfold mS at h
  cases x <;> try (cases h; done)
  exact ps_imp ps_break fun Z σ H ⟨F, e, s, q⟩ => by rw [ex] at q; exact q F H σ s Ext.refl
theorem os_cnt : OkS c call k io fr .cnt := by
  refine ok_s (fun {c X W M N sc hot x} g h => ?_) (fun _ _ _ _ _ => rfl) c
  unfold mS at h
  cases x <;> try (cases h; done)
  exact ps_imp ps_continue fun Z σ H ⟨F, e, s, q⟩ => by rw [ex] at q; exact q F H σ s Ext.refl
theorem os_expr (t : T) : OkS c call k io fr (.expr t) := by
  refine ok_s (fun {c X W M N sc hot x} g h => ?_) (fun _ _ _ _ _ => rfl) c
  unfold mS at h
  cases x <;> try (cases h; done)
  simp only [Bool.and_eq_true, Bool.not_eq_true'] at h
  refine ps_imp (ps_expr ((ok_all t).e g.toGd h.2) (sw_no h.1)) fun Z σ H ⟨F, e, s, q⟩ => ?_
  rw [ex] at q
  exact ⟨F, e, s, (sbind (PF c) q).imp (fun _ _ _ z => z) fun v H1 ⟨F1, e1, u, s1, _, f1, z⟩ => z.at_nx s1⟩
theorem os_ite (t : T) {a b : S} (ha : OkS c call k io fr a) (hb : OkS c call k io fr b) : OkS c call k io fr (.ite t a b) := by
  refine ⟨fun {X W M N sc hot x} g h => ?_, fun g h => nomatch h⟩
  unfold mS at h
  cases x <;> try (cases h; done)
  simp only [Bool.and_eq_true] at h
  refine ps_imp (ps_if ((ok_all t).cc g.toGd h.1.1) (ha.b g h.1.2) (hb.b g h.2)) fun Z σ H ⟨F, e, s, q⟩ => ?_
  rw [ex] at q
  refine ⟨F, e, s, (sbind PB q).imp (fun _ _ _ z => z) fun v H1 ⟨F1, e1, u, s1, _, f1, z⟩ => ?_⟩
  cases f1
  cases v with
  | true => rw [if_pos rfl] at z ⊢; exact ⟨F1, e1, s1, z⟩
  | false => rw [if_neg Bool.false_ne_true] at z ⊢; exact ⟨F1, e1, s1, z⟩

theorem asgs_eq : ∀ {is : List Nat} {ds : List D} {e e' : Env}, asgs io is ds e = some e' → (ds.length = is.length ∧ ∀ i ∈ is, i < e.length) ∧ e' = setPat is ds e
  | [], ds, e, e', h => by
    unfold asgs at h
    split at h
    · rename_i q; cases h; cases List.isEmpty_iff.mp q; exact ⟨⟨rfl, fun i hi => nomatch hi⟩, rfl⟩
    · cases h
  | i :: r, ds, e, e', h => by
    unfold asgs at h
    cases ds with
    | nil => cases h
    | cons d ds =>
      dsimp only at h
      cases q : asg io i (.fz d) e with
      | none => rw [q] at h; cases h
      | some e1 =>
        rw [q] at h
        obtain ⟨⟨h1, h3⟩, h2⟩ := asgs_eq (is := r) (ds := ds) (e := e1) h
        rw [asg_some q] at h2 h3
        refine ⟨⟨by simp [h1], fun j hj => ?_⟩, h2⟩
        rcases List.mem_cons.mp hj with rfl | hj
        · exact asg_lt q
        · have := h3 j hj
          rw [put_length] at this
          exact this
theorem pat_ft {p : List Nat} {ds : List D} {vs : List V} {e : Env} {σ : L2.St} {a : Addr} (h : Ft (setPat p ds e) (setSt p vs σ) a) : Ft e σ a := by
  obtain ⟨j, d, h1, h2⟩ := h
  by_cases q : j ∈ p
  · exact absurd h1 (setPat_fz (.inl q) d)
  · rw [setPat_get q] at h1
    rw [setSt_out q] at h2
    exact ⟨j, d, h1, h2⟩
theorem Gs.pg (g : Gs c call k X W M N sc hot) (hc : hot = false) {p : List Nat} {many : Bool} {e : Expr} (h : patIs N sc p many e = true) : PG X e (gP c.K p many) :=
  pg_of g.hN g.nd g.hsc g.hK (g.cold (by rw [hc]; rfl)).1 h fun i x _ _ _ => .inl (g.fnA x)
theorem pat_all : ∀ {p : List Nat} {es : List Expr}, p.length = es.length → ((p.zip es).all fun q => (match q.2 with
      | .Name x _ => N[q.1]? == some x && locB sc x
      | _ => false)) = true → ∀ i ∈ p, ∃ x, N[i]? = some x
  | [], _, _, _, i, hi => nomatch hi
  | j :: p, [], h, _, _, _ => nomatch h
  | j :: p, e :: es, hl, h, i, hi => by
    rw [List.zip_cons_cons, List.all_cons, Bool.and_eq_true] at h
    rcases List.mem_cons.mp hi with rfl | hi
    · have h1 := h.1
      cases e <;> first | (cases h1; done) | skip
      simp only [Bool.and_eq_true, beq_iff_eq] at h1
      exact ⟨_, h1.1⟩
    · exact pat_all (by simpa using hl) h.2 i hi
theorem pat_lt {p : List Nat} {many : Bool} {e : Expr} (h : patIs N sc p many e = true) : ∀ i ∈ p, ∃ x, N[i]? = some x := by
  intro i hi
  cases many with
  | false =>
    unfold patIs at h
    dsimp only at h
    split at h
    · simp only [Bool.and_eq_true, beq_iff_eq] at h
      simp at hi; subst hi
      exact ⟨_, h.1⟩
    · cases h
  | true =>
    unfold patIs at h
    dsimp only at h
    cases e <;> first | (cases h; done) | skip
    simp only [Bool.and_eq_true, beq_iff_eq] at h
    exact pat_all h.1 h.2 i hi
theorem swst_no {ts : List Expr} {k : Nat} {p : Pos} {e : Expr} {env : PySem.Env} (h : noTup e = true) : swappedStores [.Tuple ts k p] e env = pure none := by
  cases e <;> first | rfl | cases h
theorem os_unpack (is : List Nat) (t : T) : OkS c call k io fr (.unpack is t) := by
  refine ok_s (fun {c X W M N sc hot x} g h => ?_) (fun _ _ _ _ _ => rfl) c
  unfold mS at h
  split at h
  · rename_i es kk p e pos
    simp only [Bool.and_eq_true, Bool.not_eq_true'] at h
    obtain ⟨⟨⟨⟨h1, h2⟩, h3⟩, h4⟩, h5⟩ := h
    refine ⟨fun pins s σ H Z I ⟨F, e, sr, q⟩ => (ps_asg ((ok_all t).e g.toGd h5) (g.pg h1 h2) (by unfold swapsWithSole; exact sw_no h4) (swst_no h3)).run pins s σ H Z I ?_⟩
    rw [ex] at q
    refine ⟨F, e, sr, (sbind (PF c) q).imp (fun _ _ _ z => z) fun v H1 ⟨F1, e1, u, s1, _, f1, z⟩ => ?_⟩
    obtain ⟨ds, z1, z⟩ := opt_some z
    obtain ⟨e2, z2, z⟩ := opt_some z
    obtain ⟨hl, rfl⟩ := asgs_eq z2
    refine gP_of s1.le z1 f1 fun vs fvs => ?_
    exact z F1 H1 _ (sr_pat s1 fvs fun j hj => by obtain ⟨x, hx⟩ := pat_lt h2 j hj; exact g.lt I hx) (Ext.refl.sub fun a ha => pat_ft ha)
  · cases h
theorem os_app (i : Nat) (t : T) : OkS c call k io fr (.app i t) := by
  refine ok_s (fun {c X W M N sc hot x} g h => ?_) (fun _ _ _ _ _ => rfl) c
  unfold mS at h
  split at h
  · rename_i x px m apos e cpos pos
    simp only [Bool.and_eq_true, beq_iff_eq] at h
    obtain ⟨⟨⟨⟨⟨⟨rfl, h2⟩, h3⟩, h4⟩, h5⟩, h6⟩, h7⟩ := h
    obtain ⟨o1, o2, _⟩ := okName_of h6
    have hv : PE X (.Name x px) (tVar i) := pe_var (by rw [g.hN]; exact h4) (by rw [g.hsc]; exact vis_of h5) o1 o2
    refine ps_imp (ps_expr (pe_bm PySem.F.plainAttrs_list PySem.F.slot_list_append PySem.F.type_list_append mt_append hv (pa_cons ((ok_all t).e g.toGd h7) pa_nil (star_of h3)) rfl (by rw [star_of h3]; rfl) (beq_iff_eq.mpr h2) (star_of h3) rfl)) fun Z σ H ⟨F, e, sr, q⟩ => ?_
    rw [ex] at q
    by_cases ho : isOL (e.get i) = true
    · rw [if_pos ho] at q
      obtain ⟨l0, hl0⟩ := isOL_of ho
      obtain ⟨ad, vs0, g1, g2, g3⟩ := own_list sr hl0
      refine ⟨.ref ad, g1, .inl ⟨rfl, vs0, SqL.of g2⟩, F, e, sr, (sbind (PF c) q).imp (fun _ _ _ z => z) fun v H1 ⟨F1, e1, u, s1, _, f1, z⟩ => ?_⟩
      cases hs : e1.get i with
      | un => rw [hs] at z; exact z.elim
      | fz d => rw [hs] at z; exact z.elim
      | own d =>
        rw [hs] at z
        cases d <;> first | exact z.elim | skip
        rename_i l
        have z : TopS c W fr Z F1 H1 e1 σ (if l.length < lim then .nx (e1.put i (.own (.lst (l ++ [u])))) else .bad) := z
        by_cases hll : l.length < lim
        · rw [if_pos hll] at z
          obtain ⟨ad2, vs, k1, k2, k3⟩ := own_list s1 hs
          rw [g1] at k1; cases k1
          obtain ⟨s2, x2⟩ := s1.change (d' := .lst (l ++ [u])) (x' := .lst (vs ++ [v])) hs g1 (FzL.append k3 (by unfold FzL; exact ⟨v, [], rfl, f1, by unfold FzL; rfl⟩))
          exact ⟨ad, vs, v, rfl, rfl, k2, by rw [k3.len]; exact hll, z _ _ _ s2 x2⟩
        · rw [if_neg hll] at z; exact z.elim
    · rw [if_neg ho] at q; exact q.elim
  · cases h
theorem os_retN : OkS c call k io fr .retN := by
  refine ok_s (fun {c X W M N sc hot x} g h => ?_) (fun _ _ _ _ _ => rfl) c
  unfold mS at h
  split at h
  · refine ps_imp ps_retN fun Z σ H ⟨F, e, s, q⟩ => ?_
    rw [ex] at q
    by_cases hf : fr = true
    · rw [if_pos hf] at q; exact q.elim
    · rw [if_neg hf] at q
      refine q F H .non s.le ?_
      rw [if_neg hf]
      exact ⟨by unfold Fz; rfl, Ext.refl.sub fun a ha => ha.elim⟩
  · cases h
theorem NewR.drop {F H F' H' : Hp} {A A' : Addr → Prop} {d : D} {v : V} (n : NewR c F H A F' H' A' d v) : NewR c F H A F' H' noA d v := by
  unfold NewR at n ⊢
  split at n
  · rename_i q
    rw [if_pos q]
    obtain ⟨a, o, h1, h2, h3, h4, _, x⟩ := n
    exact ⟨a, o, h1, h2, h3, h4, id, x.sub fun b hb => hb.elim (fun z => z.elim) .inr⟩
  · rename_i q
    rw [if_neg q]
    exact ⟨n.1, n.2.sub fun b hb => hb.elim⟩
theorem ret_nvar (t : T) : (∃ i, t = .var i) ∨ (∀ c W call, tBw c W call t = tE c W call t) ∧ ∀ G call io fr e, ex G call io fr (.ret t) e = (evE G call t e).st fun d e => if (fr && !(freshT G t && d.isMut)) = true then .bad else .rt d e := by
  cases t <;> first | exact .inl ⟨_, rfl⟩ | exact .inr ⟨fun _ _ _ => rfl, fun _ _ _ _ _ => rfl⟩
theorem ret_read {t : T} {Z : Ends} {σ : L2.St} {H : Hp} (h : tS c W call io fr (.ret t) Z σ H) : ((fr && freshT c.G t) = true → tN c W call t σ H Z.rt) ∧ ((fr && freshT c.G t) = false → tBw c W call t σ H Z.rt) := by
  obtain ⟨F, e, s, q⟩ := h
  rcases ret_nvar t with ⟨i, rfl⟩ | ⟨hb, hx⟩
  · have key : tVar i σ H Z.rt := by
      rw [ex] at q
      cases hs : e.get i with
      | un => rw [hs] at q; exact q.elim
      | fz d =>
        rw [hs] at q
        have q : TopS c W fr Z F H e σ (if (fr || d.isErr) = true then .bad else .rt d e) := q
        by_cases hb : (fr || d.isErr) = true
        · rw [if_pos hb] at q; exact q.elim
        · rw [if_neg hb] at q
          simp only [Bool.or_eq_true, not_or] at hb
          obtain ⟨v, h1, h2⟩ := s.fz hs (by rintro kk fs rfl; exact hb.2 rfl)
          refine ⟨v, h1, q F H v s.le ?_⟩
          rw [if_neg hb.1]
          exact ⟨h2, Ext.refl.sub fun a ha => ha.elim⟩
      | own d =>
        rw [hs] at q
        have q : TopS c W fr Z F H e σ (if (io.getD i false) = true then .bad else .rt d (e.put i .un)) := q
        by_cases hb : (io.getD i false) = true
        · rw [if_pos hb] at q; exact q.elim
        · rw [if_neg hb] at q
          obtain ⟨a, o, h1, h2, h3, h4⟩ := s.own hs
          have hm : d.isMut = true := by cases d <;> cases o <;> first | rfl | exact h4.elim
          have fa : Ft e σ a := ⟨i, d, hs, h1⟩
          have n : NewR c F H (Ft e σ) F H noA d (.ref a) := by
            unfold NewR
            rw [if_pos hm]
            exact ⟨a, o, rfl, h2, h3, h4, id, Ext.refl.sub fun b hb => by
              rcases hb with z | z
              · exact z.elim
              · rw [z]; exact fa⟩
          by_cases hf : fr = true
          · refine ⟨.ref a, h1, q F H _ s.le ?_⟩
            rw [if_pos hf]; exact n
          · refine ⟨.ref a, h1, q (L2.upd F a o) H _ (fun b u hb' => ?_) ?_⟩
            · by_cases z : b = a
              · subst z; rw [upd_same] at hb'; rw [h3]; exact hb'
              · rw [upd_ne z] at hb'; exact s.le b u hb'
            · rw [if_neg hf]
              refine ⟨OwnO.fz (Same.upd h2) upd_same h4, Same.upd h2, fun b u hb' _ => hb', fun b z => ?_⟩
              by_cases w : b = a
              · rw [w]; exact .inr (.inl fa)
              · rw [upd_ne w] at z
                exact z.elim .inl fun z => z.elim
    exact ⟨fun hf => (by rw [show freshT c.G (.var i) = false from rfl, Bool.and_false] at hf; exact absurd hf Bool.false_ne_true), fun _ => key⟩
  · rw [hx] at q
    refine ⟨fun hf => ⟨F, e, s, ?_⟩, fun hf => ?_⟩
    · rw [Bool.and_eq_true] at hf
      cases hq : evE c.G call t e with
      | bad => rw [hq] at q; exact q.elim
      | exc y e' => rw [hq] at q; exact fun F' H' cls dd s' x p => q F' H' σ cls dd s' x p
      | ok d e1 =>
        rw [hq] at q
        have q : TopS c W fr Z F H e σ (if (fr && !(freshT c.G t && d.isMut)) = true then .bad else .rt d e1) := q
        by_cases hm : d.isMut = true
        · rw [if_neg (by rw [hf.1, hf.2, hm]; decide)] at q
          intro F' H' v s' n
          refine q F' H' v s'.le ?_
          rw [if_pos hf.1]
          exact n.drop
        · rw [if_pos (by rw [hf.1, hf.2]; simp [hm])] at q; exact q.elim
    · have hE : tE c W call t σ H Z.rt := by
        refine ⟨F, e, s, ?_⟩
        cases hq : evE c.G call t e with
        | bad => rw [hq] at q; exact q.elim
        | exc y e' => rw [hq] at q; exact fun F' H' cls dd s' x p => q F' H' σ cls dd s' x p
        | ok d e1 =>
          rw [hq] at q
          have q : TopS c W fr Z F H e σ (if (fr && !(freshT c.G t && d.isMut)) = true then .bad else .rt d e1) := q
          by_cases hr : fr = true
          · rw [hr, Bool.true_and] at hf
            rw [if_pos (by rw [hr, hf]; rfl)] at q; exact q.elim
          · rw [if_neg (by simp [hr])] at q
            intro F' H' v s' x f
            refine q F' H' v s'.le ?_
            rw [if_neg hr]
            exact ⟨f, x.sub fun b hb => hb.elim⟩
      rw [hb]; exact hE
theorem os_ret (t : T) : OkS c call k io fr (.ret t) := by
  refine ok_s (fun {c X W M N sc hot x} g h => ?_) (fun _ _ _ _ _ => rfl) c
  unfold mS at h
  split at h
  · rename_i e pos
    refine ⟨fun pins s σ H Z I q => ?_⟩
    have r := ret_read q
    by_cases hf : (fr && freshT c.G t) = true
    · exact (ps_ret ((ok_all t).n g.toGd h (by rw [Bool.and_eq_true] at hf; exact hf.2))).run pins s σ H Z I (r.1 hf)
    · exact (ps_ret ((ok_all t).b g.toGd h)).run pins s σ H Z I (r.2 (by simpa using hf))
  · cases h

def rAug (c : Cn) (op : BOp) : TIp := fun x y H Q => ∃ F dx dy d, Fz c.K c.ca F dx x ∧ Fz c.K c.ca F dy y ∧ augop op dx dy = some d ∧ ∀ v, Fz c.K c.ca F d v → Q v H
theorem ip_aug (op : BOp) : PIp X (pyB op) (rAug c op) := by
  intro pins s σ H x y v u Q I rx ry ⟨F, dx, dy, d, fx, fy, e, q⟩
  cases op <;> try (cases e; done)
  all_goals
    cases dx <;> try (cases e; done)
    cases dy <;> try (cases e; done)
    rename_i i j
    cases e
    have ex : x = .int i := by unfold Fz at fx; exact fx
    have ey : y = .int j := by unfold Fz at fy; exact fy
    subst ex ey
  · exact ip_add pins s σ H _ _ v u Q I rx ry ⟨i, j, rfl, rfl, q _ (by unfold Fz; rfl)⟩
  · exact ip_sub pins s σ H _ _ v u Q I rx ry ⟨i, j, rfl, rfl, q _ (by unfold Fz; rfl)⟩
theorem os_aug (i : Nat) (op : BOp) (t : T) : OkS c call k io fr (.aug i op t) := by
  refine ok_s (fun {c X W M N sc hot x} g h => ?_) (fun _ _ _ _ _ => rfl) c
  unfold mS at h
  split at h
  · rename_i y py o e pos
    simp only [Bool.and_eq_true, beq_iff_eq] at h
    obtain ⟨⟨⟨⟨h1, h2⟩, h3⟩, h4⟩, h5⟩ := h
    obtain rfl := bopIs_eq h4
    refine ⟨fun pins s σ H Z I ⟨F, e, sr, q⟩ => (ps_aug (by rw [g.hN]; exact g.nd) (by rw [g.hN]; exact h1) (by rw [g.hsc]; exact loc_of h2) ((ok_all t).e g.toGd h5) (ip_aug (c := c) op) (.inl (g.fnA y))).run pins s σ H Z I ?_⟩
    rw [ex] at q
    obtain ⟨d, z1, q⟩ := opt_some q
    obtain ⟨x, hx, fx⟩ := sr.fzd z1
    refine ⟨x, hx, F, e, sr, (sbind (PF c) q).imp (fun _ _ _ z => z) fun v H1 ⟨F1, e1, u, s1, sm, f1, z⟩ => ?_⟩
    obtain ⟨d2, z2, z⟩ := opt_some z
    obtain ⟨e2, z3, z⟩ := opt_some z
    have := asg_some z3
    subst this
    refine ⟨F1, d, u, d2, fx.mono sm, f1, z2, fun v2 f2 => ?_⟩
    obtain ⟨s2, x2⟩ := TopS.put s1 (i := i) (g.lt I h1) (slot_fz f2) (fun d a z => nomatch z) (fun d z => nomatch z)
    exact z F1 H1 _ s2 x2
  · cases h
theorem isOw_of {s : Sl} (h : isOw s = true) : ∃ d, s = .own d := by
  cases s <;> first | exact ⟨_, rfl⟩ | cases h
theorem os_put (i : Nat) (kk t : T) : OkS c call k io fr (.put i kk t) := by
  refine ok_s (fun {c X W M N sc hot x} g h => ?_) (fun _ _ _ _ _ => rfl) c
  unfold mS at h
  split at h
  · rename_i x px ke tp e pos
    simp only [Bool.and_eq_true, beq_iff_eq, Bool.not_eq_true'] at h
    obtain ⟨⟨⟨⟨⟨⟨h1, h2⟩, h3⟩, h4⟩, h5⟩, h6⟩, h7⟩ := h
    obtain ⟨o1, o2, _⟩ := okName_of h3
    have hv : PE X (.Name x px) (tVar i) := pe_var (by rw [g.hN]; exact h1) (by rw [g.hsc]; exact vis_of h2) o1 o2
    have hset : PSet X (fun o y v H Q => rSetL o y v H Q ∨ ∃ a H2, o = .ref a ∧ DPut H a y v H2 ∧ Q H2) := by
      intro pins s σ H o y v ov iv u Q I ro ri rv q
      rcases q with q | ⟨a, H2, rfl, dp, q⟩
      · exact set_list pins s σ H o y v ov iv u Q I ro ri rv q
      · obtain rfl : ov = Value.ref a := ro
        exact d_setItem (by have := g.un; omega) I dp ri rv fun s' I' => ⟨H2, I', q⟩
    have hpg : PG X (.Subscript (.Name x px) ke tp) (gSub (tVar i) (tE c W call kk) _) := pg_sub hv ((ok_all kk).e g.toGd h5) hset (by
      intro v
      cases ke <;> first | rfl | cases h4)
    refine ⟨fun pins s σ H Z I ⟨F, e, sr, q⟩ => (ps_asg ((ok_all t).e g.toGd h6) hpg (by unfold swapsWithSole; exact sw_no h7) (by cases e <;> rfl) rfl).run pins s σ H Z I ?_⟩
    rw [ex] at q
    refine ⟨F, e, sr, (sbind (PF c) q).imp (fun _ _ _ z => z) fun v H1 ⟨F1, e1, u, s1, sm, f1, z⟩ => ?_⟩
    by_cases ho : isOw (e1.get i) = true
    · rw [if_pos ho] at z
      obtain ⟨d0, hd0⟩ := isOw_of ho
      obtain ⟨ad, o0, g1, _, _, _⟩ := s1.own hd0
      refine ⟨.ref ad, g1, F1, e1, s1, (sbind (PF c) z).imp (fun _ _ _ z => z) fun y H2 ⟨F2, e2, ky, s2, sm2, f2, z⟩ => ?_⟩
      have z : TopS c W fr Z F2 H2 e2 σ (putS i u ky e2 (e2.get i)) := z
      cases hs : e2.get i with
      | un => rw [hs] at z; exact z.elim
      | fz d => rw [hs] at z; exact z.elim
      | own d =>
        rw [hs] at z
        obtain ⟨ad2, o2, k1, k2, k3, k4⟩ := s2.own hs
        rw [g1] at k1; cases k1
        cases d <;> first | exact z.elim | skip
        · rename_i l
          have z : TopS c W fr Z F2 H2 e2 σ (putL i u ky e2 l) := z
          cases ky <;> first | exact z.elim | skip
          rename_i n _ _
          have ey : y = .int n := by unfold Fz at f2; exact f2
          subst ey
          obtain ⟨j, z1, z⟩ := opt_some z
          cases o2 <;> first | exact k4.elim | skip
          rename_i vs
          have k4 : FzL c.K c.ca F2 l vs := k4
          obtain ⟨s3, x3⟩ := s2.change (d' := .lst (l.set j u)) (x' := .lst (vs.set j v)) hs g1 (FzL.set (f1.mono sm2) j k4)
          exact .inl ⟨ad, vs, n, j, rfl, rfl, k3, by rw [k4.len]; exact z1, z _ _ _ s3 x3⟩
        · rename_i l
          have z : TopS c W fr Z F2 H2 e2 σ (if (ky.isKey && decide (l.length < lim)) = true then .nx (e2.put i (.own (.dct (putKey ky u l)))) else .bad) := z
          by_cases hk : (ky.isKey && decide (l.length < lim)) = true
          · rw [if_pos hk] at z
            rw [Bool.and_eq_true, decide_eq_true_eq] at hk
            cases o2 <;> first | exact k4.elim | skip
            rename_i ks
            have k4 : FzK c.K c.ca F2 l ks := k4
            obtain ⟨kk2, hk1, hk2⟩ := key_of hk.1 f2
            subst hk2
            obtain ⟨s3, x3⟩ := s2.change (d' := .dct (putKey ky u l)) (x' := .dK (putK ks kk2 v)) hs g1 (FzK.put k4 hk1 (f1.mono sm2))
            exact .inr ⟨ad, _, rfl, DPut.k k3 (by rw [← k4.len]; exact hk.2), z _ _ _ s3 x3⟩
          · rw [if_neg hk] at z; exact z.elim
    · rw [if_neg ho] at z; exact z.elim
  · cases h

theorem sw2 {env : PySem.Env} {x y : Str} {px py pt pt2 : Pos} {k k2 : Nat} {v w : Expr} (hk : env.scope.kind = .function) (h : swB2 env.scope x px y py v w = true) : swappedStores [.Tuple [.Name x px, .Name y py] k pt] (.Tuple [v, w] k2 pt2) env = pure (some [x, y]) := by
  unfold swB2 at h
  simp only [Bool.and_eq_true, beq_iff_eq, Bool.not_eq_true'] at h
  obtain ⟨⟨⟨⟨⟨⟨⟨h1, h2⟩, h3⟩, h4⟩, h5⟩, h6⟩, h7⟩, h8⟩ := h
  have hb : env.blockKind = .function := by unfold Env.blockKind; rw [hk]; rfl
  have kx : env.kindOf x = some .local := h1
  have ky : env.kindOf y = some .local := h2
  have h4' : (y == x) = false := by
    rw [beq_eq_false_iff_ne] at h4 ⊢
    exact Ne.symm h4
  have a1 : ∀ {v : Expr}, noStar v = true → (match v with | .Starred .. => true | _ => false) = false := fun {v} h => by cases v <;> first | rfl | cases h
  have st : ([v, w].any fun | .Starred .. => true | _ => false) = false := by
    rw [List.any_cons, List.any_cons, a1 h5, a1 h6]; rfl
  have ed : [x, y].eraseDups = [x, y] := by simp [List.eraseDups, List.eraseDupsBy, List.eraseDupsBy.loop, h4, h4']
  unfold swappedStores
  simp [hb, kx, ky, h3, st, h7, h8, ed, Expr.pos]
  intro hh
  rcases hh with hh | hh
  · cases v <;> first | (cases h5; done) | (cases hh; done)
  · cases w <;> first | (cases h6; done) | (cases hh; done)
theorem os_par2 (i j : Nat) (a b : T) : OkS c call k io fr (.par2 i j a b) := by
  refine ok_s (fun {c X W M N sc hot x} g h => ?_) (fun _ _ _ _ _ => rfl) c
  unfold mS at h
  split at h
  · rename_i x px y py k1 p1 v w k2 p2 pos
    simp only [Bool.and_eq_true, beq_iff_eq, Bool.not_eq_true'] at h
    obtain ⟨⟨⟨⟨⟨h1, h2⟩, h3⟩, h4⟩, h5⟩, h6⟩ := h
    have h4' := h4
    unfold swB2 at h4'
    simp only [Bool.and_eq_true, beq_iff_eq, Bool.not_eq_true'] at h4'
    obtain ⟨⟨⟨⟨⟨⟨⟨l1, l2⟩, _⟩, l4⟩, n1⟩, n2⟩, _⟩, _⟩ := h4'
    have hij : i ≠ j := fun z => by
      subst z
      rw [h2] at h3
      cases h3
      simp at l4
    refine ⟨fun pins s σ H Z I ⟨F, e, sr, q⟩ => (ps_par (g.cold (by rw [h1]; rfl)).1 (by rw [g.hN]; exact g.nd) (by rw [g.hN]; exact h2) (by rw [g.hN]; exact h3) hij (by rw [g.hsc]; exact l1) (by rw [g.hsc]; exact l2) (pa_cons ((ok_all a).e g.toGd h5) (pa_cons ((ok_all b).e g.toGd h6) pa_nil (star_of n2)) (star_of n1))
      (sw2 I.ok.kind (by rw [g.hsc]; exact h4)) rfl).run pins s σ H Z I ?_⟩
    rw [ex] at q
    refine ⟨F, e, sr, (sbind (PF c) q).imp (fun _ _ _ z => z) fun v1 H1 ⟨F1, e1, u1, s1, _, f1, z⟩ => ?_⟩
    refine ⟨F1, e1, s1, (sbind (PF c) z).imp (fun _ _ _ z => z) fun v2 H2 ⟨F2, e2, u2, s2, sm, f2, z⟩ => ?_⟩
    rw [if_neg hij] at z
    obtain ⟨e3, z1, z⟩ := opt_some z
    obtain ⟨e4, z2, z⟩ := opt_some z
    have := asg_some z1
    subst this
    have := asg_some z2
    subst this
    obtain ⟨s3, x3⟩ := TopS.put s2 (i := i) (g.lt I h2) (slot_fz (f1.mono sm)) (fun d a z => nomatch z) (fun d z => nomatch z)
    obtain ⟨s4, x4⟩ := TopS.put s3 (i := j) (by rw [List.length_set]; exact g.lt I h3) (slot_fz f2) (fun d a z => nomatch z) (fun d z => nomatch z)
    exact ⟨v1, v2, rfl, z F2 H2 _ s4 (x3.trans s3.ft x4)⟩
  · cases h
theorem for_any {F : Hp} {items : List D} {J : It} (hJ : ItR c F items J) {g : TG} {tb : TS} {Z : Ends} {σ : L2.St} {H : Hp} (Pv : Nat → L2.St → Hp → Prop) (h0 : Pv 0 σ H) (hl : ∀ i σ H, Pv i σ H → Same F H)
    (hs : ∀ i d x σ H, items[i]? = some d → Fz c.K c.ca F d x → Pv i σ H → g x σ H fun σ2 H2 => tb { Z with nx := Pv (i + 1), ct := Pv (i + 1), bk := Z.nx } σ2 H2) (hd : ∀ σ H, Pv items.length σ H → Z.nx σ H) :
    ∃ W : Nat → Nat → L2.St → Hp → Prop, (∃ m, W 0 m σ H) ∧ ∀ i m σ H, W i m σ H →
      (J.stop i H ∧ Z.nx σ H) ∨ (J.go i H ∧ ∃ N : L2.St → Hp → Prop, (∀ σ' H', N σ' H' → ∃ m', m' < m ∧ W (i + 1) m' σ' H') ∧ ∀ x H', J.yld i H x H' → g x σ H' fun σ2 H2 => tb { Z with nx := N, ct := N, bk := Z.nx } σ2 H2) := by
  rcases hJ with ⟨a, xs, rfl, hq, hf⟩ | ⟨a, xs, rfl, hq, hf⟩ | ⟨lo, n, rfl, rfl⟩
  · exact for_list Pv h0 (fun i σ H _ p => Same.seq (hl i σ H p) hq) (fun i x σ H e p => by
      obtain ⟨d, h1, h2⟩ := hf.getV e
      exact hs i d x σ H h1 h2 p) fun σ H p => hd σ H (by rw [← hf.len]; exact p)
  · exact for_tup Pv h0 (fun i σ H _ p => same_tup (hl i σ H p) hq) (fun i x σ H e p => by
      obtain ⟨d, h1, h2⟩ := hf.getV e
      exact hs i d x σ H h1 h2 p) fun σ H p => hd σ H (by rw [← hf.len]; exact p)
  · refine for_range Pv h0 (fun i σ H hi p => hs i (.int (lo + i)) _ σ H (by unfold ranged; simp [hi]) (by unfold Fz; rfl) p) fun σ H p => hd σ H ?_
    have : (ranged lo n).length = n := by unfold ranged; simp
    rw [this]; exact p
theorem os_for (p : List Nat) (many : Bool) (it : T) {b : S} (hb : OkS c call k io fr b) : OkS c call k io fr (.for_ p many it b) := by
  refine ⟨fun {X W M N sc hot x} g h => ?_, fun g h => nomatch h⟩
  unfold mS at h
  split at h
  · rename_i tg iter body pos
    simp only [Bool.and_eq_true, Bool.not_eq_true'] at h
    obtain ⟨⟨⟨h1, h2⟩, h3⟩, h4⟩ := h
    refine ps_imp (ps_for (g.pa h3) (g.cold (by rw [h3]; rfl)).1 ((ok_all it).i g.toGd h2) (g.pg h3 h1) (hb.b g h4) (fold_of (mI_star h2))) fun Z σ H ⟨F, e, sr, q⟩ => ?_
    rw [ex] at q
    refine ⟨F, e, sr, (sbind (fun F items J => ItR c F items J) q).imp (fun _ _ _ z => z) fun J H1 ⟨F1, e1, items, s1, _, hJ, z⟩ => ?_⟩
    refine for_any hJ (fun i σ H => i ≤ items.length ∧ ∃ F2 e2, SR c F2 H e2 σ ∧ Same F1 F2 ∧ TopS c W fr Z F2 H e2 σ (forL io p many (fun e => ex c.G call io fr b e) (items.drop i) e2))
      ⟨Nat.zero_le _, F1, e1, s1, Same.refl F1, z⟩ (fun i σ H ⟨_, F2, e2, s2, sm, _⟩ => Same.trans sm s2.le) (fun i d x σ H hd fx ⟨hi, F2, e2, s2, sm, zz⟩ => ?_) fun σ H ⟨hi, F2, e2, s2, sm, zz⟩ => ?_
    · have hlt : i < items.length := (List.getElem?_eq_some_iff.mp hd).1
      have hdr : items.drop i = d :: items.drop (i + 1) := by
        rw [List.drop_eq_getElem_cons hlt, (List.getElem?_eq_some_iff.mp hd).2]
      rw [hdr, forL] at zz
      obtain ⟨ds, z1, zz⟩ := opt_some zz
      obtain ⟨e3, z2, zz⟩ := opt_some zz
      obtain ⟨⟨hl, hlt2⟩, rfl⟩ := asgs_eq z2
      refine gP_of s2.le z1 (fx.mono sm) fun vs fvs => ?_
      have s3 : SR c F2 H (setPat p ds e2) (setSt p vs σ) := sr_pat s2 fvs fun j hj => by rw [← s2.len]; exact hlt2 j hj
      have zz := TopS.step s3 (Ext.refl.sub fun a ha => pat_ft ha) zz
      refine ⟨F2, _, s3, ?_⟩
      cases hq : ex c.G call io fr b (setPat p ds e2) with
      | nx e4 => rw [hq] at zz; exact fun F' H' σ' s' x => ⟨hlt, F', e4, s', Same.trans sm x.ff, TopS.step s' x zz⟩
      | ct e4 => rw [hq] at zz; exact fun F' H' σ' s' x => ⟨hlt, F', e4, s', Same.trans sm x.ff, TopS.step s' x zz⟩
      | bk e4 => rw [hq] at zz; exact zz
      | rt d e4 => rw [hq] at zz; exact zz
      | exc y e4 => rw [hq] at zz; exact zz
      | bad => rw [hq] at zz; exact zz
    · rw [List.drop_length, forL] at zz
      exact zz.at_nx s2
  · cases h
theorem os_while (t : T) {b : S} (hb : OkS c call k io fr b) : OkS c call k io fr (.while_ t b) := by
  refine ⟨fun {X W M N sc hot x} g h => ?_, fun g h => nomatch h⟩
  unfold mS at h
  split at h
  · rename_i te body pos
    simp only [Bool.and_eq_true, Bool.not_eq_true'] at h
    obtain ⟨⟨h1, h3⟩, h4⟩ := h
    refine ps_imp (ps_while (g.pa h3) ((ok_all t).cc g.toGd h1) (hb.b g h4)) fun Z σ H ⟨F, e, sr, q⟩ => ?_
    rw [ex] at q
    refine ⟨fun m σ H => ∃ F e, SR c F H e σ ∧ TopS c W fr Z F H e σ (whileN (fun e => evC c.G call t e) (fun e => ex c.G call io fr b e) m e), ⟨_, F, e, sr, q⟩, fun m σ H ⟨F, e, sr, q⟩ => ?_⟩
    cases m with
    | zero => rw [whileN] at q; exact q.elim
    | succ m =>
      rw [whileN] at q
      refine ⟨F, e, sr, (sbind PB q).imp (fun _ _ _ z => z) fun v H1 ⟨F1, e1, u, s1, _, f1, z⟩ => ?_⟩
      cases f1
      cases v with
      | false => rw [if_neg Bool.false_ne_true] at z ⊢; exact z.at_nx s1
      | true =>
        rw [if_pos rfl] at z ⊢
        refine ⟨fun σ' H' => ∃ F e, SR c F H' e σ' ∧ TopS c W fr Z F H' e σ' (whileN (fun e => evC c.G call t e) (fun e => ex c.G call io fr b e) m e), fun σ' H' w => ⟨m, Nat.lt_succ_self m, w⟩, F1, e1, s1, ?_⟩
        cases hq : ex c.G call io fr b e1 with
        | nx e4 => rw [hq] at z; exact fun F' H' σ' s' x => ⟨F', e4, s', TopS.step s' x z⟩
        | ct e4 => rw [hq] at z; exact fun F' H' σ' s' x => ⟨F', e4, s', TopS.step s' x z⟩
        | bk e4 => rw [hq] at z; exact z
        | rt d e4 => rw [hq] at z; exact z
        | exc y e4 => rw [hq] at z; exact z
        | bad => rw [hq] at z; exact z
  · cases h
theorem os_raise (j : Nat) (a : T) : OkS c call k io fr (.raise j a) := by
  refine ok_s (fun {c X W M N sc hot x} g h => ?_) (fun _ _ _ _ _ => rfl) c
  unfold mS at h
  split at h
  · rename_i x px es cpos pos
    simp only [Bool.and_eq_true, Bool.not_eq_true'] at h
    obtain ⟨⟨⟨h1, h2⟩, h3⟩, h4⟩ := h
    have hcls := g.cls
    have hcls : M.cls = c.M.cls := hcls
    rw [hcls] at h4
    cases hj : c.M.cls[j]? with
    | none => rw [hj] at h4; cases h4
    | some w =>
      obtain ⟨y, fs⟩ := w
      rw [hj] at h4
      simp only [Bool.and_eq_true, beq_iff_eq] at h4
      obtain ⟨rfl, h4⟩ := h4
      cases fs with
      | cons _ _ => cases h4
      | nil =>
        cases a <;> try (cases h4; done)
        dsimp only at h4
        split at h4
        · obtain ⟨g1, g2, g3⟩ := g.cl.at_ j x [] hj
          obtain ⟨_, g4, g5, B, nI, iI, bm, g6, g7⟩ := g3 rfl
          have hK := g.hK
          rw [← hK] at g2 g4 g5 g7
          refine ps_imp (ps_raise (g.cold (by rw [h1]; rfl)).1 g.tk (pmk_own g6 g7 g1 g2 (raises_own g4 g5) (gl_of g.hsc h2) (okName_of h3).1)) fun Z σ H ⟨F, e, s, q⟩ => ?_
          rw [ex, evL] at q
          exact q F H σ _ none s Ext.refl ⟨rfl, x, [], hj, .inl ⟨rfl, rfl, rfl⟩⟩
        · cases h4
  · cases h

/-- a suite's own error -/
def Cn.held (c : Cn) (a : Addr) (cls : Value) (dd : Option Addr) : Cn := { c with
  er := fun F i fs v => v = .ref a ∧ i < c.M.cls.length ∧ XR c F F ⟨i, fs⟩ cls dd
  erm := fun F F' i fs v sm h => ⟨h.1, h.2.1, h.2.2.1, by
    obtain ⟨nm, fn, h1, h2⟩ := h.2.2.2
    refine ⟨nm, fn, h1, ?_⟩
    rcases h2 with h2 | ⟨h2, ad, vs, h3, h4, h5, h6⟩
    · exact .inl h2
    · exact .inr ⟨h2, ad, vs, h3, sm _ _ h4, h5, h6.mono sm⟩⟩ }
theorem xr_lt {F H : Hp} {x : MP.X} {cls : Value} {dd : Option Addr} (h : XR c F H x cls dd) : x.c < c.M.cls.length := by
  obtain ⟨_, nm, fs, h, _⟩ := h
  exact (List.getElem?_eq_some_iff.mp h).1
theorem Gs.tr (g : Gs c call k X W M N sc hot) (hh : hot = false) {W' : WX} {pn : List (Addr × Obj)} {xe : Value → Shared → Prop} (tk : Takes (X.tr pn xe) W') (hp : PassesOwn (model X.prog X.w) X.A X.env xe) : Gs c call k (X.tr pn xe) W' M N sc hot where
  hK := g.hK
  hN := g.hN
  nd := g.nd
  hsc := g.hsc
  tk := tk
  hM := g.hM
  cold := g.cold
  un := g.un
  fx := g.fx
  cl := g.cl
  er := fun F i fs v h => by rw [(g.cold (by rw [hh]; rfl)).2.2] at h; exact h.elim
  fnA := g.fnA
  pa := fun _ => hp
  st := g.st
  fm := g.fm
  xw := fun z => by rw [hh] at z; cases z
theorem Gs.suite (g : Gs c call k X W M N sc hot) (a : Addr) (oe : Obj) (cls : Value) (dd : Option Addr) (pn : List (Addr × Obj)) (hz : Zc cls dd oe) (hf : ∃ vs, oe.data = .fields vs) : Gs (c.held a cls dd) call k (X.suite a ((a, oe) :: pn)) noW M N sc true where
  hK := g.hK
  hN := g.hN
  nd := g.nd
  hsc := g.hsc
  tk := fun u s' ⟨_, _, _, _, _, _, _, _, _, _, _, _, _, _, _, _, w⟩ => w.elim
  hM := by
    have := g.hM
    show M.heat true = c.M.heat true
    exact congrArg (·.heat true) this
  cold := fun z => nomatch z
  un := g.un
  fx := ⟨g.fx.glob, g.fx.bis, g.fx.bfs, g.fx.fn⟩
  cl := ⟨g.cl.at_, g.cl.sub, g.cl.ve⟩
  er := fun F i fs v ⟨h1, h2, h3⟩ => ⟨h2, X, a, oe, pn, dd, rfl, h1, by
    have e := h3.1
    rw [e] at hz
    exact hz, hf, by
    have e := h3.1
    subst e
    exact h3⟩
  fnA := g.fnA
  pa := fun z => nomatch z
  st := g.st
  fm := g.fm
  xw := fun _ _ _ _ _ z => z
theorem Gs.suite0 (g : Gs c call k X W M N sc hot) (hh : hot = false) (a : Addr) (oe : Obj) (pn : List (Addr × Obj)) : Gs c call k (X.suite a ((a, oe) :: pn)) noW M N sc true where
  hK := g.hK
  hN := g.hN
  nd := g.nd
  hsc := g.hsc
  tk := fun u s' ⟨_, _, _, _, _, _, _, _, _, _, _, _, _, _, _, _, w⟩ => w.elim
  hM := by
    have := g.hM
    show M.heat true = c.M.heat true
    exact congrArg (·.heat true) this
  cold := fun z => nomatch z
  un := g.un
  fx := g.fx
  cl := g.cl
  er := fun F i fs v h => by rw [(g.cold (by rw [hh]; rfl)).2.2] at h; exact h.elim
  fnA := g.fnA
  pa := fun z => nomatch z
  st := g.st
  fm := g.fm
  xw := fun _ _ _ _ _ z => z
theorem sr_hold {F H : Hp} {e : Env} {σ : L2.St} {a : Addr} {cls : Value} {dd : Option Addr} (hc : c.er = fun _ _ _ _ => False) (s : SR c F H e σ) : SR (c.held a cls dd) F H e σ := by
  refine ⟨s.le, s.len, fun j => ?_, s.inj⟩
  have sl := s.sl j
  cases hj : e.get j with
  | un => trivial
  | own d => rw [hj] at sl; exact sl
  | fz d =>
    rw [hj] at sl
    obtain ⟨v, h1, h2⟩ := sl
    refine ⟨v, h1, ?_⟩
    cases d <;> first | exact h2 | (rw [hc] at h2; exact h2.elim)
theorem sr_drop {F H : Hp} {e : Env} {σ : L2.St} {a : Addr} {cls : Value} {dd : Option Addr} (s : SR (c.held a cls dd) F H e σ) (hn : noErr e = true) : SR c F H e σ := by
  refine ⟨s.le, s.len, fun j => ?_, s.inj⟩
  have sl := s.sl j
  cases hj : e.get j with
  | un => trivial
  | own d => rw [hj] at sl; exact sl
  | fz d =>
    rw [hj] at sl
    obtain ⟨v, h1, h2⟩ := sl
    refine ⟨v, h1, ?_⟩
    cases d <;> first | exact h2 | skip
    exfalso
    unfold noErr at hn
    rw [List.all_eq_true] at hn
    have hl : j < e.length := get_lt (by rw [hj]; exact fun z => nomatch z)
    have : e.get j ∈ e := by
      unfold Env.get
      rw [List.getD_eq_getElem?_getD, List.getElem?_eq_getElem hl]
      exact List.getElem_mem hl
    have := hn _ this
    rw [hj] at this
    cases this
theorem sr_gone {c : Cn} {F H : Hp} {e : Env} {σ : L2.St} (s : SR c F H e σ) (i : Nat) : SR c F H (e.put i .un) (σ.set i none) := s.wipe [i]
theorem ft_gone {e : Env} {σ : L2.St} {i : Nat} {a : Addr} (h : Ft (e.put i .un) (σ.set i none) a) : Ft e σ a := by
  obtain ⟨j, d, h1, h2⟩ := h
  rw [get_put'] at h1
  by_cases q : j = i ∧ i < e.length
  · rw [if_pos q] at h1; cases h1
  · rw [if_neg q] at h1
    by_cases z : j = i
    · subst z
      rw [get_ge (by simp at q; omega)] at h1; cases h1
    · rw [List.getElem?_set_ne (Ne.symm z)] at h2
      exact ⟨j, d, h1, h2⟩
theorem os_try (j : Nat) (i : Option Nat) {b h : S} (hb : ∀ c, OkS c call k io fr b) (hh : ∀ c, OkS c call k io fr h) : OkS c call k io fr (.try_ b j i h) := by
  refine ⟨fun {X W M N sc hot x} g hm => ?_, fun g h => nomatch h⟩
  unfold mS at hm
  split at hm
  · rename_i body cx np nm y pos' pos
    simp only [Bool.and_eq_true, Bool.not_eq_true'] at hm
    obtain ⟨⟨⟨⟨⟨⟨h1, h2⟩, h3⟩, h4⟩, h5⟩, h6⟩, h7⟩ := hm
    have hce := (g.cold (by rw [h4]; rfl)).2.2
    have hcls : M.cls = c.M.cls := g.cls
    rw [hcls] at h3
    have hj : ∃ fs, c.M.cls[j]? = some (cx, fs) := by
      cases hj : c.M.cls[j]? with
      | none => rw [hj] at h3; cases h3
      | some w =>
        obtain ⟨z, fs⟩ := w
        rw [hj] at h3
        exact ⟨fs, by rw [beq_iff_eq.mp h3]⟩
    obtain ⟨fs, hj⟩ := hj
    obtain ⟨g1, g2, _⟩ := g.cl.at_ j cx fs hj
    have hjl : j < c.M.cls.length := (List.getElem?_eq_some_iff.mp hj).1
    have hnames : Names X cx (.ref (c.ca j)) := ⟨gl_of g.hsc h1, (okName_of h2).1, .inl g1⟩
    have hsub : ∀ x : MP.X, x.c < c.M.cls.length → PySem.W.exmOne X.K (.ref (c.ca x.c)) (.ref (c.ca j)) = some (c.G.sub x.c j) := fun x hx => by rw [g.hK]; exact (g.cl.sub x.c j hx hjl).2
    cases y with
    | nil => cases h6
    | cons b0 suite =>
      cases i with
      | none =>
        have : nm = none := by cases nm <;> first | rfl | cases h7
        subst this
        refine ps_imp (ps_try_only (tb := fun W' => tS c W' call io fr b) (ts := fun a cls d => tS c noW call io fr h) g.st g.fm hnames g.tk (fun W' pn xe tk hp => (hb c).b (g.tr h4 tk hp) h5) (fun a oe cls d pn hz hf => (hh c).b (g.suite0 h4 a oe pn) h6)) fun Z σ H ⟨F, e, sr, q⟩ => ⟨F, e, sr, ?_⟩
        rw [ex] at q
        cases hq : ex c.G call io fr b e with
        | nx e4 => rw [hq] at q; exact q
        | ct e4 => rw [hq] at q; exact q
        | bk e4 => rw [hq] at q; exact q
        | rt d e4 => rw [hq] at q; exact q
        | bad => rw [hq] at q; exact q
        | exc x e4 =>
          rw [hq] at q
          have q : TopS c W fr Z F H e σ (if c.G.sub x.c j = true then hushed (ex c.G call io fr h e4) else .exc x e4) := q
          intro F' H' σ' cls dd s' xx xr
          have hcl := xr.1
          subst hcl
          refine ⟨c.G.sub x.c j, hsub x (xr_lt xr), fun hs a ha => ?_, fun hs => ?_⟩
          · rw [if_pos hs] at q
            refine ⟨F', e4, s', ?_⟩
            have q := TopS.step s' xx q
            cases hq2 : ex c.G call io fr h e4 with
            | nx e5 => rw [hq2] at q; exact q
            | ct e5 => rw [hq2] at q; exact q
            | bk e5 => rw [hq2] at q; exact q
            | rt d e5 => rw [hq2] at q; exact q
            | bad => rw [hq2] at q; exact q
            | exc x2 e5 => rw [hq2] at q; exact q.elim
          · rw [if_neg (by rw [hs]; exact Bool.false_ne_true)] at q
            exact q F' H' σ' _ dd s' xx xr
      | some i =>
        cases nm with
        | none => cases h7
        | some n =>
          simp only [Bool.and_eq_true, beq_iff_eq] at h7
          refine ps_imp (ps_try_as (tb := fun W' => tS c W' call io fr b) (ts := fun a cls d => tS (c.held a cls d) noW call io fr h) g.st g.fm (by rw [g.hN]; exact g.nd) (i := i) (by rw [g.hN]; exact h7.1) (by unfold Env.kindOf; rw [g.hsc]; exact h7.2) hnames g.tk (fun W' pn xe tk hp => (hb c).b (g.tr h4 tk hp) h5)
            (fun a oe cls d pn hz hf => (hh (c.held a cls d)).b (g.suite a oe cls d pn hz hf) h6)) fun Z σ H ⟨F, e, sr, q⟩ => ⟨F, e, sr, ?_⟩
          rw [ex] at q
          cases hq : ex c.G call io fr b e with
          | nx e4 => rw [hq] at q; exact q
          | ct e4 => rw [hq] at q; exact q
          | bk e4 => rw [hq] at q; exact q
          | rt d e4 => rw [hq] at q; exact q
          | bad => rw [hq] at q; exact q
          | exc x e4 =>
            rw [hq] at q
            have q : TopS c W fr Z F H e σ (if c.G.sub x.c j = true then opt (asg io i (.fz (.err x.c x.fs)) e4) fun e => gone i (ex c.G call io fr h e) else .exc x e4) := q
            intro F' H' σ' cls dd s' xx xr
            have hcl := xr.1
            subst hcl
            refine ⟨c.G.sub x.c j, hsub x (xr_lt xr), fun hs a ha => ?_, fun hs => ?_⟩
            · rw [if_pos hs] at q
              obtain ⟨e5, z1, q⟩ := opt_some q
              have hlt := asg_lt z1
              have := asg_some z1
              subst this
              have q := TopS.step s' xx q
              have s2 : SR (c.held a (.ref (c.ca x.c)) dd) F' H' (e4.put i (.fz (.err x.c x.fs))) (σ'.set i (some (.ref a))) := (sr_hold hce s').put (by rw [← s'.len]; exact hlt) ⟨.ref a, rfl, rfl, xr_lt xr, xr⟩ fun d a z => nomatch z
              have ftp : ∀ b, Ft (e4.put i (.fz (.err x.c x.fs))) (σ'.set i (some (.ref a))) b → Ft e4 σ' b := fun b hb => (ft_put (by rw [← s'.len]; exact hlt) s'.len hb).elim id fun ⟨⟨d, z⟩, _⟩ => nomatch z
              have q := TopS.step' (F1 := F') (H1 := H') (e1 := e4.put i (.fz (.err x.c x.fs))) (σ1 := σ'.set i (some (.ref a))) (fun b hb => s'.ft b (ftp b hb)) (Ext.refl.sub ftp) q
              refine ⟨F', _, s2, ?_⟩
              show TopS _ _ _ _ _ _ _ _ (ex c.G call io fr h (e4.put i (.fz (.err x.c x.fs))))
              cases hq2 : ex c.G call io fr h (e4.put i (.fz (.err x.c x.fs))) with
              | nx e5 =>
                rw [hq2] at q
                have q : TopS c W fr Z F' H' _ _ (if noErr (e5.put i .un) = true then .nx (e5.put i .un) else .bad) := q
                by_cases hn : noErr (e5.put i .un) = true
                · rw [if_pos hn] at q
                  exact fun F2 H2 σ2 s3 x3 => q F2 H2 _ (sr_drop (sr_gone s3 i) hn) (x3.sub fun b hb => ft_gone hb)
                · rw [if_neg hn] at q; exact q.elim
              | ct e5 =>
                rw [hq2] at q
                have q : TopS c W fr Z F' H' _ _ (if noErr (e5.put i .un) = true then .ct (e5.put i .un) else .bad) := q
                by_cases hn : noErr (e5.put i .un) = true
                · rw [if_pos hn] at q
                  exact fun F2 H2 σ2 s3 x3 => q F2 H2 _ (sr_drop (sr_gone s3 i) hn) (x3.sub fun b hb => ft_gone hb)
                · rw [if_neg hn] at q; exact q.elim
              | bk e5 =>
                rw [hq2] at q
                have q : TopS c W fr Z F' H' _ _ (if noErr (e5.put i .un) = true then .bk (e5.put i .un) else .bad) := q
                by_cases hn : noErr (e5.put i .un) = true
                · rw [if_pos hn] at q
                  exact fun F2 H2 σ2 s3 x3 => q F2 H2 _ (sr_drop (sr_gone s3 i) hn) (x3.sub fun b hb => ft_gone hb)
                · rw [if_neg hn] at q; exact q.elim
              | rt d e5 => rw [hq2] at q; exact q
              | bad => rw [hq2] at q; exact q
              | exc x2 e5 => rw [hq2] at q; exact q.elim
            · rw [if_neg (by rw [hs]; exact Bool.false_ne_true)] at q
              exact q F' H' σ' _ dd s' xx xr
  · cases hm
theorem os_all : ∀ t c, OkS c call k io fr t := by
  intro t
  induction t with
  | skip => exact fun c => os_skip
  | seq a b ha hb => exact fun c => os_seq (ha c) (hb c)
  | set i t => exact fun c => os_set i t
  | setO i t => exact fun c => os_setO i t
  | unpack is t => exact fun c => os_unpack is t
  | par2 i j a b => exact fun c => os_par2 i j a b
  | app i t => exact fun c => os_app i t
  | put i kk t => exact fun c => os_put i kk t
  | aug i op t => exact fun c => os_aug i op t
  | augp i op kk t => exact fun c => ⟨fun g h => (nomatch h), fun g h => (nomatch h)⟩
  | expr t => exact fun c => os_expr t
  | ret t => exact fun c => os_ret t
  | retN => exact fun c => os_retN
  | ite t a b ha hb => exact fun c => os_ite t (ha c) (hb c)
  | for_ p many it b hb => exact fun c => os_for p many it (hb c)
  | while_ t b hb => exact fun c => os_while t (hb c)
  | brk => exact fun c => os_brk
  | cnt => exact fun c => os_cnt
  | raise j a => exact fun c => os_raise j a
  | try_ b j i h hb hh => exact fun c => os_try j i hb hh
  | frz i => exact fun c => os_frz i
  | never => exact fun c => os_never
end
end MP

namespace MP
open PySem L2 PySem.Spec PyProof.Rows

/-- a def of the row -/
structure DR where
  name : Str
  N : List Str
  st : Stmt
def scB (N P : List Str) (sc : Scope) : Bool := (match sc.kind with | .function => true | _ => false) && !sc.isCoroutine && !sc.isGenerator && decide N.Nodup && decide (N.take P.length = P) &&
  P.all (fun x => locB sc x) && sc.names.all (fun y => match y.2 with | .free => false | _ => true)
def drB (M : Nm) (d : MP.Def) (r : DR) : Bool := decide (r.N.length = d.ns) && decide (d.np ≤ d.ns) && scB r.N (r.N.take d.np) (defScope r.st) && mB M r.N (defScope r.st) d.body false (defBody r.st)
def prB (G : Pg) (M : Nm) (rs : List DR) : Bool := decide (rs.map (·.name) = M.defs) && decide (rs.length = G.defs.length) && ((G.defs.zip rs).all fun q => drB M q.1 q.2)
def BindN (r : DR) (ps : List Str) : Prop := ∀ (kV doc pm : Value) (an : Option Addr) (cdv ct : Value) (us : List Value), us.length = ps.length → bindArgs (PySem.W.fnOf r.name r.name (defArgs r.st) (defBody r.st) (defScope r.st) .none kV doc pm an cdv ct) ⟨us, []⟩ = pure (ps.zip us)

theorem scB_ok {N P : List Str} {sc : Scope} (h : scB N P sc = true) : FnScope N P sc := by
  unfold scB at h
  simp only [Bool.and_eq_true, decide_eq_true_eq, Bool.not_eq_true', List.all_eq_true] at h
  obtain ⟨⟨⟨⟨⟨⟨h1, h2⟩, h3⟩, h4⟩, h5⟩, h6⟩, h7⟩ := h
  refine ⟨?_, h2, h3, h4, h5, fun x hx => ?_, fun y hy e => ?_⟩
  · split at h1
    · assumption
    · cases h1
  · exact loc_of (h6 x hx)
  · have := h7 y hy
    rw [e] at this
    cases this
section
variable {c : Cn} {P : Program} {w : World} {mg : Str → Option Value} {base : Heap} {rs : List DR}
theorem noFt {e : Env} {σ : L2.St} (h : ∀ i d, e.get i ≠ .own d) : ∀ a, ¬ Ft e σ a := fun a ⟨i, d, h1, _⟩ => h i d h1
theorem Ext.empty {A A' : Addr → Prop} {F H F' H' : Hp} (h : ∀ a, ¬ A a) (x : Ext A F H A' F' H') : Ext noA F H noA F' H' := ⟨x.ff, fun a o e _ => x.keep a o e (h a), fun a z => by
  rcases z with z | z
  · exact (x.new a (.inl z)).imp_right fun z => z.imp_left fun z => (h a z).elim
  · exact z.elim⟩
theorem start_get (ds : List D) (n i : Nat) : (show Env from ds.map .fz ++ List.replicate n .un).get i = (match ds[i]? with | some d => .fz d | none => .un) := by
  unfold Env.get
  rw [List.getD_eq_getElem?_getD]
  by_cases h : i < ds.length
  · rw [List.getElem?_append_left (by simpa using h), List.getElem?_map, List.getElem?_eq_getElem h]
    rfl
  · rw [List.getElem?_append_right (by simpa using h), List.getElem?_eq_none (l := ds) (by omega)]
    cases q : (List.replicate n (Sl.un))[i - (ds.map Sl.fz).length]? with
    | none => rfl
    | some s =>
      have := List.mem_of_getElem? q
      rw [List.mem_replicate] at this
      rw [this.2]; rfl
theorem start_sr {F H : Hp} {ds : List D} {vs : List V} {N : List Str} {np : Nat} (sm : Same F H) (f : FzL c.K c.ca F ds vs) (hn : ds.length ≤ N.length) : SR c F H (ds.map .fz ++ List.replicate (N.length - ds.length) .un) (start N vs) := by
  have hl := f.len
  refine ⟨sm, ?_, fun i => ?_, fun i j d d' a h1 => ?_⟩
  · unfold L2.start
    simp only [List.length_append, List.length_map, List.length_replicate]
    omega
  · rw [start_get]
    by_cases h : i < ds.length
    · rw [List.getElem?_eq_getElem h]
      have hv : vs[i]? = some (vs[i]'(by omega)) := List.getElem?_eq_getElem _
      obtain ⟨d, h1, h2⟩ := f.getV hv
      rw [List.getElem?_eq_getElem h] at h1
      have e : ds[i] = d := Option.some.inj h1
      have : (start N vs)[i]? = some (some (vs[i]'(by omega))) := by
        unfold L2.start
        rw [List.getElem?_append_left (by rw [List.length_map]; omega), List.getElem?_map, hv]
        rfl
      rw [this]
      dsimp only
      rw [e]
      exact slot_fz h2
    · rw [List.getElem?_eq_none (by omega)]
      trivial
  · rw [start_get] at h1
    split at h1 <;> cases h1
theorem sp_len {call : Nat → List D → CRes} {f : Nat} {vs : List V} {H : Hp} {Q : VK} {E : XK} (h : spF c call f vs H Q E) : ∃ ds, vs.length = ds.length ∧ call f ds ≠ .bad := by
  obtain ⟨F, ds, _, f1, h⟩ := h
  refine ⟨ds, f1.len, fun q => ?_⟩
  rw [q] at h
  exact h
theorem run_sp {n f : Nat} {d : MP.Def} {vs : List V} {H : Hp} {Q : VK} {E : XK} {N : List Str} (hd : c.G.defs[f]? = some d) (hN : N.length = d.ns) (hle : d.np ≤ d.ns) (h : spF c (callF c.G (n + 1)) f vs H Q E) :
    tS c (fun cls dd _ H => E cls dd H) (callF c.G n) d.io d.fr d.body { nx := fun _ H' => Q .non H', rt := Q } (start N vs) H := by
  obtain ⟨F, ds, sm, f1, h⟩ := h
  rw [callF, hd] at h
  dsimp only at h
  unfold runDef at h
  have hfr : frB c.G f = d.fr := by unfold frB; rw [hd]; rfl
  by_cases hl : ds.length = d.np
  · rw [if_pos hl] at h
    rw [← hl, ← hN] at h
    have hs : SR c F H (ds.map .fz ++ List.replicate (N.length - ds.length) .un) (start N vs) := start_sr (np := d.np) sm f1 (by omega)
    refine ⟨F, _, hs, ?_⟩
    have hno : ∀ a, ¬ Ft (ds.map .fz ++ List.replicate (N.length - ds.length) .un) (start N vs) a := noFt fun i u z => by
      rw [start_get] at z
      split at z <;> cases z
    generalize ds.map Sl.fz ++ List.replicate (N.length - ds.length) Sl.un = e0 at h hs hno ⊢
    generalize start N vs = σ0 at hs hno ⊢
    cases hq : ex c.G (callF c.G n) d.io d.fr d.body e0 with
    | bad => rw [hq] at h; exact h.elim
    | bk e => rw [hq] at h; exact h.elim
    | ct e => rw [hq] at h; exact h.elim
    | nx e =>
      rw [hq] at h
      intro F' H' σ' s' x
      by_cases hf : d.fr = true
      · dsimp only at h; rw [if_pos hf] at h; exact h.elim
      · dsimp only at h
        rw [if_neg hf] at h
        refine h F' H' .non s'.le ?_
        rw [hfr, if_neg hf]
        exact ⟨by unfold Fz; rfl, x.empty hno⟩
    | rt u e =>
      rw [hq] at h
      intro F' H' v l nn
      refine h F' H' v l ?_
      rw [hfr]
      by_cases hf : d.fr = true
      · rw [if_pos hf] at nn ⊢
        unfold NewR at nn ⊢
        split at nn
        · rename_i q
          rw [if_pos q]
          obtain ⟨a, o, g1, g2, g3, g4, g5, g6⟩ := nn
          refine ⟨a, o, g1, g2, g3, g4, g5, g6.ff, fun b u hb _ => g6.keep b u hb (hno b), fun b z => ?_⟩
          rcases g6.new b z with z | z | z
          · exact .inl z
          · exact (hno b z).elim
          · exact .inr (.inr z)
        · rename_i q
          rw [if_neg q]
          exact ⟨nn.1, nn.2.empty hno⟩
      · rw [if_neg hf] at nn ⊢
        exact ⟨nn.1, nn.2.empty hno⟩
    | exc y e =>
      rw [hq] at h
      intro F' H' σ' cls dd s' x xr
      exact h F' H' cls dd s'.le (x.empty hno) xr
  · rw [if_neg hl] at h; exact h.elim

/-- every def keeps its evaluation -/
theorem fn_all (her : c.er = fun _ _ _ _ => False) (hp : prB c.G c.M rs = true) (hot : c.M.hot = false) (hd : ∀ r ∈ rs, ∃ fd, FunD c.K r.name r.name (defArgs r.st) (defBody r.st) (defScope r.st) [] [] (He.ga c.K r.name) fd)
    (hg : ∀ r ∈ rs, mg r.name = some (.ref (He.ga c.K r.name))) (hb : ∀ q ∈ c.G.defs.zip rs, BindN q.2 (q.2.N.take q.1.np)) (hgl : ∀ (i : Nat) (x : Str), c.M.glob[i]? = some x → ∀ d : D, c.G.glob[i]? = some d → ∃ u v, mg x = some u ∧ RelV v u ∧ ∀ F, Fz c.K c.ca F d v)
    (hbi : ∀ x : Str, c.M.bis.contains x = true → mg x = none) (hbf : ∀ x : Str, c.M.bfs.contains x = true → ∀ b, biM b = true → x = biName b → mg x = some (biV b)) (kl : Kl c mg) : ∀ n, Fx c P w mg base (callF c.G n) n ∧ ∀ (f : Nat) (d : MP.Def) (r : DR), c.G.defs[f]? = some d → rs[f]? = some r → ∀ fd, FunD c.K r.name r.name (defArgs r.st) (defBody r.st) (defScope r.st) [] [] (He.ga c.K r.name) fd → (∀ (s : Shared) (us : List Value), us.length = (r.N.take d.np).length → BindsTo s fd ⟨us, []⟩ ((r.N.take d.np).zip us)) ∧
      FnOk P w c.K mg base (L2.CX P w) n (He.ga c.K r.name) fd (r.N.take d.np) (spF c (callF c.G n) f) := by
  unfold prB at hp
  simp only [Bool.and_eq_true, decide_eq_true_eq, List.all_eq_true] at hp
  obtain ⟨⟨p1, p2⟩, p3⟩ := hp
  have zip_at : ∀ (f : Nat) (d : MP.Def) (r : DR), c.G.defs[f]? = some d → rs[f]? = some r → (d, r) ∈ c.G.defs.zip rs := fun f d r h1 h2 => by
    refine List.mem_of_getElem? (i := f) ?_
    rw [List.getElem?_zip_eq_some]
    exact ⟨h1, h2⟩
  have up : ∀ n, (∀ (f : Nat) (d : MP.Def) (r : DR), c.G.defs[f]? = some d → rs[f]? = some r → ∀ fd, FunD c.K r.name r.name (defArgs r.st) (defBody r.st) (defScope r.st) [] [] (He.ga c.K r.name) fd → (∀ (s : Shared) (us : List Value), us.length = (r.N.take d.np).length → BindsTo s fd ⟨us, []⟩ ((r.N.take d.np).zip us)) ∧
      FnOk P w c.K mg base (L2.CX P w) n (He.ga c.K r.name) fd (r.N.take d.np) (spF c (callF c.G n) f) ∧ Binds c.K fd (r.N.take d.np) [] ∧ PySem.W.keepIn c.K (.ref (He.ga c.K r.name)) = true) → Fx c P w mg base (callF c.G n) n := fun n ih => by
    refine ⟨hgl, hbi, hbf, fun f x hx => ?_⟩
    rw [← p1, List.getElem?_map] at hx
    cases hr : rs[f]? with
    | none => rw [hr] at hx; cases hx
    | some r =>
      rw [hr] at hx
      cases hx
      have hlt : f < c.G.defs.length := by rw [← p2]; exact (List.getElem?_eq_some_iff.mp hr).1
      obtain ⟨fd, hF⟩ := hd r (List.mem_of_getElem? hr)
      obtain ⟨_, h1, h2, h3⟩ := ih f _ r (List.getElem?_eq_getElem hlt) hr fd hF
      exact ⟨_, fd, _, hg r (List.mem_of_getElem? hr), h3, h2, h1⟩
  have all : ∀ n (f : Nat) (d : MP.Def) (r : DR), c.G.defs[f]? = some d → rs[f]? = some r → ∀ fd, FunD c.K r.name r.name (defArgs r.st) (defBody r.st) (defScope r.st) [] [] (He.ga c.K r.name) fd → (∀ (s : Shared) (us : List Value), us.length = (r.N.take d.np).length → BindsTo s fd ⟨us, []⟩ ((r.N.take d.np).zip us)) ∧
      FnOk P w c.K mg base (L2.CX P w) n (He.ga c.K r.name) fd (r.N.take d.np) (spF c (callF c.G n) f) ∧ Binds c.K fd (r.N.take d.np) [] ∧ PySem.W.keepIn c.K (.ref (He.ga c.K r.name)) = true := by
    intro n
    induction n with
    | zero =>
      intro f d r h1 h2 fd F
      have bn := hb _ (zip_at f d r h1 h2)
      have no : ∀ {vs H Q E}, spF c (callF c.G 0) f vs H Q E → False := fun {vs H Q E} z => by
        obtain ⟨ds, _, q⟩ := sp_len z
        exact q rfl
      exact ⟨fun s us hl => F.bindsA bn s us hl, ⟨fun vs H Q E z => (no z).elim, fun A outer s H args us vs Q E _ _ _ _ z => (no z).elim⟩, F.bindsN bn, F.kp⟩
    | succ n ih =>
      intro f d r h1 h2 fd F
      have bn := hb _ (zip_at f d r h1 h2)
      have chk := p3 _ (zip_at f d r h1 h2)
      unfold drB at chk
      simp only [Bool.and_eq_true, decide_eq_true_eq] at chk
      obtain ⟨⟨⟨k1, k2⟩, k3⟩, k4⟩ := chk
      have S := scB_ok k3
      have fx := up n ih
      refine ⟨fun s us hl => F.bindsA bn s us hl, ?_, F.bindsN bn, F.kp⟩
      refine F.ok S (fun vs H Q E z => ?_) (fun cdv A outer s H vs Q E hr z => ⟨_, ?_, run_sp h1 k1 k2 z⟩)
      · obtain ⟨ds, q1, q2⟩ := sp_len z
        rw [q1, List.length_take, k1, Nat.min_eq_left k2]
        rw [callF, h1] at q2
        dsimp only at q2
        unfold runDef at q2
        by_cases hl : ds.length = d.np
        · exact hl
        · rw [if_neg hl] at q2; exact absurd rfl q2
      · refine (os_all (k := n) d.body c).b (M := c.M) (N := r.N) (sc := defScope r.st) (hot := false) ?_ k4
        have hM : c.M.heat false = c.M.heat (c.M.heat false).hot := rfl
        exact { hK := rfl, hN := rfl, nd := S.nd, hsc := rfl, tk := takes_of rfl rfl rfl rfl, hM := hM, cold := fun _ => ⟨rfl, hr, her⟩, un := by have := hr.un; show (A.deeper _).units + 64 < cLine; omega, fx := fx, cl := kl, er := fun F i fs v z => by rw [her] at z; exact z.elim,
                fnA := fun _ => rfl, pa := fun _ => passes_of rfl, st := rfl, fm := rfl, xw := fun z => nomatch z }
  exact fun n => ⟨up n (all n), fun f d r h1 h2 fd F => by
    obtain ⟨g1, g2, _, _⟩ := all n f d r h1 h2 fd F
    exact ⟨g1, g2⟩⟩
end
end MP

namespace MP
open PySem L2 PySem.Spec PyProof.Rows

/-- which value of the module is which datum -/
def conL (f : Value → D → Bool) : List Value → List D → Bool
  | [], [] => true
  | v :: vs, d :: ds => f v d && conL f vs ds
  | _, _ => false
def conT (f : Value → D → Bool) (l : List D) (o : Option Obj) : Bool := match o with
  | some ⟨.type c, _, .seq its _, _⟩ => decide (c = "tuple") && (decide (its.size ≤ sizeLine) && conL f its.toList l)
  | _ => false
def conB (K : PySem.W.Frag) (ca : Nat → Addr) : Nat → Value → D → Bool
  | 0, _, _ => false
  | n + 1, v, d => match d with
    | .non => (match v with | .none => true | _ => false)
    | .bl b => (match v with | .bool a => a == b | _ => false)
    | .int i => (match v with | .int j _ => decide (j = i) | _ => false)
    | .str x => (match v with | .str y _ => decide (y = x) | _ => false)
    | .cls k => (match v with | .ref a => decide (a = ca k) | _ => false)
    | .tup l => (match v with
      | .ref a => conT (conB K ca n) l (K.lookup a)
      | _ => false)
    | _ => false
theorem conL_ok {K : PySem.W.Frag} {ca : Nat → Addr} {f : Value → D → Bool} (h : ∀ v d, f v d = true → ∃ x, RelV x v ∧ ∀ F, Fz K ca F d x) : ∀ {vs : List Value} {ds : List D}, conL f vs ds = true → ∃ xs, Vals xs vs ∧ ∀ F, FzL K ca F ds xs
  | [], [], _ => ⟨[], .nil, fun F => by unfold FzL; rfl⟩
  | [], _ :: _, q => nomatch q
  | _ :: _, [], q => nomatch q
  | v :: vs, d :: ds, q => by
    unfold conL at q
    rw [Bool.and_eq_true] at q
    obtain ⟨x, h1, h2⟩ := h v d q.1
    obtain ⟨xs, h3, h4⟩ := conL_ok h q.2
    exact ⟨x :: xs, .cons h1 h3, fun F => by unfold FzL; exact ⟨x, xs, rfl, h2 F, h4 F⟩⟩
theorem conB_ok {K : PySem.W.Frag} {ca : Nat → Addr} : ∀ (n : Nat) (v : Value) (d : D), conB K ca n v d = true → ∃ x, RelV x v ∧ ∀ F, Fz K ca F d x
  | 0, _, _, h => nomatch h
  | n + 1, v, d, h => by
    unfold conB at h
    cases d with
    | non => cases v <;> first | (cases h; done) | exact ⟨.non, rfl, fun F => by unfold Fz; rfl⟩
    | bl b =>
      cases v <;> first | (cases h; done) | skip
      cases beq_iff_eq.mp h
      exact ⟨.bl _, rfl, fun F => by unfold Fz; rfl⟩
    | int i =>
      cases v <;> first | (cases h; done) | skip
      cases of_decide_eq_true h
      exact ⟨.int _, ⟨_, rfl⟩, fun F => by unfold Fz; rfl⟩
    | str i =>
      cases v <;> first | (cases h; done) | skip
      cases of_decide_eq_true h
      exact ⟨.str _, ⟨_, rfl⟩, fun F => by unfold Fz; rfl⟩
    | cls k =>
      cases v <;> first | (cases h; done) | skip
      cases of_decide_eq_true h
      exact ⟨.ref _, rfl, fun F => by unfold Fz; rfl⟩
    | tup l =>
      cases v <;> first | (cases h; done) | skip
      rename_i a
      have h : conT (conB K ca n) l (K.lookup a) = true := h
      unfold conT at h
      cases q : K.lookup a with
      | none => rw [q] at h; cases h
      | some o =>
        obtain ⟨oc, od, dt, osl⟩ := o
        rw [q] at h
        cases oc <;> first | (cases dt <;> cases h; done) | skip
        rename_i cn
        cases dt <;> first | (cases h; done) | skip
        rename_i its k
        dsimp only at h
        simp only [Bool.and_eq_true, decide_eq_true_eq] at h
        obtain ⟨h1, h2, h3⟩ := h
        obtain ⟨xs, h4, h5⟩ := conL_ok (fun v d => conB_ok n v d) h3
        exact ⟨.ref a, rfl, fun F => by unfold Fz; exact ⟨a, xs, rfl, .inr ⟨_, its, k, q, congrArg Value.type h1, rfl, h2, h4⟩, h5 F⟩⟩
    | _ => cases h
/-- an own error's class -/
def excB (K : PySem.W.Frag) (a : Addr) : Bool :=
  He.eqO (PySem.W.findIn K (.ref a) "__getattribute__") (some (some (.builtin "BaseException.__getattribute__"))) &&
  (He.eqO (PySem.W.findIn K (.ref a) "__getattr__") (some none) &&
  (decide (PySem.W.subIn K (.ref a) (.type "BaseException") = some true) &&
  (PySem.W.hasDictIn K a &&
  (He.eqO (PySem.W.findIn K (.ref a) "__class__") (some (some (.builtin "object.__class__"))) &&
  (He.eqO (PySem.W.specialIn K (.builtin "object.__class__") "__get__") (some (some (.builtin "getset_descriptor.__get__"))) &&
  (decide (PySem.W.takesIn K (.builtin "object.__class__") = some true) &&
  (decide (PySem.W.mroIn K a (.type "object") = some true) &&
  (decide (PySem.W.typeIn K (.ref a) = some (.type "type")) && PySem.W.excIn K a He.veBase "ValueError.__new__"))))))))
def clsN (M : Nm) (j : Nat) : Str := ((M.cls[j]?).map (·.1)).getD (Str.ofString "")
def caOf (K : PySem.W.Frag) (M : Nm) (j : Nat) : Addr := He.ga K (clsN M j)
def clsB (K : PySem.W.Frag) (G : Pg) (M : Nm) : Bool := (List.range M.cls.length).all fun j =>
  He.eqO (PySem.W.nsIn K mainGlobals (clsN M j)) (some (some (.ref (caOf K M j)))) && (PySem.W.keepIn K (.ref (caOf K M j)) && (excB K (caOf K M j) &&
    (decide (PySem.W.kitOne K (.ref (caOf K M j)) (.type "ValueError") = some true) && (List.range M.cls.length).all fun i =>
      decide (PySem.W.kitOne K (.ref (caOf K M i)) (.ref (caOf K M j)) = some (G.sub i j)) && decide (PySem.W.exmOne K (.ref (caOf K M i)) (.ref (caOf K M j)) = some (G.sub i j)))))
def globB (K : PySem.W.Frag) (M : Nm) : List Str → List D → Bool
  | x :: xs, d :: ds => (match PySem.W.nsIn K mainGlobals x with
    | some (some v) => conB K (caOf K M) 8 v d
    | _ => false) && globB K M xs ds
  | _, _ => true
def bfsB (K : PySem.W.Frag) (M : Nm) : Bool := M.bfs.all fun x => [BI.gcd, BI.isqrt].all fun b => !(decide (x = biName b)) || He.eqO (PySem.W.nsIn K mainGlobals x) (some (some (biV b)))
def factB (G : Pg) (M : Nm) (rs : List DR) (K : PySem.W.Frag) : Bool := (rs.all fun r => He.eqO (PySem.W.nsIn K mainGlobals r.name) (some (some (.ref (He.ga K r.name))))) && ((M.bis.all fun x => He.eqO (PySem.W.nsIn K mainGlobals x) (some none)) &&
  (globB K M M.glob G.glob && (clsB K G M && bfsB K M)))
section
variable {K : PySem.W.Frag} {h : Heap} {mg : Str → Option Value} {G : Pg} {M : Nm}
theorem globB_ok (X : K.In h) (N : h.Ns mainGlobals mg) : ∀ {xs : List Str} {ds : List D}, globB K M xs ds = true → ∀ (i : Nat) (x : Str), xs[i]? = some x → ∀ d : D, ds[i]? = some d → ∃ u v, mg x = some u ∧ RelV v u ∧ ∀ F, Fz K (caOf K M) F d v
  | [], _, _, i, x, hx, _, _ => by simp at hx
  | _ :: _, [], _, i, x, _, d, hd => by simp at hd
  | y :: xs, e :: ds, q, i, x, hx, d, hd => by
    unfold globB at q
    rw [Bool.and_eq_true] at q
    cases i with
    | succ i => exact globB_ok X N q.2 i x (by simpa using hx) d (by simpa using hd)
    | zero =>
      simp at hx hd
      subst hx hd
      cases z : PySem.W.nsIn K mainGlobals y with
      | none => rw [z] at q; cases q.1
      | some o =>
        cases o with
        | none => rw [z] at q; cases q.1
        | some v =>
          rw [z] at q
          obtain ⟨x, h1, h2⟩ := conB_ok 8 v e q.1
          exact ⟨v, x, PySem.W.mg_of X N z, h1, h2⟩
theorem clsN_at {j : Nat} {n : Str} {fs : List Str} (h : M.cls[j]? = some (n, fs)) : clsN M j = n := by unfold clsN; rw [h]; rfl
theorem kl_of (X : K.In h) (N : h.Ns mainGlobals mg) (q : clsB K G M = true) (c : Cn) (hK : c.K = K) (hca : c.ca = caOf K M) (hG : c.G = G) (hM : c.M = M) : Kl c mg := by
  subst hK hG hM
  unfold clsB at q
  simp only [List.all_eq_true, List.mem_range, Bool.and_eq_true, decide_eq_true_eq] at q
  refine ⟨fun j n fs hj => ?_, fun i j hi hj => ?_, fun i hi => ?_⟩
  · have hlt := (List.getElem?_eq_some_iff.mp hj).1
    obtain ⟨q1, q2, q3, _⟩ := q j hlt
    rw [clsN_at hj] at q1
    rw [hca]
    refine ⟨PySem.W.mg_of X N (He.eqO_ok q1), q2, fun _ => ?_⟩
    unfold excB at q3
    simp only [Bool.and_eq_true, decide_eq_true_eq] at q3
    obtain ⟨e1, e2, e3, e4, e5, e6, e7, e8, e9, e10⟩ := q3
    exact ⟨⟨He.eqO_ok e1, He.eqO_ok e2, e3, e4, He.eqO_ok e5, He.eqO_ok e6, e7, e8⟩, e3, e9, _, _, _, _, PySem.F.excBase_ValueError, e10⟩
  · rw [hca]
    obtain ⟨_, _, _, _, q5⟩ := q j hj
    exact q5 i hi
  · rw [hca]
    obtain ⟨_, _, _, q4, _⟩ := q i hi
    exact q4
end

def defD (r : DR) : He.DefD := ⟨(r.name, none), r.name, r.name, defArgs r.st, defBody r.st, defScope r.st, [], []⟩
abbrev AlM : Type := He.AlD × Bool
def obsM (n : Nat) (G : Pg) (M : Nm) (rs : List DR) (g : Addr → Option Obj) : AlM := (He.obsD [] (rs.map defD) (He.frG g (He.asD g n)), factB G M rs (He.frG g (He.asD g n)))
def hookM (n : Nat) (G : Pg) (M : Nm) (rs : List DR) : PySem.W.Hook where
  α := AlM
  obs := fun s => obsM n G M rs s.heap.get?
  val := fun _ => (He.valD (rs.map defD), true)
  says := fun _ h => ∃ K : PySem.W.Frag, K.In h ∧ He.SaysD [] (rs.map defD) K ∧ factB G M rs K = true
  of := fun _ _ e => ⟨_, He.frG_in, congrArg (fun z : AlM => z.1) e, congrArg (fun z : AlM => z.2) e⟩
  keeps := fun _ _ _ ⟨K, hK, c⟩ k => ⟨K, PySem.W.Frag.In.keeps hK k, c⟩
theorem obsM_eq {n : Nat} {G : Pg} {M : Nm} {rs : List DR} {g : Addr → Option Obj} {s : Shared} (h : ∀ a, g a = s.heap.get? a) : obsM n G M rs g = (hookM n G M rs).obs s := by
  have e : g = s.heap.get? := funext h
  rw [e] <;> rfl
def obM (n : Nat) (G : Pg) (M : Nm) (rs : List DR) (s : PySem.W.SharedT) : AlM := obsM n G M rs (HandSHeadRun.getT s)
theorem obM_eq (n : Nat) (G : Pg) (M : Nm) (rs : List DR) (s : PySem.W.SharedT) : obM n G M rs s = (hookM n G M rs).obs s.abs := obsM_eq (HandSHeadRun.getT_eq s)

def BindAll : List (MP.Def × DR) → Prop
  | [] => True
  | q :: l => BindN q.2 (q.2.N.take q.1.np) ∧ BindAll l
theorem BindAll.at_ : ∀ {l : List (MP.Def × DR)}, BindAll l → ∀ q ∈ l, BindN q.2 (q.2.N.take q.1.np)
  | [], _, q, hq => nomatch hq
  | p :: l, h, q, hq => (List.mem_cons.mp hq).elim (fun e => e ▸ h.1) fun hq => BindAll.at_ h.2 q hq
/-- the law's part: what the def at place f answers of a script -/
theorem facts {P : Program} {w : World} {h : Heap} {mg : Str → Option Value} {fa : Addr} {n f N : Nat} {G : Pg} {M : Nm} {rs : List DR} {d : MP.Def} {r : DR} {x : Str} (hs : (hookM n G M rs).says w h) (Gn : h.Ns mainGlobals mg) (hp : prB G M rs = true) (hot : M.hot = false)
    (hb : ∀ q ∈ G.defs.zip rs, BindN q.2 (q.2.N.take q.1.np)) (hd : G.defs[f]? = some d) (hr : rs[f]? = some r) (hfa : mg r.name = some (.ref fa)) (hx : r.N.take d.np = [x]) (hfr : d.fr = false) (most : Nat)
    (law : ∀ ns : List Int, ns.length ≤ most → (∀ z ∈ ns, Builtin.Int.intBits z ≤ 1048576) → callF G N f [.scr ns] = .ret (.bl true)) :
    ∃ (K : PySem.W.Frag) (fd : FuncData) (sp : Sp), K.In h ∧ (∀ (s : Shared) (u : Value), BindsTo s fd ⟨[u], []⟩ [(x, u)]) ∧
      (∀ (H : Hp) (a : Addr) (ns : List Int), ns.length ≤ most → (∀ z ∈ ns, Builtin.Int.intBits z ≤ 1048576) → Only H → SqL K H a (ns.map V.int) → sp [.ref a] H (fun v _ => v = .bl true) fun _ _ _ => False) ∧
      ∀ base : Heap, K.In base → base.Ns mainGlobals mg → FnOk P w K mg base (L2.CX P w) N fa fd [x] sp := by
  obtain ⟨K, KX, c0, fb⟩ := hs
  unfold factB at fb
  simp only [Bool.and_eq_true, List.all_eq_true] at fb
  obtain ⟨f1, f2, f3, f4, f5⟩ := fb
  let c : Cn := ⟨K, caOf K M, G, M, fun _ _ _ _ => False, fun _ _ _ _ _ _ h => h⟩
  have hg : ∀ r ∈ rs, mg r.name = some (.ref (He.ga K r.name)) := fun r hr => PySem.W.mg_of KX Gn (He.eqO_ok (f1 r hr))
  have hmem := List.mem_of_getElem? hr
  have e := hfa.symm.trans (hg r hmem)
  have e : fa = He.ga K r.name := by cases e; rfl
  subst e
  have hdf : ∀ r ∈ rs, ∃ fd, FunD K r.name r.name (defArgs r.st) (defBody r.st) (defScope r.st) [] [] (He.ga K r.name) fd := fun r hr => by
    obtain ⟨i, hi⟩ := List.getElem?_of_mem hr
    have := c0.def_ i (d := defD r) (by rw [List.getElem?_map, hi]; rfl)
    exact this
  have main := fun base => fn_all (P := P) (w := w) (base := base) (c := c) (mg := mg) (rs := rs) rfl hp hot hdf hg hb (globB_ok KX Gn f3) (fun x hx => PySem.W.mg_none_of KX Gn (He.eqO_ok (f2 x (List.contains_iff_mem.mp hx)))) (fun x hx b hb hn => by
    unfold bfsB at f5
    rw [List.all_eq_true] at f5
    have h1 := f5 x (List.contains_iff_mem.mp hx)
    have hg : b = .gcd ∨ b = .isqrt := by cases b <;> first | exact .inl rfl | exact .inr rfl | cases hb
    rw [List.all_cons, List.all_cons, List.all_nil, Bool.and_true, Bool.and_eq_true] at h1
    rcases hg with rfl | rfl
    · have h1 := h1.1
      rw [decide_eq_true hn, Bool.not_true, Bool.false_or] at h1
      exact PySem.W.mg_of KX Gn (He.eqO_ok h1)
    · have h1 := h1.2
      rw [decide_eq_true hn, Bool.not_true, Bool.false_or] at h1
      exact PySem.W.mg_of KX Gn (He.eqO_ok h1)) (kl_of KX Gn f4 c rfl rfl rfl rfl) N
  obtain ⟨fd, hF⟩ := hdf r hmem
  obtain ⟨b1, _⟩ := (main h).2 f d r hd hr fd hF
  refine ⟨K, fd, spF c (callF G N) f, KX, fun s u => ?_, fun H a ns hl hbt _ hS => ?_, fun base _ _ => ?_⟩
  · have := b1 s [u] (by rw [hx]; rfl)
    rw [hx] at this
    exact this
  · refine ⟨H, [.scr ns], Same.refl H, ?_, ?_⟩
    · unfold FzL
      exact ⟨.ref a, [], rfl, by unfold Fz; exact ⟨a, rfl, hS⟩, by unfold FzL; rfl⟩
    · have hl := law ns hl hbt
      show (match callF G N f [.scr ns] with
        | .ret d => ∀ F' H' v, Same F' H' → (if frB G f = true then NewR c H H noA F' H' noA d v else Fz K (caOf K M) F' d v ∧ Ext noA H H noA F' H') → v = .bl true
        | .exc x => ∀ F' H' cls dd, Same F' H' → Ext noA H H noA F' H' → XR c F' H' x cls dd → False
        | .bad => False)
      rw [hl]
      intro F' H' v _ q
      have : frB G f = false := by unfold frB; rw [hd]; exact hfr
      rw [if_neg (by rw [this]; exact Bool.false_ne_true)] at q
      exact fz_bl q.1
  · obtain ⟨b2, F⟩ := (main base).2 f d r hd hr fd hF
    rw [hx] at F
    exact F
/-- a law, its script's bits told -/
theorem walk_law {l : PySem.W.OpenLaw} {n k : Nat} {q : Program} {loose : List Str} {XP : (Str → Option Value) → Heap → Prop} {YP : World → Heap → Prop} {d : DefRec} {CX : World → CXT} {x : Str}
    (hn : l.most = some n) (hn2 : n ≤ sizeLine) (hdf : d.params.defaults = []) (hr : Room k callerA)
    (F : ∀ (w : World) (mg : Str → Option Value) (fa : Addr) (h : Heap), YP w h → h.Ns mainGlobals mg → mg d.name = some (.ref fa) →
      ∃ (K : PySem.W.Frag) (fd : FuncData) (sp : Sp), K.In h ∧ (∀ (s : Shared) (u : Value), BindsTo s fd ⟨[u], []⟩ [(x, u)]) ∧
        (∀ (H : Hp) (a : Addr) (ns : List Int), ns.length ≤ n → (∀ z ∈ ns, Builtin.Int.intBits z ≤ 1048576) → Only H → SqL K H a (ns.map V.int) → sp [.ref a] H (fun v _ => v = .bl true) fun _ _ _ => False) ∧
        ∀ base : Heap, K.In base → base.Ns mainGlobals mg → FnOk l.prog w K mg base (CX w) k fa fd [x] sp)
    (hCX : ∀ (w : World) (H : Hp) (s : Shared) (e : Value) (s' : Shared), CX w [] H s (fun _ _ _ => False) e s' → False) :
    PySem.W.WalkO q loose XP YP l.row.toRowW d [] (fun f vs => PySem.call f vs) := by
  refine Att.attach_callB hn hdf fun w s₀ s₁ mg mb fa o pm cd doc a vs ns G Y ho hd hcd hmg hobj hints hlen hbits hg => ?_
  obtain ⟨K, fd, sp, KX, hb, hsp, hF⟩ := F w mg fa _ Y G.T.g hmg
  exact law_call KX G.T.g G.T.b G.T.builtins G.T.nolimit hg hobj hints (Nat.le_trans hlen hn2) hr hF hb (fun H hO hS => hsp H a ns hlen hbits hO hS) fun H e s' => hCX w H s₁ e s'
end MP

namespace MP
open PySem (Str)
section
variable {G : Pg} {call : Nat → List D → CRes} {e : Env} {α β : Type}
theorem bind_ok {a : α} {f : α → Env → Res β} : (Res.ok a e).bind f = f a e := rfl
theorem bind_exc {x : X} {f : α → Env → Res β} : (Res.exc x e : Res α).bind f = .exc x e := rfl
theorem st_ok {a : α} {f : α → Env → SRes} : (Res.ok a e).st f = f a e := rfl
theorem st_exc {x : X} {f : α → Env → SRes} : (Res.exc x e : Res α).st f = .exc x e := rfl
theorem seq_nx {f : Env → SRes} : (SRes.nx e).seq f = f e := rfl
theorem seq_rt {d : D} {f : Env → SRes} : (SRes.rt d e).seq f = .rt d e := rfl
theorem seq_bk {f : Env → SRes} : (SRes.bk e).seq f = .bk e := rfl
theorem seq_ct {f : Env → SRes} : (SRes.ct e).seq f = .ct e := rfl
theorem seq_exc {x : X} {f : Env → SRes} : (SRes.exc x e).seq f = .exc x e := rfl
theorem opt_s {a : α} {f : α → SRes} : opt (some a) f = f a := rfl
theorem lift_s {a : α} : lift (some a) e = .ok a e := rfl
theorem map_s {a : α} {f : α → β} : (some a).map f = some (f a) := rfl
theorem get_0 {a : Sl} {l : List Sl} : Env.get (a :: l) 0 = a := rfl
theorem get_s {a : Sl} {l : List Sl} {n : Nat} : Env.get (a :: l) (n + 1) = Env.get l n := rfl
theorem put_0 {a x : Sl} {l : List Sl} : Env.put (a :: l) 0 x = x :: l := rfl
theorem put_s {a x : Sl} {l : List Sl} {n : Nat} : Env.put (a :: l) (n + 1) x = a :: Env.put l n x := rfl
theorem asg_nil {i : Nat} {x : Sl} (h : i < e.length) : asg [] i x e = some (e.put i x) := by
  unfold asg
  rw [if_neg]
  simp; omega
def fin (fr : Bool) : SRes → CRes
  | .nx _ => if fr then .bad else .ret .non
  | .rt v _ => .ret v
  | .exc x _ => .exc x
  | _ => .bad
theorem run_eq {np ns : Nat} {fr : Bool} {io : List Bool} {b : S} {as : List D} : runDef G call ⟨np, ns, io, fr, b⟩ as = if as.length = np then fin fr (ex G call io fr b (as.map .fz ++ List.replicate (ns - np) .un)) else .bad := by
  unfold runDef
  split
  · dsimp only
    cases ex G call io fr b (as.map .fz ++ List.replicate (ns - np) .un) <;> rfl
  · rfl
theorem fin_nx : fin false (.nx e) = .ret .non := rfl
theorem fin_rt {fr : Bool} {d : D} : fin fr (.rt d e) = .ret d := rfl
theorem fin_exc {fr : Bool} {x : X} : fin fr (.exc x e) = .exc x := rfl
theorem d_un : dOf .un = none := rfl
theorem d_own {d : D} : dOf (.own d) = some d := rfl
theorem f_own {d : D} : frzd (.own d) = none := rfl

theorem d_non  : dOf (.fz (.non)) = some (.non) := rfl
theorem f_non  : frzd (.fz (.non)) = some (.non) := rfl
theorem er_non  : D.isErr (.non) = false := rfl
theorem d_bl {b : Bool} : dOf (.fz (.bl b)) = some (.bl b) := rfl
theorem f_bl {b : Bool} : frzd (.fz (.bl b)) = some (.bl b) := rfl
theorem er_bl {b : Bool} : D.isErr (.bl b) = false := rfl
theorem d_int {i : Int} : dOf (.fz (.int i)) = some (.int i) := rfl
theorem f_int {i : Int} : frzd (.fz (.int i)) = some (.int i) := rfl
theorem er_int {i : Int} : D.isErr (.int i) = false := rfl
theorem d_str {s : Str} : dOf (.fz (.str s)) = some (.str s) := rfl
theorem f_str {s : Str} : frzd (.fz (.str s)) = some (.str s) := rfl
theorem er_str {s : Str} : D.isErr (.str s) = false := rfl
theorem d_lst {l : List D} : dOf (.fz (.lst l)) = some (.lst l) := rfl
theorem f_lst {l : List D} : frzd (.fz (.lst l)) = some (.lst l) := rfl
theorem er_lst {l : List D} : D.isErr (.lst l) = false := rfl
theorem d_tup {l : List D} : dOf (.fz (.tup l)) = some (.tup l) := rfl
theorem f_tup {l : List D} : frzd (.fz (.tup l)) = some (.tup l) := rfl
theorem er_tup {l : List D} : D.isErr (.tup l) = false := rfl
theorem d_dct {l : List (D × D)} : dOf (.fz (.dct l)) = some (.dct l) := rfl
theorem f_dct {l : List (D × D)} : frzd (.fz (.dct l)) = some (.dct l) := rfl
theorem er_dct {l : List (D × D)} : D.isErr (.dct l) = false := rfl
theorem d_scr {l : List Int} : dOf (.fz (.scr l)) = some (.scr l) := rfl
theorem f_scr {l : List Int} : frzd (.fz (.scr l)) = some (.scr l) := rfl
theorem er_scr {l : List Int} : D.isErr (.scr l) = false := rfl
theorem d_ty {n : String} : dOf (.fz (.ty n)) = some (.ty n) := rfl
theorem f_ty {n : String} : frzd (.fz (.ty n)) = some (.ty n) := rfl
theorem er_ty {n : String} : D.isErr (.ty n) = false := rfl
theorem d_cls {k : Nat} : dOf (.fz (.cls k)) = some (.cls k) := rfl
theorem f_cls {k : Nat} : frzd (.fz (.cls k)) = some (.cls k) := rfl
theorem er_cls {k : Nat} : D.isErr (.cls k) = false := rfl
theorem b1_con {x0 : D} {r : Res D} : brw (.con x0) e r = r := rfl
theorem b2_con {x0 : D} {b : T} {ra : Res D} {rb : Env → Res D} {k : D → D → Env → Res D} : brw2 (.con x0) b e ra rb k = ra.bind fun x e => (brw b e (rb e)).bind fun y e => k x y e := rfl
theorem bL_con {x0 : D} {ra : Res D} {rest : Env → Res β} {k : D → β → Env → Res D} : brwL (.con x0) e ra rest k = ra.bind fun x e => (rest e).bind fun y e => k x y e := rfl
theorem b1_glb {x0 : Nat} {r : Res D} : brw (.glb x0) e r = r := rfl
theorem b2_glb {x0 : Nat} {b : T} {ra : Res D} {rb : Env → Res D} {k : D → D → Env → Res D} : brw2 (.glb x0) b e ra rb k = ra.bind fun x e => (brw b e (rb e)).bind fun y e => k x y e := rfl
theorem bL_glb {x0 : Nat} {ra : Res D} {rest : Env → Res β} {k : D → β → Env → Res D} : brwL (.glb x0) e ra rest k = ra.bind fun x e => (rest e).bind fun y e => k x y e := rfl
theorem b1_bin {x0 : BOp} {x1 : T} {x2 : T} {r : Res D} : brw (.bin x0 x1 x2) e r = r := rfl
theorem b2_bin {x0 : BOp} {x1 : T} {x2 : T} {b : T} {ra : Res D} {rb : Env → Res D} {k : D → D → Env → Res D} : brw2 (.bin x0 x1 x2) b e ra rb k = ra.bind fun x e => (brw b e (rb e)).bind fun y e => k x y e := rfl
theorem bL_bin {x0 : BOp} {x1 : T} {x2 : T} {ra : Res D} {rest : Env → Res β} {k : D → β → Env → Res D} : brwL (.bin x0 x1 x2) e ra rest k = ra.bind fun x e => (rest e).bind fun y e => k x y e := rfl
theorem b1_neg {x0 : T} {r : Res D} : brw (.neg x0) e r = r := rfl
theorem b2_neg {x0 : T} {b : T} {ra : Res D} {rb : Env → Res D} {k : D → D → Env → Res D} : brw2 (.neg x0) b e ra rb k = ra.bind fun x e => (brw b e (rb e)).bind fun y e => k x y e := rfl
theorem bL_neg {x0 : T} {ra : Res D} {rest : Env → Res β} {k : D → β → Env → Res D} : brwL (.neg x0) e ra rest k = ra.bind fun x e => (rest e).bind fun y e => k x y e := rfl
theorem b1_not {x0 : T} {r : Res D} : brw (.not x0) e r = r := rfl
theorem b2_not {x0 : T} {b : T} {ra : Res D} {rb : Env → Res D} {k : D → D → Env → Res D} : brw2 (.not x0) b e ra rb k = ra.bind fun x e => (brw b e (rb e)).bind fun y e => k x y e := rfl
theorem bL_not {x0 : T} {ra : Res D} {rest : Env → Res β} {k : D → β → Env → Res D} : brwL (.not x0) e ra rest k = ra.bind fun x e => (rest e).bind fun y e => k x y e := rfl
theorem b1_and {x0 : T} {x1 : T} {r : Res D} : brw (.and x0 x1) e r = r := rfl
theorem b2_and {x0 : T} {x1 : T} {b : T} {ra : Res D} {rb : Env → Res D} {k : D → D → Env → Res D} : brw2 (.and x0 x1) b e ra rb k = ra.bind fun x e => (brw b e (rb e)).bind fun y e => k x y e := rfl
theorem bL_and {x0 : T} {x1 : T} {ra : Res D} {rest : Env → Res β} {k : D → β → Env → Res D} : brwL (.and x0 x1) e ra rest k = ra.bind fun x e => (rest e).bind fun y e => k x y e := rfl
theorem b1_or {x0 : T} {x1 : T} {r : Res D} : brw (.or x0 x1) e r = r := rfl
theorem b2_or {x0 : T} {x1 : T} {b : T} {ra : Res D} {rb : Env → Res D} {k : D → D → Env → Res D} : brw2 (.or x0 x1) b e ra rb k = ra.bind fun x e => (brw b e (rb e)).bind fun y e => k x y e := rfl
theorem bL_or {x0 : T} {x1 : T} {ra : Res D} {rest : Env → Res β} {k : D → β → Env → Res D} : brwL (.or x0 x1) e ra rest k = ra.bind fun x e => (rest e).bind fun y e => k x y e := rfl
theorem b1_cmp {x0 : COp} {x1 : T} {x2 : T} {r : Res D} : brw (.cmp x0 x1 x2) e r = r := rfl
theorem b2_cmp {x0 : COp} {x1 : T} {x2 : T} {b : T} {ra : Res D} {rb : Env → Res D} {k : D → D → Env → Res D} : brw2 (.cmp x0 x1 x2) b e ra rb k = ra.bind fun x e => (brw b e (rb e)).bind fun y e => k x y e := rfl
theorem bL_cmp {x0 : COp} {x1 : T} {x2 : T} {ra : Res D} {rest : Env → Res β} {k : D → β → Env → Res D} : brwL (.cmp x0 x1 x2) e ra rest k = ra.bind fun x e => (rest e).bind fun y e => k x y e := rfl
theorem b1_chain {x0 : COp} {x1 : COp} {x2 : T} {x3 : T} {x4 : T} {r : Res D} : brw (.chain x0 x1 x2 x3 x4) e r = r := rfl
theorem b2_chain {x0 : COp} {x1 : COp} {x2 : T} {x3 : T} {x4 : T} {b : T} {ra : Res D} {rb : Env → Res D} {k : D → D → Env → Res D} : brw2 (.chain x0 x1 x2 x3 x4) b e ra rb k = ra.bind fun x e => (brw b e (rb e)).bind fun y e => k x y e := rfl
theorem bL_chain {x0 : COp} {x1 : COp} {x2 : T} {x3 : T} {x4 : T} {ra : Res D} {rest : Env → Res β} {k : D → β → Env → Res D} : brwL (.chain x0 x1 x2 x3 x4) e ra rest k = ra.bind fun x e => (rest e).bind fun y e => k x y e := rfl
theorem b1_ite {x0 : T} {x1 : T} {x2 : T} {r : Res D} : brw (.ite x0 x1 x2) e r = r := rfl
theorem b2_ite {x0 : T} {x1 : T} {x2 : T} {b : T} {ra : Res D} {rb : Env → Res D} {k : D → D → Env → Res D} : brw2 (.ite x0 x1 x2) b e ra rb k = ra.bind fun x e => (brw b e (rb e)).bind fun y e => k x y e := rfl
theorem bL_ite {x0 : T} {x1 : T} {x2 : T} {ra : Res D} {rest : Env → Res β} {k : D → β → Env → Res D} : brwL (.ite x0 x1 x2) e ra rest k = ra.bind fun x e => (rest e).bind fun y e => k x y e := rfl
theorem b1_tup {x0 : T} {r : Res D} : brw (.tup x0) e r = r := rfl
theorem b2_tup {x0 : T} {b : T} {ra : Res D} {rb : Env → Res D} {k : D → D → Env → Res D} : brw2 (.tup x0) b e ra rb k = ra.bind fun x e => (brw b e (rb e)).bind fun y e => k x y e := rfl
theorem bL_tup {x0 : T} {ra : Res D} {rest : Env → Res β} {k : D → β → Env → Res D} : brwL (.tup x0) e ra rest k = ra.bind fun x e => (rest e).bind fun y e => k x y e := rfl
theorem b1_lst {x0 : T} {r : Res D} : brw (.lst x0) e r = r := rfl
theorem b2_lst {x0 : T} {b : T} {ra : Res D} {rb : Env → Res D} {k : D → D → Env → Res D} : brw2 (.lst x0) b e ra rb k = ra.bind fun x e => (brw b e (rb e)).bind fun y e => k x y e := rfl
theorem bL_lst {x0 : T} {ra : Res D} {rest : Env → Res β} {k : D → β → Env → Res D} : brwL (.lst x0) e ra rest k = ra.bind fun x e => (rest e).bind fun y e => k x y e := rfl
theorem b1_dct {x0 : T} {r : Res D} : brw (.dct x0) e r = r := rfl
theorem b2_dct {x0 : T} {b : T} {ra : Res D} {rb : Env → Res D} {k : D → D → Env → Res D} : brw2 (.dct x0) b e ra rb k = ra.bind fun x e => (brw b e (rb e)).bind fun y e => k x y e := rfl
theorem bL_dct {x0 : T} {ra : Res D} {rest : Env → Res β} {k : D → β → Env → Res D} : brwL (.dct x0) e ra rest k = ra.bind fun x e => (rest e).bind fun y e => k x y e := rfl
theorem b1_idx {x0 : T} {x1 : T} {r : Res D} : brw (.idx x0 x1) e r = r := rfl
theorem b2_idx {x0 : T} {x1 : T} {b : T} {ra : Res D} {rb : Env → Res D} {k : D → D → Env → Res D} : brw2 (.idx x0 x1) b e ra rb k = ra.bind fun x e => (brw b e (rb e)).bind fun y e => k x y e := rfl
theorem bL_idx {x0 : T} {x1 : T} {ra : Res D} {rest : Env → Res β} {k : D → β → Env → Res D} : brwL (.idx x0 x1) e ra rest k = ra.bind fun x e => (rest e).bind fun y e => k x y e := rfl
theorem b1_slc {x0 : T} {x1 : T} {x2 : T} {r : Res D} : brw (.slc x0 x1 x2) e r = r := rfl
theorem b2_slc {x0 : T} {x1 : T} {x2 : T} {b : T} {ra : Res D} {rb : Env → Res D} {k : D → D → Env → Res D} : brw2 (.slc x0 x1 x2) b e ra rb k = ra.bind fun x e => (brw b e (rb e)).bind fun y e => k x y e := rfl
theorem bL_slc {x0 : T} {x1 : T} {x2 : T} {ra : Res D} {rest : Env → Res β} {k : D → β → Env → Res D} : brwL (.slc x0 x1 x2) e ra rest k = ra.bind fun x e => (rest e).bind fun y e => k x y e := rfl
theorem b1_call {x0 : Nat} {x1 : T} {r : Res D} : brw (.call x0 x1) e r = r := rfl
theorem b2_call {x0 : Nat} {x1 : T} {b : T} {ra : Res D} {rb : Env → Res D} {k : D → D → Env → Res D} : brw2 (.call x0 x1) b e ra rb k = ra.bind fun x e => (brw b e (rb e)).bind fun y e => k x y e := rfl
theorem bL_call {x0 : Nat} {x1 : T} {ra : Res D} {rest : Env → Res β} {k : D → β → Env → Res D} : brwL (.call x0 x1) e ra rest k = ra.bind fun x e => (rest e).bind fun y e => k x y e := rfl
theorem b1_bi {x0 : BI} {x1 : T} {r : Res D} : brw (.bi x0 x1) e r = r := rfl
theorem b2_bi {x0 : BI} {x1 : T} {b : T} {ra : Res D} {rb : Env → Res D} {k : D → D → Env → Res D} : brw2 (.bi x0 x1) b e ra rb k = ra.bind fun x e => (brw b e (rb e)).bind fun y e => k x y e := rfl
theorem bL_bi {x0 : BI} {x1 : T} {ra : Res D} {rest : Env → Res β} {k : D → β → Env → Res D} : brwL (.bi x0 x1) e ra rest k = ra.bind fun x e => (rest e).bind fun y e => k x y e := rfl
theorem b1_comp {x0 : List Nat} {x1 : Bool} {x2 : T} {x3 : T} {x4 : T} {r : Res D} : brw (.comp x0 x1 x2 x3 x4) e r = r := rfl
theorem b2_comp {x0 : List Nat} {x1 : Bool} {x2 : T} {x3 : T} {x4 : T} {b : T} {ra : Res D} {rb : Env → Res D} {k : D → D → Env → Res D} : brw2 (.comp x0 x1 x2 x3 x4) b e ra rb k = ra.bind fun x e => (brw b e (rb e)).bind fun y e => k x y e := rfl
theorem bL_comp {x0 : List Nat} {x1 : Bool} {x2 : T} {x3 : T} {x4 : T} {ra : Res D} {rest : Env → Res β} {k : D → β → Env → Res D} : brwL (.comp x0 x1 x2 x3 x4) e ra rest k = ra.bind fun x e => (rest e).bind fun y e => k x y e := rfl
theorem b1_pop {x0 : Nat} {x1 : T} {r : Res D} : brw (.pop x0 x1) e r = r := rfl
theorem b2_pop {x0 : Nat} {x1 : T} {b : T} {ra : Res D} {rb : Env → Res D} {k : D → D → Env → Res D} : brw2 (.pop x0 x1) b e ra rb k = ra.bind fun x e => (brw b e (rb e)).bind fun y e => k x y e := rfl
theorem bL_pop {x0 : Nat} {x1 : T} {ra : Res D} {rest : Env → Res β} {k : D → β → Env → Res D} : brwL (.pop x0 x1) e ra rest k = ra.bind fun x e => (rest e).bind fun y e => k x y e := rfl
theorem b1_meth {x0 : BI} {x1 x2 : T} {r : Res D} : brw (.meth x0 x1 x2) e r = r := rfl
theorem b2_meth {x0 : BI} {x1 x2 : T} {b : T} {ra : Res D} {rb : Env → Res D} {k : D → D → Env → Res D} : brw2 (.meth x0 x1 x2) b e ra rb k = ra.bind fun x e => (brw b e (rb e)).bind fun y e => k x y e := rfl
theorem bL_meth {x0 : BI} {x1 x2 : T} {ra : Res D} {rest : Env → Res β} {k : D → β → Env → Res D} : brwL (.meth x0 x1 x2) e ra rest k = ra.bind fun x e => (rest e).bind fun y e => k x y e := rfl
theorem b1_efld {x0 : Nat} {x1 : Nat} {r : Res D} : brw (.efld x0 x1) e r = r := rfl
theorem b2_efld {x0 : Nat} {x1 : Nat} {b : T} {ra : Res D} {rb : Env → Res D} {k : D → D → Env → Res D} : brw2 (.efld x0 x1) b e ra rb k = ra.bind fun x e => (brw b e (rb e)).bind fun y e => k x y e := rfl
theorem bL_efld {x0 : Nat} {x1 : Nat} {ra : Res D} {rest : Env → Res β} {k : D → β → Env → Res D} : brwL (.efld x0 x1) e ra rest k = ra.bind fun x e => (rest e).bind fun y e => k x y e := rfl
theorem b1_eisi {x0 : Nat} {x1 : Option Nat} {r : Res D} : brw (.eisi x0 x1) e r = r := rfl
theorem b2_eisi {x0 : Nat} {x1 : Option Nat} {b : T} {ra : Res D} {rb : Env → Res D} {k : D → D → Env → Res D} : brw2 (.eisi x0 x1) b e ra rb k = ra.bind fun x e => (brw b e (rb e)).bind fun y e => k x y e := rfl
theorem bL_eisi {x0 : Nat} {x1 : Option Nat} {ra : Res D} {rest : Env → Res β} {k : D → β → Env → Res D} : brwL (.eisi x0 x1) e ra rest k = ra.bind fun x e => (rest e).bind fun y e => k x y e := rfl
theorem b1_var {i : Nat} {r : Res D} : brw (.var i) e r = lift (dOf (e.get i)) e := rfl
theorem b2_var {i : Nat} {b : T} {ra : Res D} {rb : Env → Res D} {k : D → D → Env → Res D} : brw2 (.var i) b e ra rb k = if (dOf (e.get i)).isNone then .bad else (brw b e (rb e)).bind fun y e => match dOf (e.get i) with
    | some x => k x y e
    | none => .bad := rfl
theorem bL_var {i : Nat} {ra : Res D} {rest : Env → Res β} {k : D → β → Env → Res D} : brwL (.var i) e ra rest k = if (dOf (e.get i)).isNone then .bad else (rest e).bind fun y e => match dOf (e.get i) with
    | some x => k x y e
    | none => .bad := rfl
theorem isi_int_non  : bfn .isi [.non , .ty "int"] = some (.bl false) := rfl
theorem isi_int_bl {b : Bool} : bfn .isi [.bl b, .ty "int"] = some (.bl true) := rfl
theorem isi_int_int {i : Int} : bfn .isi [.int i, .ty "int"] = some (.bl true) := rfl
theorem isi_int_str {s : Str} : bfn .isi [.str s, .ty "int"] = some (.bl false) := rfl
theorem isi_int_lst {l : List D} : bfn .isi [.lst l, .ty "int"] = some (.bl false) := rfl
theorem isi_int_tup {l : List D} : bfn .isi [.tup l, .ty "int"] = some (.bl false) := rfl
theorem isi_int_dct {l : List (D × D)} : bfn .isi [.dct l, .ty "int"] = some (.bl false) := rfl
theorem isi_bool_non  : bfn .isi [.non , .ty "bool"] = some (.bl false) := rfl
theorem isi_bool_bl {b : Bool} : bfn .isi [.bl b, .ty "bool"] = some (.bl true) := rfl
theorem isi_bool_int {i : Int} : bfn .isi [.int i, .ty "bool"] = some (.bl false) := rfl
theorem isi_bool_str {s : Str} : bfn .isi [.str s, .ty "bool"] = some (.bl false) := rfl
theorem isi_bool_lst {l : List D} : bfn .isi [.lst l, .ty "bool"] = some (.bl false) := rfl
theorem isi_bool_tup {l : List D} : bfn .isi [.tup l, .ty "bool"] = some (.bl false) := rfl
theorem isi_bool_dct {l : List (D × D)} : bfn .isi [.dct l, .ty "bool"] = some (.bl false) := rfl
theorem isi_str_non  : bfn .isi [.non , .ty "str"] = some (.bl false) := rfl
theorem isi_str_bl {b : Bool} : bfn .isi [.bl b, .ty "str"] = some (.bl false) := rfl
theorem isi_str_int {i : Int} : bfn .isi [.int i, .ty "str"] = some (.bl false) := rfl
theorem isi_str_str {s : Str} : bfn .isi [.str s, .ty "str"] = some (.bl true) := rfl
theorem isi_str_lst {l : List D} : bfn .isi [.lst l, .ty "str"] = some (.bl false) := rfl
theorem isi_str_tup {l : List D} : bfn .isi [.tup l, .ty "str"] = some (.bl false) := rfl
theorem isi_str_dct {l : List (D × D)} : bfn .isi [.dct l, .ty "str"] = some (.bl false) := rfl
theorem isi_list_non  : bfn .isi [.non , .ty "list"] = some (.bl false) := rfl
theorem isi_list_bl {b : Bool} : bfn .isi [.bl b, .ty "list"] = some (.bl false) := rfl
theorem isi_list_int {i : Int} : bfn .isi [.int i, .ty "list"] = some (.bl false) := rfl
theorem isi_list_str {s : Str} : bfn .isi [.str s, .ty "list"] = some (.bl false) := rfl
theorem isi_list_lst {l : List D} : bfn .isi [.lst l, .ty "list"] = some (.bl true) := rfl
theorem isi_list_tup {l : List D} : bfn .isi [.tup l, .ty "list"] = some (.bl false) := rfl
theorem isi_list_dct {l : List (D × D)} : bfn .isi [.dct l, .ty "list"] = some (.bl false) := rfl
theorem isi_tuple_non  : bfn .isi [.non , .ty "tuple"] = some (.bl false) := rfl
theorem isi_tuple_bl {b : Bool} : bfn .isi [.bl b, .ty "tuple"] = some (.bl false) := rfl
theorem isi_tuple_int {i : Int} : bfn .isi [.int i, .ty "tuple"] = some (.bl false) := rfl
theorem isi_tuple_str {s : Str} : bfn .isi [.str s, .ty "tuple"] = some (.bl false) := rfl
theorem isi_tuple_lst {l : List D} : bfn .isi [.lst l, .ty "tuple"] = some (.bl false) := rfl
theorem isi_tuple_tup {l : List D} : bfn .isi [.tup l, .ty "tuple"] = some (.bl true) := rfl
theorem isi_tuple_dct {l : List (D × D)} : bfn .isi [.dct l, .ty "tuple"] = some (.bl false) := rfl
theorem isi_dict_non  : bfn .isi [.non , .ty "dict"] = some (.bl false) := rfl
theorem isi_dict_bl {b : Bool} : bfn .isi [.bl b, .ty "dict"] = some (.bl false) := rfl
theorem isi_dict_int {i : Int} : bfn .isi [.int i, .ty "dict"] = some (.bl false) := rfl
theorem isi_dict_str {s : Str} : bfn .isi [.str s, .ty "dict"] = some (.bl false) := rfl
theorem isi_dict_lst {l : List D} : bfn .isi [.lst l, .ty "dict"] = some (.bl false) := rfl
theorem isi_dict_tup {l : List D} : bfn .isi [.tup l, .ty "dict"] = some (.bl false) := rfl
theorem isi_dict_dct {l : List (D × D)} : bfn .isi [.dct l, .ty "dict"] = some (.bl true) := rfl
theorem bf_int {i : Int} : bfn .int [.int i] = some (.int i) := rfl
theorem bf_intb {k : Bool} : bfn .int [.bl k] = some (.int (if k then 1 else 0)) := rfl
theorem bf_abs {i : Int} : bfn .abs [.int i] = some (.int (if i < 0 then -i else i)) := rfl
theorem bf_lenl {l : List D} : bfn .len [.lst l] = some (.int (l.length : Int)) := rfl
theorem bf_lent {l : List D} : bfn .len [.tup l] = some (.int (l.length : Int)) := rfl
theorem bf_lens {l : List Int} : bfn .len [.scr l] = some (.int (l.length : Int)) := rfl
theorem bf_lend {l : List (D × D)} : bfn .len [.dct l] = some (.int (l.length : Int)) := rfl
theorem bf_min2 {i j : Int} : bfn .min2 [.int i, .int j] = some (.int (if j < i then j else i)) := rfl
theorem bf_max2 {i j : Int} : bfn .max2 [.int i, .int j] = some (.int (if j > i then j else i)) := rfl
theorem bf_sum {l : List D} : bfn .sum [.lst l] = (D.ints l).map fun ns => .int ns.sum := rfl
theorem bf_tup {l : List D} : bfn .tuple [.lst l] = some (.tup l) := rfl
theorem bf_tupt {l : List D} : bfn .tuple [.tup l] = some (.tup l) := rfl
theorem bf_lst {l : List D} : bfn .list [.lst l] = some (.lst l) := rfl
theorem bf_lstt {l : List D} : bfn .list [.tup l] = some (.lst l) := rfl
theorem bo_add {i j : Int} : binop .add (.int i) (.int j) = some (.int (i + j)) := rfl
theorem bo_sub {i j : Int} : binop .sub (.int i) (.int j) = some (.int (i - j)) := rfl
theorem bo_mul {i j : Int} : binop .mul (.int i) (.int j) = if mulOk i j then some (.int (i * j)) else none := rfl
theorem bo_mod {i j : Int} : binop .mod (.int i) (.int j) = if 0 < j then some (.int (i % j)) else none := rfl
theorem bo_fdiv {i j : Int} : binop .fdiv (.int i) (.int j) = if divOk j then some (.int (i / j)) else if divNo j then some (.int (i.fdiv j)) else none := rfl
theorem bo_pow {i j : Int} : binop .pow (.int i) (.int j) = if powOk i j then some (.int (i ^ j.toNat)) else none := rfl
theorem bo_addl {a b : List D} : binop .add (.lst a) (.lst b) = if a.length + b.length ≤ lim then some (.lst (a ++ b)) else none := rfl
theorem co_lt {i j : Int} : cmpop .lt (.int i) (.int j) = some (decide (i < j)) := rfl
theorem co_le {i j : Int} : cmpop .le (.int i) (.int j) = some (decide (i ≤ j)) := rfl
theorem co_gt {i j : Int} : cmpop .gt (.int i) (.int j) = some (decide (j < i)) := rfl
theorem co_ge {i j : Int} : cmpop .ge (.int i) (.int j) = some (decide (j ≤ i)) := rfl
theorem co_eqi {i j : Int} : cmpop .eq (.int i) (.int j) = some (i == j) := rfl
theorem co_nei {i j : Int} : cmpop .ne (.int i) (.int j) = some (!(i == j)) := rfl
theorem co_eqs {i j : Str} : cmpop .eq (.str i) (.str j) = some (eqv (.str i) (.str j)) := rfl
theorem eq_strs {i : Str} : eqv (.str i) (.str i) = true := by show (i == i) = true; simp
theorem co_is {x y : D} : cmpop .is x y = MP.isSame x y := rfl
theorem co_isnot {x y : D} : cmpop .isnot x y = (MP.isSame x y).map (!·) := rfl
theorem ix_l {l : List D} {k : Int} : idxOf (.lst l) (.int k) = L2.atI l k := rfl
theorem ix_t {l : List D} {k : Int} : idxOf (.tup l) (.int k) = L2.atI l k := rfl
theorem tr_bl {b : Bool} : truth (.bl b) = some b := rfl
theorem tr_int {b : Int} : truth (.int b) = some (b != 0) := rfl
theorem at_nat {α : Type} {l : List α} {k : Nat} : L2.atI l (k : Int) = l[k]? := by
  cases h : l[k]? with
  | some v => exact L2.atI_nat h
  | none =>
    have := List.getElem?_eq_none_iff.mp h
    unfold L2.atI L2.ixN
    rw [if_pos (by omega), if_neg (by omega)]
    rfl
theorem sm_ni {i : Int} : MP.isSame (.int i) .non = some false := rfl
theorem sm_nn : MP.isSame .non .non = some true := rfl
theorem sm_ti {i : Int} {b : Bool} : MP.isSame (.int i) (.bl b) = some false := rfl
theorem sm_tt {l : List D} {b : Bool} : MP.isSame (.tup l) (.bl b) = some false := rfl
theorem sm_nt {l : List D} : MP.isSame (.tup l) .non = some false := rfl
theorem sm_ns {l : Str} : MP.isSame (.str l) .non = some false := rfl
theorem sm_ts {l : Str} {b : Bool} : MP.isSame (.str l) (.bl b) = some false := rfl
theorem sm_bb {a b : Bool} : MP.isSame (.bl a) (.bl b) = some (a == b) := rfl
theorem sm_bn {a : Bool} : MP.isSame (.bl a) .non = some false := rfl
theorem sm_nl {l : List D} : MP.isSame (.lst l) .non = some false := rfl
theorem sm_tl {l : List D} {b : Bool} : MP.isSame (.lst l) (.bl b) = some false := rfl
theorem sm_nb {b : Bool} : MP.isSame .non (.bl b) = some false := rfl
theorem sm_nd {l : List (D × D)} : MP.isSame (.dct l) .non = some false := rfl
theorem sm_td {l : List (D × D)} {b : Bool} : MP.isSame (.dct l) (.bl b) = some false := rfl
theorem f_ok {d : D} (h : d.isErr = false) : frzd (.fz d) = some d := by
  show (if d.isErr = true then none else some d) = some d
  rw [h]; rfl
theorem d_ok {d : D} (h : d.isErr = false) : dOf (.fz d) = some d := by
  show (if d.isErr = true then none else some d) = some d
  rw [h]; rfl
theorem put_put {j : Nat} {x y : Sl} : (Env.put (Env.put e j x) j y) = Env.put e j y := by unfold Env.put; rw [List.set_set]
theorem put_get {j : Nat} (h : j < e.length) : Env.put e j (Env.get e j) = e := by
  unfold Env.put Env.get
  rw [List.getD_eq_getElem?_getD, List.getElem?_eq_getElem h]
  exact List.set_getElem_self h
theorem loop_none {j : Nat} {f : Env → Res (Option D)} (hj : j < e.length) : ∀ {items acc : List D}, (∀ d ∈ items, f (e.put j (.fz d)) = .ok none (e.put j (.fz d))) → loopC [j] false f items acc e = .ok acc e
  | [], _, _ => rfl
  | d :: r, acc, h => by
    rw [loopC]
    show (match f (((e.put j .un)).put j (.fz d)) with
      | .ok (some v) e' => loopC [j] false f r (acc ++ [v]) (rePat [j] (oldPat [j] e) e')
      | .ok none e' => loopC [j] false f r acc (rePat [j] (oldPat [j] e) e')
      | .exc _ _ => .bad
      | .bad => .bad) = _
    rw [put_put, h d List.mem_cons_self]
    show loopC [j] false f r acc ((e.put j (.fz d)).put j (e.get j)) = _
    rw [put_put, put_get hj]
    exact loop_none hj fun d' hd => h d' (List.mem_cons_of_mem _ hd)
theorem loop_some {j : Nat} {f : Env → Res (Option D)} {g : D → D} (hj : j < e.length) : ∀ {items acc : List D}, (∀ d ∈ items, f (e.put j (.fz d)) = .ok (some (g d)) (e.put j (.fz d))) → loopC [j] false f items acc e = .ok (acc ++ items.map g) e
  | [], acc, _ => by rw [loopC, List.map_nil, List.append_nil]
  | d :: r, acc, h => by
    rw [loopC]
    show (match f (((e.put j .un)).put j (.fz d)) with
      | .ok (some v) e' => loopC [j] false f r (acc ++ [v]) (rePat [j] (oldPat [j] e) e')
      | .ok none e' => loopC [j] false f r acc (rePat [j] (oldPat [j] e) e')
      | .exc _ _ => .bad
      | .bad => .bad) = _
    rw [put_put, h d List.mem_cons_self]
    show loopC [j] false f r (acc ++ [g d]) ((e.put j (.fz d)).put j (e.get j)) = _
    rw [put_put, put_get hj, loop_some hj fun d' hd => h d' (List.mem_cons_of_mem _ hd), List.map_cons, List.append_assoc]
    rfl
theorem mem_ranged {lo : Int} {k : Nat} {d : D} (h : d ∈ ranged lo k) : ∃ i : Nat, i < k ∧ d = .int (lo + (i : Int)) := by
  unfold ranged at h
  obtain ⟨i, hi, rfl⟩ := List.mem_map.mp h
  exact ⟨i, List.mem_range.mp hi, rfl⟩
theorem ranged_len {lo : Int} {k : Nat} : (ranged lo k).length = k := by unfold ranged; simp
theorem lim_lit {k : Nat} (h : k ≤ 1000000) : (k ≤ lim) = True := eq_true (Nat.le_trans h (by decide))
theorem asgs_nil {io : List Bool} : asgs io [] [] e = some e := rfl
theorem asgs_cons {io : List Bool} {i : Nat} {r : List Nat} {d : D} {ds : List D} : asgs io (i :: r) (d :: ds) e = (asg io i (.fz d) e).bind fun e => asgs io r ds e := rfl
theorem pat_1 {i : Nat} {d : D} : patItems [i] false d = some [d] := rfl
theorem pat_t {p : List Nat} {l : List D} : patItems p true (.tup l) = if l.length = p.length then some l else none := rfl
def forK (r : SRes) (k : Env → SRes) : SRes := match r with
  | .nx e => k e
  | .ct e => k e
  | .bk e => .nx e
  | .rt v e => .rt v e
  | .exc x e => .exc x e
  | .bad => .bad
theorem forK_nx {k : Env → SRes} : forK (.nx e) k = k e := rfl
theorem forK_ct {k : Env → SRes} : forK (.ct e) k = k e := rfl
theorem forK_bk {k : Env → SRes} : forK (.bk e) k = .nx e := rfl
theorem forK_rt {d : D} {k : Env → SRes} : forK (.rt d e) k = .rt d e := rfl
theorem forK_exc {x : X} {k : Env → SRes} : forK (.exc x e) k = .exc x e := rfl
theorem forL_nil {io : List Bool} {p : List Nat} {m : Bool} {f : Env → SRes} : forL io p m f [] e = .nx e := rfl
theorem forL_cons {io : List Bool} {p : List Nat} {m : Bool} {f : Env → SRes} {d : D} {r : List D} : forL io p m f (d :: r) e = opt (patItems p m d) fun ds => opt (asgs io p ds e) fun e => forK (f e) (forL io p m f r) := by
  rw [forL]
  rfl
theorem it_l {l : List D} : itemsOf (.lst l) = some l := rfl
theorem it_t {l : List D} : itemsOf (.tup l) = some l := rfl
theorem it_s {l : List Int} : itemsOf (.scr l) = some (l.map .int) := rfl
theorem ol_l {l : List D} : isOL (.own (.lst l)) = true := rfl
theorem ow_ {d : D} : isOw (.own d) = true := rfl
theorem mut_l {l : List D} : D.isMut (.lst l) = true := rfl
theorem mut_d {l : List (D × D)} : D.isMut (.dct l) = true := rfl
theorem fr_lst {t : T} : freshT G (.lst t) = true := rfl
theorem fr_comp {p : List Nat} {m : Bool} {a b c : T} : freshT G (.comp p m a b c) = true := rfl
theorem fr_bin {op : BOp} {a b : T} : freshT G (.bin op a b) = true := rfl
theorem fr_bil {t : T} : freshT G (.bi .list t) = true := rfl
theorem fr_bis {t : T} : freshT G (.bi .sorted t) = true := rfl
theorem fr_bi1 {t : T} : freshT G (.bi .lrange1 t) = true := rfl
theorem fr_bi2 {t : T} : freshT G (.bi .lrange2 t) = true := rfl
theorem fr_slc {a b c : T} : freshT G (.slc a b c) = true := rfl
theorem fr_dct {t : T} : freshT G (.dct t) = true := rfl
variable {io : List Bool} {fr : Bool}
def seqK (G : Pg) (call : Nat → List D → CRes) (io : List Bool) (fr : Bool) (r : SRes) (b : S) : SRes := r.seq fun e => ex G call io fr b e
theorem sk_nx {b : S} : seqK G call io fr (.nx e) b = ex G call io fr b e := rfl
theorem sk_rt {b : S} {d : D} : seqK G call io fr (.rt d e) b = .rt d e := rfl
theorem sk_bk {b : S} : seqK G call io fr (.bk e) b = .bk e := rfl
theorem sk_ct {b : S} : seqK G call io fr (.ct e) b = .ct e := rfl
theorem sk_exc {b : S} {x : X} : seqK G call io fr (.exc x e) b = .exc x e := rfl
def iteK (G : Pg) (call : Nat → List D → CRes) (io : List Bool) (fr : Bool) (r : Res Bool) (a b : S) : SRes := r.st fun k e => if k = true then ex G call io fr a e else ex G call io fr b e
theorem ik_ok {a b : S} {k : Bool} : iteK G call io fr (.ok k e) a b = if k = true then ex G call io fr a e else ex G call io fr b e := rfl
theorem ik_exc {a b : S} {x : X} : iteK G call io fr (.exc x e) a b = .exc x e := rfl
def forX (G : Pg) (call : Nat → List D → CRes) (io : List Bool) (fr : Bool) (p : List Nat) (m : Bool) (b : S) (items : List D) (e : Env) : SRes := forL io p m (fun e => ex G call io fr b e) items e
theorem fx_nil {p : List Nat} {m : Bool} {b : S} : forX G call io fr p m b [] e = .nx e := rfl
def forY (G : Pg) (call : Nat → List D → CRes) (io : List Bool) (fr : Bool) (p : List Nat) (m : Bool) (b : S) (r : List D) (q : SRes) : SRes := forK q (forX G call io fr p m b r)
theorem fx_cons {p : List Nat} {m : Bool} {b : S} {d : D} {r : List D} : forX G call io fr p m b (d :: r) e = opt (patItems p m d) fun ds => opt (asgs io p ds e) fun e => forY G call io fr p m b r (ex G call io fr b e) := forL_cons
theorem fy_nx {p : List Nat} {m : Bool} {b : S} {r : List D} : forY G call io fr p m b r (.nx e) = forX G call io fr p m b r e := rfl
theorem fy_ct {p : List Nat} {m : Bool} {b : S} {r : List D} : forY G call io fr p m b r (.ct e) = forX G call io fr p m b r e := rfl
theorem fy_bk {p : List Nat} {m : Bool} {b : S} {r : List D} : forY G call io fr p m b r (.bk e) = .nx e := rfl
theorem fy_rt {p : List Nat} {m : Bool} {b : S} {r : List D} {d : D} : forY G call io fr p m b r (.rt d e) = .rt d e := rfl
theorem fy_exc {p : List Nat} {m : Bool} {b : S} {r : List D} {x : X} : forY G call io fr p m b r (.exc x e) = .exc x e := rfl
def whileX (G : Pg) (call : Nat → List D → CRes) (io : List Bool) (fr : Bool) (c : T) (b : S) (n : Nat) (e : Env) : SRes := whileN (fun e => evC G call c e) (fun e => ex G call io fr b e) n e
def tryK (G : Pg) (call : Nat → List D → CRes) (io : List Bool) (fr : Bool) (c : Nat) (i : Option Nat) (h : S) (r : SRes) : SRes := match r with
  | .exc x e => if G.sub x.c c then (match i with
        | none => hushed (ex G call io fr h e)
        | some k => opt (asg io k (.fz (.err x.c x.fs)) e) fun e => gone k (ex G call io fr h e)) else .exc x e
  | r => r
theorem tk_nx {c : Nat} {i : Option Nat} {h : S} : tryK G call io fr c i h (.nx e) = .nx e := rfl
theorem tk_rt {c : Nat} {i : Option Nat} {h : S} {d : D} : tryK G call io fr c i h (.rt d e) = .rt d e := rfl
theorem tk_bk {c : Nat} {i : Option Nat} {h : S} : tryK G call io fr c i h (.bk e) = .bk e := rfl
theorem tk_ct {c : Nat} {i : Option Nat} {h : S} : tryK G call io fr c i h (.ct e) = .ct e := rfl
theorem tk_e0 {c : Nat} {h : S} {x : X} : tryK G call io fr c none h (.exc x e) = if G.sub x.c c = true then hushed (ex G call io fr h e) else .exc x e := rfl
theorem tk_e1 {c k : Nat} {h : S} {x : X} : tryK G call io fr c (some k) h (.exc x e) = if G.sub x.c c = true then opt (asg io k (.fz (.err x.c x.fs)) e) (fun e => gone k (ex G call io fr h e)) else .exc x e := rfl
theorem w_skip : ex G call io fr .skip e = .nx e := by rw [ex] <;> rfl
theorem w_seq {a b : S} : ex G call io fr (.seq a b) e = seqK G call io fr (ex G call io fr a e) b := by rw [ex]; rfl
theorem w_set {i : Nat} {t : T} : ex G call io fr (.set i t) e = (evE G call t e).st fun d e => opt (asg io i (.fz d) e) .nx := by rw [ex] <;> rfl
theorem w_setO {i : Nat} {t : T} : ex G call io fr (.setO i t) e = (evE G call t e).st fun d e => if freshT G t && d.isMut then opt (asg io i (.own d) e) .nx else .bad := by rw [ex] <;> rfl
theorem w_unpack {is : List Nat} {t : T} : ex G call io fr (.unpack is t) e = (evE G call t e).st fun d e => opt (patItems is true d) fun ds => opt (asgs io is ds e) .nx := by rw [ex] <;> rfl
def appK (i : Nat) (d : D) (e : Env) (s : Sl) : SRes := match s with
  | .own (.lst l) => if l.length < lim then .nx (e.put i (.own (.lst (l ++ [d])))) else .bad
  | _ => .bad
theorem ak_ {i : Nat} {d : D} {l : List D} : appK i d e (.own (.lst l)) = if l.length < lim then .nx (e.put i (.own (.lst (l ++ [d])))) else .bad := rfl
theorem w_app {i : Nat} {t : T} : ex G call io fr (.app i t) e = if isOL (e.get i) = true then ((evE G call t e).st fun d e => appK i d e (e.get i)) else .bad := by rw [ex]; rfl
theorem w_put {i : Nat} {k t : T} : ex G call io fr (.put i k t) e = (evE G call t e).st fun d e => if isOw (e.get i) = true then ((evE G call k e).st fun k e => putS i d k e (e.get i)) else .bad := by rw [ex] <;> rfl
theorem ps_l {i : Nat} {d k : D} {l : List D} : putS i d k e (.own (.lst l)) = putL i d k e l := rfl
theorem ps_d {i : Nat} {d k : D} {l : List (D × D)} : putS i d k e (.own (.dct l)) = if (k.isKey && decide (l.length < lim)) = true then .nx (e.put i (.own (.dct (putKey k d l)))) else .bad := rfl
theorem pl_i {i : Nat} {d : D} {k : Int} {l : List D} : putL i d (.int k) e l = opt (L2.ixN l.length k) fun j => .nx (e.put i (.own (.lst (l.set j d)))) := rfl
theorem w_aug {i : Nat} {op : BOp} {t : T} : ex G call io fr (.aug i op t) e = opt (frzd (e.get i)) fun x => (evE G call t e).st fun y e => opt (augop op x y) fun d => opt (asg io i (.fz d) e) .nx := by rw [ex] <;> rfl
theorem ag_add {i j : Int} : augop .add (.int i) (.int j) = some (.int (i + j)) := rfl
theorem ag_sub {i j : Int} : augop .sub (.int i) (.int j) = some (.int (i - j)) := rfl
theorem w_expr {t : T} : ex G call io fr (.expr t) e = (evE G call t e).st fun _ e => .nx e := by rw [ex] <;> rfl
def retV (io : List Bool) (fr : Bool) (i : Nat) (e : Env) (s : Sl) : SRes := match s with
  | .fz d => if fr || d.isErr then .bad else .rt d e
  | .own d => if io.getD i false then .bad else .rt d (e.put i .un)
  | .un => .bad
theorem rv_fz {i : Nat} {d : D} : retV io fr i e (.fz d) = if fr || d.isErr then .bad else .rt d e := rfl
theorem rv_own {i : Nat} {d : D} : retV [] fr i e (.own d) = .rt d (e.put i .un) := rfl
theorem w_ret_var {i : Nat} : ex G call io fr (.ret (.var i)) e = retV io fr i e (e.get i) := by rw [ex]; rfl
theorem w_retN : ex G call io fr .retN e = if fr then .bad else .rt .non e := by rw [ex] <;> rfl
theorem w_ite {c : T} {a b : S} : ex G call io fr (.ite c a b) e = iteK G call io fr (evC G call c e) a b := by rw [ex]; rfl
theorem w_for {p : List Nat} {m : Bool} {it : T} {b : S} : ex G call io fr (.for_ p m it b) e = (evI G call it e).st fun items e => forX G call io fr p m b items e := by rw [ex]; rfl
theorem w_while {c : T} {b : S} : ex G call io fr (.while_ c b) e = whileX G call io fr c b lim e := by rw [ex]; rfl
theorem w_brk : ex G call io fr .brk e = .bk e := by rw [ex] <;> rfl
theorem w_cnt : ex G call io fr .cnt e = .ct e := by rw [ex] <;> rfl
theorem w_raise {c : Nat} {a : T} : ex G call io fr (.raise c a) e = (evL G call a e).st fun ds e => .exc ⟨c, ds⟩ e := by rw [ex] <;> rfl
theorem w_try {c : Nat} {i : Option Nat} {b h : S} : ex G call io fr (.try_ b c i h) e = tryK G call io fr c i h (ex G call io fr b e) := by rw [ex]; rfl
theorem w_frz {i : Nat} : ex G call io fr (.frz i) e = (match e.get i with | .own d => .nx (e.put i (.fz d)) | _ => .nx e) := by rw [ex] <;> rfl
theorem e_con {d : D} : evE G call (.con d) e = .ok d e := by rw [evE] <;> rfl
theorem e_var {i : Nat} : evE G call (.var i) e = lift (frzd (e.get i)) e := by rw [evE] <;> rfl
theorem e_glb {i : Nat} : evE G call (.glb i) e = lift G.glob[i]? e := by rw [evE] <;> rfl
theorem e_bin {op : BOp} {a b : T} : evE G call (.bin op a b) e = brw2 a b e (evE G call a e) (evE G call b) fun x y e => lift (binop op x y) e := by rw [evE] <;> rfl
theorem e_neg {a : T} : evE G call (.neg a) e = (evE G call a e).bind fun x e => (match x with | .int i => .ok (.int (-i)) e | _ => .bad) := by rw [evE] <;> rfl
theorem e_not {a : T} : evE G call (.not a) e = (evE G call a e).bind fun x e => (match x with | .bl b => .ok (.bl (!b)) e | _ => .bad) := by rw [evE] <;> rfl
theorem e_and {a b : T} : evE G call (.and a b) e = (evE G call a e).bind fun x e => (match x with | .bl k => (if k = true then evE G call b e else .ok (.bl false) e) | _ => .bad) := by rw [evE] <;> rfl
theorem e_or {a b : T} : evE G call (.or a b) e = (evE G call a e).bind fun x e => (match x with | .bl k => (if k = true then .ok (.bl true) e else evE G call b e) | _ => .bad) := by rw [evE] <;> rfl
theorem e_cmp {op : COp} {a b : T} : evE G call (.cmp op a b) e = brw2 a b e (evE G call a e) (evE G call b) fun x y e => lift ((cmpop op x y).map .bl) e := by rw [evE] <;> rfl
theorem e_chain {o1 o2 : COp} {a b c : T} : evE G call (.chain o1 o2 a b c) e = (evE G call a e).bind fun x e => (evE G call b e).bind fun y e => (match cmpop o1 x y with
    | some k => (if k = true then (evE G call c e).bind fun z e => lift ((cmpop o2 y z).map .bl) e else .ok (.bl false) e)
    | none => .bad) := by rw [evE] <;> rfl
theorem e_ite {c a b : T} : evE G call (.ite c a b) e = (evC G call c e).bind fun k e => if k = true then evE G call a e else evE G call b e := by rw [evE] <;> rfl
theorem e_tup {l : T} : evE G call (.tup l) e = (evL G call l e).bind fun ds e => if ds.length ≤ lim then .ok (.tup ds) e else .bad := by rw [evE] <;> rfl
theorem e_lst {l : T} : evE G call (.lst l) e = (evL G call l e).bind fun ds e => if ds.length ≤ lim then .ok (.lst ds) e else .bad := by rw [evE] <;> rfl
theorem e_dct {l : T} : evE G call (.dct l) e = (evL G call l e).bind fun ds e => lift (dispOf ds) e := by rw [evE] <;> rfl
theorem e_idx {a i : T} : evE G call (.idx a i) e = brw2 a i e (evE G call a e) (evE G call i) fun x y e => lift (idxOf x y) e := by rw [evE] <;> rfl
theorem e_slc {a lo hi : T} : evE G call (.slc a lo hi) e = brwL a e (evE G call a e) (fun e => (evP G call lo e).bind fun l e => (evP G call hi e).bind fun h e => .ok (l, h) e) fun x p e => lift (cutOf x p.1 p.2) e := by rw [evE] <;> rfl
def callK (r : CRes) (e : Env) : Res D := match r with
  | .ret d => .ok d e
  | .exc x => .exc x e
  | .bad => .bad
theorem ck_ret {d : D} : callK (.ret d) e = .ok d e := rfl
theorem ck_exc {x : X} : callK (.exc x) e = .exc x e := rfl
theorem e_call {f : Nat} {a : T} : evE G call (.call f a) e = (evL G call a e).bind fun ds e => callK (call f ds) e := by rw [evE]; rfl
theorem e_bi1 {b : BI} {a : T} : evE G call (.bi b (.cons a .nil)) e = (brw a e (evE G call a e)).bind fun x e => lift (bfn b [x]) e := by rw [evE] <;> rfl
theorem e_bi2 {b : BI} {a c : T} : evE G call (.bi b (.cons a (.cons c .nil))) e = brw2 a c e (evE G call a e) (evE G call c) fun x y e => lift (bfn b [x, y]) e := by rw [evE] <;> rfl
def loopX (G : Pg) (call : Nat → List D → CRes) (p : List Nat) (m : Bool) (c el : T) (items acc : List D) (e : Env) : Res (List D) := loopC p m (fun e => (evC G call c e).bind fun k e => if k = true then (evE G call el e).bind fun v e => .ok (some v) e else .ok none e) items acc e
theorem e_comp {p : List Nat} {m : Bool} {it c el : T} : evE G call (.comp p m it c el) e = (evI G call it e).bind fun items e => if items.length ≤ lim then (loopX G call p m c el items [] e).bind fun ds e => .ok (.lst ds) e else .bad := by rw [evE]; rfl
theorem lx_nil {p : List Nat} {m : Bool} {c el : T} {acc : List D} : loopX G call p m c el [] acc e = .ok acc e := rfl
theorem e_efld {i k : Nat} : evE G call (.efld i k) e = (match e.get i with | .fz (.err _ fs) => lift fs[k]? e | _ => .bad) := by rw [evE] <;> rfl
theorem e_eisi {i : Nat} {k : Option Nat} : evE G call (.eisi i k) e = (match e.get i with | .fz (.err c fs) => if fs.isEmpty then .ok (.bl (subK G k c)) e else .bad | _ => .bad) := by rw [evE] <;> rfl
theorem nil_e {α : Type} : ([] : List α).isEmpty = true := rfl
theorem sub_n {c : Nat} : subK G none c = true := rfl
theorem sub_s {c j : Nat} : subK G (some j) c = G.sub c j := rfl
theorem gone_rt {i : Nat} {d : D} : gone i (.rt d e) = .rt d e := rfl
theorem gone_nx {i : Nat} : gone i (.nx e) = if noErr (e.put i .un) then .nx (e.put i .un) else .bad := rfl
theorem hush_nx : hushed (.nx e) = .nx e := rfl
theorem hush_rt {d : D} : hushed (.rt d e) = .rt d e := rfl
theorem lt_lit {k : Nat} (h : k < 1000000) : (k < lim) = True := eq_true (Nat.lt_trans h (by decide))
theorem xr_con {x0 : D} : ex G call io fr (.ret (.con x0)) e = (evE G call (.con x0) e).st fun d e => if fr && !(freshT G (.con x0) && d.isMut) then .bad else .rt d e := rfl
theorem xr_glb {x0 : Nat} : ex G call io fr (.ret (.glb x0)) e = (evE G call (.glb x0) e).st fun d e => if fr && !(freshT G (.glb x0) && d.isMut) then .bad else .rt d e := rfl
theorem xr_bin {x0 : BOp} {x1 : T} {x2 : T} : ex G call io fr (.ret (.bin x0 x1 x2)) e = (evE G call (.bin x0 x1 x2) e).st fun d e => if fr && !(freshT G (.bin x0 x1 x2) && d.isMut) then .bad else .rt d e := rfl
theorem xr_neg {x0 : T} : ex G call io fr (.ret (.neg x0)) e = (evE G call (.neg x0) e).st fun d e => if fr && !(freshT G (.neg x0) && d.isMut) then .bad else .rt d e := rfl
theorem xr_not {x0 : T} : ex G call io fr (.ret (.not x0)) e = (evE G call (.not x0) e).st fun d e => if fr && !(freshT G (.not x0) && d.isMut) then .bad else .rt d e := rfl
theorem xr_and {x0 : T} {x1 : T} : ex G call io fr (.ret (.and x0 x1)) e = (evE G call (.and x0 x1) e).st fun d e => if fr && !(freshT G (.and x0 x1) && d.isMut) then .bad else .rt d e := rfl
theorem xr_or {x0 : T} {x1 : T} : ex G call io fr (.ret (.or x0 x1)) e = (evE G call (.or x0 x1) e).st fun d e => if fr && !(freshT G (.or x0 x1) && d.isMut) then .bad else .rt d e := rfl
theorem xr_cmp {x0 : COp} {x1 : T} {x2 : T} : ex G call io fr (.ret (.cmp x0 x1 x2)) e = (evE G call (.cmp x0 x1 x2) e).st fun d e => if fr && !(freshT G (.cmp x0 x1 x2) && d.isMut) then .bad else .rt d e := rfl
theorem xr_chain {x0 : COp} {x1 : COp} {x2 : T} {x3 : T} {x4 : T} : ex G call io fr (.ret (.chain x0 x1 x2 x3 x4)) e = (evE G call (.chain x0 x1 x2 x3 x4) e).st fun d e => if fr && !(freshT G (.chain x0 x1 x2 x3 x4) && d.isMut) then .bad else .rt d e := rfl
theorem xr_ite {x0 : T} {x1 : T} {x2 : T} : ex G call io fr (.ret (.ite x0 x1 x2)) e = (evE G call (.ite x0 x1 x2) e).st fun d e => if fr && !(freshT G (.ite x0 x1 x2) && d.isMut) then .bad else .rt d e := rfl
theorem xr_tup {x0 : T} : ex G call io fr (.ret (.tup x0)) e = (evE G call (.tup x0) e).st fun d e => if fr && !(freshT G (.tup x0) && d.isMut) then .bad else .rt d e := rfl
theorem xr_lst {x0 : T} : ex G call io fr (.ret (.lst x0)) e = (evE G call (.lst x0) e).st fun d e => if fr && !(freshT G (.lst x0) && d.isMut) then .bad else .rt d e := rfl
theorem xr_dct {x0 : T} : ex G call io fr (.ret (.dct x0)) e = (evE G call (.dct x0) e).st fun d e => if fr && !(freshT G (.dct x0) && d.isMut) then .bad else .rt d e := rfl
theorem xr_idx {x0 : T} {x1 : T} : ex G call io fr (.ret (.idx x0 x1)) e = (evE G call (.idx x0 x1) e).st fun d e => if fr && !(freshT G (.idx x0 x1) && d.isMut) then .bad else .rt d e := rfl
theorem xr_slc {x0 : T} {x1 : T} {x2 : T} : ex G call io fr (.ret (.slc x0 x1 x2)) e = (evE G call (.slc x0 x1 x2) e).st fun d e => if fr && !(freshT G (.slc x0 x1 x2) && d.isMut) then .bad else .rt d e := rfl
theorem xr_call {x0 : Nat} {x1 : T} : ex G call io fr (.ret (.call x0 x1)) e = (evE G call (.call x0 x1) e).st fun d e => if fr && !(freshT G (.call x0 x1) && d.isMut) then .bad else .rt d e := rfl
theorem xr_bi {x0 : BI} {x1 : T} : ex G call io fr (.ret (.bi x0 x1)) e = (evE G call (.bi x0 x1) e).st fun d e => if fr && !(freshT G (.bi x0 x1) && d.isMut) then .bad else .rt d e := rfl
theorem xr_comp {x0 : List Nat} {x1 : Bool} {x2 : T} {x3 : T} {x4 : T} : ex G call io fr (.ret (.comp x0 x1 x2 x3 x4)) e = (evE G call (.comp x0 x1 x2 x3 x4) e).st fun d e => if fr && !(freshT G (.comp x0 x1 x2 x3 x4) && d.isMut) then .bad else .rt d e := rfl
theorem xr_pop {x0 : Nat} {x1 : T} : ex G call io fr (.ret (.pop x0 x1)) e = (evE G call (.pop x0 x1) e).st fun d e => if fr && !(freshT G (.pop x0 x1) && d.isMut) then .bad else .rt d e := rfl
theorem xr_efld {x0 : Nat} {x1 : Nat} : ex G call io fr (.ret (.efld x0 x1)) e = (evE G call (.efld x0 x1) e).st fun d e => if fr && !(freshT G (.efld x0 x1) && d.isMut) then .bad else .rt d e := rfl
theorem xr_eisi {x0 : Nat} {x1 : Option Nat} : ex G call io fr (.ret (.eisi x0 x1)) e = (evE G call (.eisi x0 x1) e).st fun d e => if fr && !(freshT G (.eisi x0 x1) && d.isMut) then .bad else .rt d e := rfl
theorem at_k0 {α : Type} {a0 : α} {l : List α} : L2.atI (a0 :: l) 0 = some a0 := (at_nat (k := 0)).trans rfl
theorem at_k1 {α : Type} {a0 a1 : α} {l : List α} : L2.atI (a0 :: a1 :: l) 1 = some a1 := (at_nat (k := 1)).trans rfl
theorem at_k2 {α : Type} {a0 a1 a2 : α} {l : List α} : L2.atI (a0 :: a1 :: a2 :: l) 2 = some a2 := (at_nat (k := 2)).trans rfl
theorem at_k3 {α : Type} {a0 a1 a2 a3 : α} {l : List α} : L2.atI (a0 :: a1 :: a2 :: a3 :: l) 3 = some a3 := (at_nat (k := 3)).trans rfl
theorem at_k4 {α : Type} {a0 a1 a2 a3 a4 : α} {l : List α} : L2.atI (a0 :: a1 :: a2 :: a3 :: a4 :: l) 4 = some a4 := (at_nat (k := 4)).trans rfl
theorem at_k5 {α : Type} {a0 a1 a2 a3 a4 a5 : α} {l : List α} : L2.atI (a0 :: a1 :: a2 :: a3 :: a4 :: a5 :: l) 5 = some a5 := (at_nat (k := 5)).trans rfl
theorem at_k6 {α : Type} {a0 a1 a2 a3 a4 a5 a6 : α} {l : List α} : L2.atI (a0 :: a1 :: a2 :: a3 :: a4 :: a5 :: a6 :: l) 6 = some a6 := (at_nat (k := 6)).trans rfl
theorem at_k7 {α : Type} {a0 a1 a2 a3 a4 a5 a6 a7 : α} {l : List α} : L2.atI (a0 :: a1 :: a2 :: a3 :: a4 :: a5 :: a6 :: a7 :: l) 7 = some a7 := (at_nat (k := 7)).trans rfl
theorem at_k8 {α : Type} {a0 a1 a2 a3 a4 a5 a6 a7 a8 : α} {l : List α} : L2.atI (a0 :: a1 :: a2 :: a3 :: a4 :: a5 :: a6 :: a7 :: a8 :: l) 8 = some a8 := (at_nat (k := 8)).trans rfl
theorem at_k9 {α : Type} {a0 a1 a2 a3 a4 a5 a6 a7 a8 a9 : α} {l : List α} : L2.atI (a0 :: a1 :: a2 :: a3 :: a4 :: a5 :: a6 :: a7 :: a8 :: a9 :: l) 9 = some a9 := (at_nat (k := 9)).trans rfl
theorem at_k10 {α : Type} {a0 a1 a2 a3 a4 a5 a6 a7 a8 a9 a10 : α} {l : List α} : L2.atI (a0 :: a1 :: a2 :: a3 :: a4 :: a5 :: a6 :: a7 :: a8 :: a9 :: a10 :: l) 10 = some a10 := (at_nat (k := 10)).trans rfl
theorem at_k11 {α : Type} {a0 a1 a2 a3 a4 a5 a6 a7 a8 a9 a10 a11 : α} {l : List α} : L2.atI (a0 :: a1 :: a2 :: a3 :: a4 :: a5 :: a6 :: a7 :: a8 :: a9 :: a10 :: a11 :: l) 11 = some a11 := (at_nat (k := 11)).trans rfl
theorem at_k12 {α : Type} {a0 a1 a2 a3 a4 a5 a6 a7 a8 a9 a10 a11 a12 : α} {l : List α} : L2.atI (a0 :: a1 :: a2 :: a3 :: a4 :: a5 :: a6 :: a7 :: a8 :: a9 :: a10 :: a11 :: a12 :: l) 12 = some a12 := (at_nat (k := 12)).trans rfl
theorem at_k13 {α : Type} {a0 a1 a2 a3 a4 a5 a6 a7 a8 a9 a10 a11 a12 a13 : α} {l : List α} : L2.atI (a0 :: a1 :: a2 :: a3 :: a4 :: a5 :: a6 :: a7 :: a8 :: a9 :: a10 :: a11 :: a12 :: a13 :: l) 13 = some a13 := (at_nat (k := 13)).trans rfl
theorem at_k14 {α : Type} {a0 a1 a2 a3 a4 a5 a6 a7 a8 a9 a10 a11 a12 a13 a14 : α} {l : List α} : L2.atI (a0 :: a1 :: a2 :: a3 :: a4 :: a5 :: a6 :: a7 :: a8 :: a9 :: a10 :: a11 :: a12 :: a13 :: a14 :: l) 14 = some a14 := (at_nat (k := 14)).trans rfl
theorem at_k15 {α : Type} {a0 a1 a2 a3 a4 a5 a6 a7 a8 a9 a10 a11 a12 a13 a14 a15 : α} {l : List α} : L2.atI (a0 :: a1 :: a2 :: a3 :: a4 :: a5 :: a6 :: a7 :: a8 :: a9 :: a10 :: a11 :: a12 :: a13 :: a14 :: a15 :: l) 15 = some a15 := (at_nat (k := 15)).trans rfl
theorem at_k16 {α : Type} {a0 a1 a2 a3 a4 a5 a6 a7 a8 a9 a10 a11 a12 a13 a14 a15 a16 : α} {l : List α} : L2.atI (a0 :: a1 :: a2 :: a3 :: a4 :: a5 :: a6 :: a7 :: a8 :: a9 :: a10 :: a11 :: a12 :: a13 :: a14 :: a15 :: a16 :: l) 16 = some a16 := (at_nat (k := 16)).trans rfl
theorem at_k17 {α : Type} {a0 a1 a2 a3 a4 a5 a6 a7 a8 a9 a10 a11 a12 a13 a14 a15 a16 a17 : α} {l : List α} : L2.atI (a0 :: a1 :: a2 :: a3 :: a4 :: a5 :: a6 :: a7 :: a8 :: a9 :: a10 :: a11 :: a12 :: a13 :: a14 :: a15 :: a16 :: a17 :: l) 17 = some a17 := (at_nat (k := 17)).trans rfl
theorem at_k18 {α : Type} {a0 a1 a2 a3 a4 a5 a6 a7 a8 a9 a10 a11 a12 a13 a14 a15 a16 a17 a18 : α} {l : List α} : L2.atI (a0 :: a1 :: a2 :: a3 :: a4 :: a5 :: a6 :: a7 :: a8 :: a9 :: a10 :: a11 :: a12 :: a13 :: a14 :: a15 :: a16 :: a17 :: a18 :: l) 18 = some a18 := (at_nat (k := 18)).trans rfl
theorem at_k19 {α : Type} {a0 a1 a2 a3 a4 a5 a6 a7 a8 a9 a10 a11 a12 a13 a14 a15 a16 a17 a18 a19 : α} {l : List α} : L2.atI (a0 :: a1 :: a2 :: a3 :: a4 :: a5 :: a6 :: a7 :: a8 :: a9 :: a10 :: a11 :: a12 :: a13 :: a14 :: a15 :: a16 :: a17 :: a18 :: a19 :: l) 19 = some a19 := (at_nat (k := 19)).trans rfl
theorem at_k20 {α : Type} {a0 a1 a2 a3 a4 a5 a6 a7 a8 a9 a10 a11 a12 a13 a14 a15 a16 a17 a18 a19 a20 : α} {l : List α} : L2.atI (a0 :: a1 :: a2 :: a3 :: a4 :: a5 :: a6 :: a7 :: a8 :: a9 :: a10 :: a11 :: a12 :: a13 :: a14 :: a15 :: a16 :: a17 :: a18 :: a19 :: a20 :: l) 20 = some a20 := (at_nat (k := 20)).trans rfl
def turnX (G : Pg) (call : Nat → List D → CRes) (c el : T) (e : Env) : Res (Option D) := (evC G call c e).bind fun k e => if k = true then (evE G call el e).bind fun v e => .ok (some v) e else .ok none e
def loopY (G : Pg) (call : Nat → List D → CRes) (p : List Nat) (m : Bool) (c el : T) (r acc : List D) (os : List Sl) (q : Res (Option D)) : Res (List D) := match q with
  | .ok (some v) e' => loopX G call p m c el r (acc ++ [v]) (rePat p os e')
  | .ok none e' => loopX G call p m c el r acc (rePat p os e')
  | .exc _ _ => .bad
  | .bad => .bad
def optR {α : Type} (o : Option α) (f : α → Res (List D)) : Res (List D) := match o with
  | some a => f a
  | none => .bad
theorem or_s {α : Type} {a : α} {f : α → Res (List D)} : optR (some a) f = f a := rfl
theorem lx_cons {p : List Nat} {m : Bool} {c el : T} {d : D} {r acc : List D} : loopX G call p m c el (d :: r) acc e = optR (patItems p m d) fun ds => loopY G call p m c el r acc (oldPat p e) (turnX G call c el (setPat p ds (wipeE p e))) := by
  unfold loopX
  rw [loopC]
  cases patItems p m d <;> rfl
theorem ly_some {p : List Nat} {m : Bool} {c el : T} {v : D} {r acc : List D} {os : List Sl} : loopY G call p m c el r acc os (.ok (some v) e) = loopX G call p m c el r (acc ++ [v]) (rePat p os e) := rfl
theorem ly_none {p : List Nat} {m : Bool} {c el : T} {r acc : List D} {os : List Sl} : loopY G call p m c el r acc os (.ok none e) = loopX G call p m c el r acc (rePat p os e) := rfl
theorem tx_ {c el : T} : turnX G call c el e = (evC G call c e).bind fun k e => if k = true then (evE G call el e).bind fun v e => .ok (some v) e else .ok none e := rfl
theorem op_nil : oldPat [] e = [] := rfl
theorem op_cons {i : Nat} {p : List Nat} : oldPat (i :: p) e = e.get i :: oldPat p e := rfl
theorem we_nil : wipeE [] e = e := rfl
theorem we_cons {i : Nat} {p : List Nat} : wipeE (i :: p) e = (wipeE p e).put i .un := rfl
theorem sp_nil {ds : List D} : setPat [] ds e = e := rfl
theorem sp_cons {i : Nat} {p : List Nat} {d : D} {ds : List D} : setPat (i :: p) (d :: ds) e = setPat p ds (e.put i (.fz d)) := rfl
theorem rp_nil {os : List Sl} : rePat [] os e = e := rfl
theorem rp_cons {i : Nat} {p : List Nat} {s : Sl} {os : List Sl} : rePat (i :: p) (s :: os) e = rePat p os (e.put i s) := rfl
theorem rg_0 {lo : Int} : ranged lo 0 = [] := rfl
theorem rg_1 {lo : Int} : ranged lo 1 = [.int (lo + 0)] := rfl
theorem rg_2 {lo : Int} : ranged lo 2 = [.int (lo + 0), .int (lo + 1)] := rfl
theorem rg_3 {lo : Int} : ranged lo 3 = [.int (lo + 0), .int (lo + 1), .int (lo + 2)] := rfl
theorem rg_4 {lo : Int} : ranged lo 4 = [.int (lo + 0), .int (lo + 1), .int (lo + 2), .int (lo + 3)] := rfl
theorem rg_5 {lo : Int} : ranged lo 5 = [.int (lo + 0), .int (lo + 1), .int (lo + 2), .int (lo + 3), .int (lo + 4)] := rfl
theorem bls_n : D.bls [] = some [] := rfl
theorem bls_c {b : Bool} {r : List D} : D.bls (.bl b :: r) = (D.bls r).map (b :: ·) := rfl
theorem ints_n : D.ints [] = some [] := rfl
theorem ints_c {b : Int} {r : List D} : D.ints (.int b :: r) = (D.ints r).map (b :: ·) := rfl
theorem bf_all {l : List D} : bfn .all [.lst l] = (D.bls l).map fun bs => .bl (bs.all id) := rfl
theorem bf_any {l : List D} : bfn .any [.lst l] = (D.bls l).map fun bs => .bl (bs.any id) := rfl
theorem bf_gcd {i j : Int} : bfn .gcd [.int i, .int j] = some (.int ((Nat.gcd i.natAbs j.natAbs : Nat) : Int)) := rfl
theorem bm_var {m : BI} {i : Nat} {ra : Res D} {rb : Env → Res (List D)} {k : D → List D → Env → Res D} : brwM m (.var i) e ra rb k = if ((dOf (e.get i)).map (mTy m)).getD false = true then (rb e).bind fun ys e => match dOf (e.get i) with
    | some x => k x ys e
    | none => .bad else .bad := rfl
def brwN (m : BI) (ra : Res D) (rb : Env → Res (List D)) (k : D → List D → Env → Res D) : Res D := ra.bind fun x e => if mTy m x = true then (rb e).bind fun ys e => k x ys e else .bad
theorem bn_ {m : BI} {ra : Res D} {rb : Env → Res (List D)} {k : D → List D → Env → Res D} : brwN m ra rb k = ra.bind fun x e => if mTy m x = true then (rb e).bind fun ys e => k x ys e else .bad := rfl
theorem bm_lst {m : BI} {l : T} {ra : Res D} {rb : Env → Res (List D)} {k : D → List D → Env → Res D} : brwM m (.lst l) e ra rb k = brwN m ra rb k := rfl
theorem e_meth {m : BI} {a b : T} : evE G call (.meth m a b) e = brwM m a e (evE G call a e) (evL G call b) fun x ys e => lift (mfn m x ys) e := by rw [evE] <;> rfl
theorem my_ixl {l : List D} : mTy .index (.lst l) = true := rfl
theorem mf_ix {l : List D} {y : D} : mfn .index (.lst l) [y] = if (plain y && plain (.lst l)) = true then (findI y l 0).map (fun k => D.int (k : Int)) else none := by unfold mfn; rfl
theorem xr_meth {x0 : BI} {x1 x2 : T} : ex G call io fr (.ret (.meth x0 x1 x2)) e = (evE G call (.meth x0 x1 x2) e).st fun d e => if fr && !(freshT G (.meth x0 x1 x2) && d.isMut) then .bad else .rt d e := rfl
theorem bf_isqrt {i : Int} : bfn .isqrt [.int i] = if 0 ≤ i ∧ i.toNat.log2 ≤ 13000 then some (.int ((PySem.Float64.isqrt i.toNat : Nat) : Int)) else none := rfl
theorem bf_lr1 {j : Int} : bfn .lrange1 [.int j] = if rngOk 0 j then some (.lst (ranged 0 j.toNat)) else none := rfl
theorem bf_lr2 {i j : Int} : bfn .lrange2 [.int i, .int j] = if rngOk i j then some (.lst (ranged i (j - i).toNat)) else none := rfl
def minK : Option (List Int) → Option D
  | some (m :: r) => some (.int (leastI m r))
  | _ => none
def maxK : Option (List Int) → Option D
  | some (m :: r) => some (.int (mostI m r))
  | _ => none
theorem bf_min1 {l : List D} : bfn .min1 [.lst l] = minK (D.ints l) := by
  show (match D.ints l with | some (m :: r) => some (.int (leastI m r)) | _ => none) = minK (D.ints l)
  cases D.ints l with
  | none => rfl
  | some l => cases l <;> rfl
theorem bf_max1 {l : List D} : bfn .max1 [.lst l] = maxK (D.ints l) := by
  show (match D.ints l with | some (m :: r) => some (.int (mostI m r)) | _ => none) = maxK (D.ints l)
  cases D.ints l with
  | none => rfl
  | some l => cases l <;> rfl
theorem mk_c {m : Int} {r : List Int} : minK (some (m :: r)) = some (.int (leastI m r)) := rfl
theorem xk_c {m : Int} {r : List Int} : maxK (some (m :: r)) = some (.int (mostI m r)) := rfl
/-- a for that looks for something -/
def Found (P : Env → Prop) (o : Option D) (r : SRes) : Prop := match o with
  | none => ∃ e', r = .nx e' ∧ P e'
  | some v => ∃ e', r = .rt v e'
/-- one turn of a for -/
def stepX (G : Pg) (call : Nat → List D → CRes) (io : List Bool) (fr : Bool) (p : List Nat) (m : Bool) (b : S) (d : D) (e : Env) : SRes := opt (patItems p m d) fun ds => opt (asgs io p ds e) fun e => ex G call io fr b e
theorem forX_step {p : List Nat} {m : Bool} {b : S} {d : D} {r : List D} : forX G call io fr p m b (d :: r) e = forY G call io fr p m b r (stepX G call io fr p m b d e) := by
  rw [fx_cons]
  unfold stepX
  cases patItems p m d with
  | none => rfl
  | some ds =>
    show (opt (asgs io p ds e) fun e => forY G call io fr p m b r (ex G call io fr b e)) = forY G call io fr p m b r (opt (asgs io p ds e) fun e => ex G call io fr b e)
    cases asgs io p ds e <;> rfl
theorem forX_find {p : List Nat} {m : Bool} {b : S} {P : Env → Prop} {g : D → Option D} : ∀ {items : List D}, (∀ d ∈ items, ∀ e, P e → Found P (g d) (stepX G call io fr p m b d e)) → ∀ e, P e → Found P (items.findSome? g) (forX G call io fr p m b items e)
  | [], _, e, he => ⟨e, rfl, he⟩
  | d :: r, h, e, he => by
    have h1 := h d List.mem_cons_self e he
    rw [forX_step, List.findSome?_cons]
    cases hg : g d with
    | none =>
      rw [hg] at h1
      obtain ⟨e', h2, h3⟩ := h1
      rw [h2]
      exact forX_find (fun d' hd => h d' (List.mem_cons_of_mem _ hd)) e' h3
    | some v =>
      rw [hg] at h1
      obtain ⟨e', h2⟩ := h1
      rw [h2]
      exact ⟨e', rfl⟩
/-- a for that carries a state -/
theorem forX_inv {p : List Nat} {m : Bool} {b : S} {P : List D → Env → Prop} : ∀ {items done : List D}, (∀ done d rest, done ++ d :: rest = done ++ d :: rest → d ∈ items → ∀ e, P done e → ∃ e', (stepX G call io fr p m b d e = .nx e' ∨ stepX G call io fr p m b d e = .ct e') ∧ P (done ++ [d]) e') → ∀ e, P done e → ∃ e', forX G call io fr p m b items e = .nx e' ∧ P (done ++ items) e'
  | [], done, _, e, he => ⟨e, rfl, by rw [List.append_nil]; exact he⟩
  | d :: r, done, h, e, he => by
    obtain ⟨e', h1, h2⟩ := h done d r rfl List.mem_cons_self e he
    obtain ⟨e2, h3, h4⟩ := forX_inv (items := r) (done := done ++ [d]) (fun dn d' rest _ hd => h dn d' rest rfl (List.mem_cons_of_mem _ hd)) e' h2
    refine ⟨e2, ?_, by rw [List.append_assoc] at h4; exact h4⟩
    rw [forX_step]
    rcases h1 with h1 | h1 <;> (rw [h1]; exact h3)
end
end MP

namespace L
open MP
open PySem (Str)
abbrev i_is_integer : Nat := 0
abbrev i_in_bounds : Nat := 1
abbrev i_is_vector : Nat := 2
abbrev i_check_vector : Nat := 3
abbrev i_is_bearing : Nat := 4
abbrev i_is_slope : Nat := 5
abbrev i_east_part : Nat := 6
abbrev i_north_part : Nat := 7
abbrev i_level_part : Nat := 8
abbrev i_rise_part : Nat := 9
abbrev i_unit_size : Nat := 10
abbrev i_is_tape : Nat := 11
abbrev i_is_compass : Nat := 12
abbrev i_is_clino : Nat := 13
abbrev i_is_reading : Nat := 14
abbrev i_check_reading : Nat := 15
abbrev i_tape_ends : Nat := 16
abbrev i_bearings_of : Nat := 17
abbrev i_slopes_of : Nat := 18
abbrev i_triple_vector : Nat := 19
abbrev i_scaled_interval : Nat := 20
abbrev i_reading_box : Nat := 21
abbrev i_box_of : Nat := 22
abbrev i_triple_of : Nat := 23
abbrev i__law_cells : Nat := 24
abbrev i__law_row : Nat := 25
abbrev i__law_same : Nat := 26
abbrev i__law_east : Nat := 27
abbrev i__law_vector : Nat := 28
abbrev i__law_hands : Nat := 29
abbrev i__law_triple : Nat := 30
abbrev i__law_drawn : Nat := 31
abbrev i__law_least : Nat := 32
abbrev i__law_near : Nat := 33
abbrev i__law_odd : Nat := 34
abbrev i__law_refusal : Nat := 35
abbrev i__law_there_and_back : Nat := 36
abbrev i_law : Nat := 37
abbrev c_CaveError : Nat := 0
abbrev c_BadNumber : Nat := 1
abbrev c_BadVector : Nat := 2
abbrev c_BadReading : Nat := 3
def b_is_integer : S :=
(.seq (.ret (.and (.bi .isi (.cons (.var 0) (.cons (.con (.ty "int")) .nil))) (.not (.bi .isi (.cons (.var 0) (.cons (.con (.ty "bool")) .nil))))))
.skip)
def n_is_integer : List Str := (["value"] : List String).map Str.ofString
def d_is_integer : Def := ⟨1, 1, [], false, b_is_integer⟩
def b_in_bounds : S :=
(.seq (.ret (.and (.call 0 (.cons (.var 0) .nil)) (.chain .le .le (.var 1) (.var 0) (.var 2))))
.skip)
def n_in_bounds : List Str := (["value", "low", "high"] : List String).map Str.ofString
def d_in_bounds : Def := ⟨3, 3, [], false, b_in_bounds⟩
def b_is_vector : S :=
(.seq (.ite (.or (.not (.tst (.bi .isi (.cons (.var 0) (.cons (.con (.ty "tuple")) .nil))))) (.tst (.cmp .ne (.bi .len (.cons (.var 0) .nil)) (.con (.int 3)))))
(.seq (.ret (.con (.bl false)))
.skip)
.skip)
(.seq (.ret (.bi .all (.cons (.comp [1] false (.itv (.var 0)) .nil (.call 0 (.cons (.var 1) .nil))) .nil)))
.skip))
def n_is_vector : List Str := (["value", "part"] : List String).map Str.ofString
def d_is_vector : Def := ⟨1, 2, [], false, b_is_vector⟩
def b_check_vector : S :=
(.seq (.ite (.not (.tst (.call 2 (.cons (.var 0) .nil))))
(.seq (.raise 2 .nil)
.skip)
.skip)
.skip)
def n_check_vector : List Str := (["value"] : List String).map Str.ofString
def d_check_vector : Def := ⟨1, 1, [], false, b_check_vector⟩
def b_is_bearing : S :=
(.seq (.ret (.call 1 (.cons (.var 0) (.cons (.con (.int 0)) (.cons (.bin .sub (.glb 0) (.con (.int 1))) .nil)))))
.skip)
def n_is_bearing : List Str := (["value"] : List String).map Str.ofString
def d_is_bearing : Def := ⟨1, 1, [], false, b_is_bearing⟩
def b_is_slope : S :=
(.seq (.ret (.call 1 (.cons (.var 0) (.cons (.neg (.glb 2)) (.cons (.glb 2) .nil)))))
.skip)
def n_is_slope : List Str := (["value"] : List String).map Str.ofString
def d_is_slope : Def := ⟨1, 1, [], false, b_is_slope⟩
def b_east_part : S :=
(.seq (.ret (.idx (.glb 3) (.var 0)))
.skip)
def n_east_part : List Str := (["bearing"] : List String).map Str.ofString
def d_east_part : Def := ⟨1, 1, [], false, b_east_part⟩
def b_north_part : S :=
(.seq (.ret (.idx (.glb 3) (.bin .mod (.bin .add (.var 0) (.con (.int 9))) (.glb 0))))
.skip)
def n_north_part : List Str := (["bearing"] : List String).map Str.ofString
def d_north_part : Def := ⟨1, 1, [], false, b_north_part⟩
def b_level_part : S :=
(.seq (.ret (.idx (.glb 3) (.bin .sub (.glb 2) (.bi .abs (.cons (.var 0) .nil)))))
.skip)
def n_level_part : List Str := (["slope"] : List String).map Str.ofString
def d_level_part : Def := ⟨1, 1, [], false, b_level_part⟩
def b_rise_part : S :=
(.seq (.ite (.tst (.cmp .lt (.var 0) (.con (.int 0))))
(.seq (.ret (.neg (.idx (.glb 3) (.neg (.var 0)))))
.skip)
.skip)
(.seq (.ret (.idx (.glb 3) (.var 0)))
.skip))
def n_rise_part : List Str := (["slope"] : List String).map Str.ofString
def d_rise_part : Def := ⟨1, 1, [], false, b_rise_part⟩
def b_unit_size : S :=
(.seq (.ite (.not (.tst (.bi .isi (.cons (.var 0) (.cons (.con (.ty "str")) .nil)))))
(.seq (.ret (.con .non))
.skip)
.skip)
(.seq (.for_ [1, 2] true (.itv (.glb 4))
(.seq (.ite (.tst (.cmp .eq (.var 0) (.var 1)))
(.seq (.ret (.var 2))
.skip)
.skip)
.skip))
(.seq (.ret (.con .non))
.skip)))
def n_unit_size : List Str := (["unit", "word", "size"] : List String).map Str.ofString
def d_unit_size : Def := ⟨1, 3, [], false, b_unit_size⟩
def b_is_tape : S :=
(.seq (.ite (.or (.not (.tst (.bi .isi (.cons (.var 0) (.cons (.con (.ty "tuple")) .nil))))) (.tst (.cmp .ne (.bi .len (.cons (.var 0) .nil)) (.con (.int 3)))))
(.seq (.ret (.con (.bl false)))
.skip)
.skip)
(.seq (.unpack [1, 2, 3] (.var 0))
(.seq (.ite (.or (.not (.tst (.call 1 (.cons (.var 1) (.cons (.con (.int 0)) (.cons (.glb 5) .nil)))))) (.tst (.cmp .is (.call 10 (.cons (.var 2) .nil)) (.con .non))))
(.seq (.ret (.con (.bl false)))
.skip)
.skip)
(.seq (.ret (.call 1 (.cons (.var 3) (.cons (.con (.int 0)) (.cons (.glb 6) .nil)))))
.skip))))
def n_is_tape : List Str := (["value", "length", "unit", "slack"] : List String).map Str.ofString
def d_is_tape : Def := ⟨1, 4, [], false, b_is_tape⟩
def b_is_compass : S :=
(.seq (.ite (.or (.not (.tst (.bi .isi (.cons (.var 0) (.cons (.con (.ty "tuple")) .nil))))) (.tst (.cmp .ne (.bi .len (.cons (.var 0) .nil)) (.con (.int 2)))))
(.seq (.ret (.con (.bl false)))
.skip)
.skip)
(.seq (.ret (.and (.call 4 (.cons (.idx (.var 0) (.con (.int 0))) .nil)) (.call 1 (.cons (.idx (.var 0) (.con (.int 1))) (.cons (.con (.int 0)) (.cons (.glb 7) .nil))))))
.skip))
def n_is_compass : List Str := (["value"] : List String).map Str.ofString
def d_is_compass : Def := ⟨1, 1, [], false, b_is_compass⟩
def b_is_clino : S :=
(.seq (.ite (.or (.not (.tst (.bi .isi (.cons (.var 0) (.cons (.con (.ty "tuple")) .nil))))) (.tst (.cmp .ne (.bi .len (.cons (.var 0) .nil)) (.con (.int 2)))))
(.seq (.ret (.con (.bl false)))
.skip)
.skip)
(.seq (.ret (.and (.call 5 (.cons (.idx (.var 0) (.con (.int 0))) .nil)) (.call 1 (.cons (.idx (.var 0) (.con (.int 1))) (.cons (.con (.int 0)) (.cons (.glb 8) .nil))))))
.skip))
def n_is_clino : List Str := (["value"] : List String).map Str.ofString
def d_is_clino : Def := ⟨1, 1, [], false, b_is_clino⟩
def b_is_reading : S :=
(.seq (.ite (.or (.not (.tst (.bi .isi (.cons (.var 0) (.cons (.con (.ty "tuple")) .nil))))) (.tst (.cmp .ne (.bi .len (.cons (.var 0) .nil)) (.con (.int 3)))))
(.seq (.ret (.con (.bl false)))
.skip)
.skip)
(.seq (.ret (.and (.call 11 (.cons (.idx (.var 0) (.con (.int 0))) .nil)) (.and (.call 12 (.cons (.idx (.var 0) (.con (.int 1))) .nil)) (.call 13 (.cons (.idx (.var 0) (.con (.int 2))) .nil)))))
.skip))
def n_is_reading : List Str := (["value"] : List String).map Str.ofString
def d_is_reading : Def := ⟨1, 1, [], false, b_is_reading⟩
def b_check_reading : S :=
(.seq (.ite (.not (.tst (.call 14 (.cons (.var 0) .nil))))
(.seq (.raise 3 .nil)
.skip)
.skip)
.skip)
def n_check_reading : List Str := (["value"] : List String).map Str.ofString
def d_check_reading : Def := ⟨1, 1, [], false, b_check_reading⟩
def b_tape_ends : S :=
(.seq (.unpack [2, 3, 4] (.idx (.var 0) (.con (.int 0))))
(.seq (.set 1 (.call 10 (.cons (.var 3) .nil)))
(.seq (.ret (.tup (.cons (.bin .mul (.bi .max2 (.cons (.con (.int 0)) (.cons (.bin .sub (.var 2) (.var 4)) .nil))) (.var 1)) (.cons (.bin .mul (.bin .add (.var 2) (.var 4)) (.var 1)) .nil))))
.skip)))
def n_tape_ends : List Str := (["reading", "size", "length", "unit", "slack"] : List String).map Str.ofString
def d_tape_ends : Def := ⟨1, 5, [], false, b_tape_ends⟩
def b_bearings_of : S :=
(.seq (.unpack [1, 2] (.idx (.var 0) (.con (.int 1))))
(.seq (.ret (.comp [3] false (.bi .range2 (.cons (.neg (.var 2)) (.cons (.bin .add (.var 2) (.con (.int 1))) .nil))) .nil (.bin .mod (.bin .add (.var 1) (.var 3)) (.glb 0))))
.skip))
def n_bearings_of : List Str := (["reading", "bearing", "swing", "k"] : List String).map Str.ofString
def d_bearings_of : Def := ⟨1, 4, [], false, b_bearings_of⟩
def b_slopes_of : S :=
(.seq (.unpack [1, 2] (.idx (.var 0) (.con (.int 2))))
(.seq (.ret (.bi .lrange2 (.cons (.bi .max2 (.cons (.neg (.glb 2)) (.cons (.bin .sub (.var 1) (.var 2)) .nil))) (.cons (.bin .add (.bi .min2 (.cons (.glb 2) (.cons (.bin .add (.var 1) (.var 2)) .nil))) (.con (.int 1))) .nil))))
.skip))
def n_slopes_of : List Str := (["reading", "slope", "tilt"] : List String).map Str.ofString
def d_slopes_of : Def := ⟨1, 3, [], false, b_slopes_of⟩
def b_triple_vector : S :=
(.seq (.set 3 (.bin .mul (.var 0) (.call 8 (.cons (.var 2) .nil))))
(.seq (.set 4 (.bin .mul (.bin .mul (.var 0) (.glb 1)) (.call 9 (.cons (.var 2) .nil))))
(.seq (.ret (.tup (.cons (.bin .mul (.var 3) (.call 6 (.cons (.var 1) .nil))) (.cons (.bin .mul (.var 3) (.call 7 (.cons (.var 1) .nil))) (.cons (.var 4) .nil)))))
.skip)))
def n_triple_vector : List Str := (["hands", "bearing", "slope", "level", "rise"] : List String).map Str.ofString
def d_triple_vector : Def := ⟨3, 5, [], false, b_triple_vector⟩
def b_scaled_interval : S :=
(.seq (.set 3 (.bi .min1 (.cons (.var 2) .nil)))
(.seq (.set 4 (.bi .max1 (.cons (.var 2) .nil)))
(.seq (.ite (.tst (.cmp .lt (.var 3) (.con (.int 0))))
(.seq (.set 5 (.bin .mul (.var 1) (.var 3)))
.skip)
(.seq (.set 5 (.bin .mul (.var 0) (.var 3)))
.skip))
(.seq (.ite (.tst (.cmp .lt (.var 4) (.con (.int 0))))
(.seq (.set 6 (.bin .mul (.var 0) (.var 4)))
.skip)
(.seq (.set 6 (.bin .mul (.var 1) (.var 4)))
.skip))
(.seq (.ret (.tup (.cons (.var 5) (.cons (.var 6) .nil))))
.skip)))))
def n_scaled_interval : List Str := (["least", "most", "parts", "low", "high", "bottom", "top"] : List String).map Str.ofString
def d_scaled_interval : Def := ⟨3, 7, [], false, b_scaled_interval⟩
def b_reading_box : S :=
(.seq (.unpack [6, 7] (.call 16 (.cons (.var 0) .nil)))
(.seq (.set 1 (.call 17 (.cons (.var 0) .nil)))
(.seq (.set 2 (.call 18 (.cons (.var 0) .nil)))
(.seq (.set 3 (.comp [8] false (.itv (.var 2)) .nil (.call 8 (.cons (.var 8) .nil))))
(.seq (.set 4 (.bin .mul (.var 6) (.bi .min1 (.cons (.var 3) .nil))))
(.seq (.set 5 (.bin .mul (.var 7) (.bi .max1 (.cons (.var 3) .nil))))
(.seq (.ret (.tup (.cons (.call 20 (.cons (.var 4) (.cons (.var 5) (.cons (.comp [9] false (.itv (.var 1)) .nil (.call 6 (.cons (.var 9) .nil))) .nil)))) (.cons (.call 20 (.cons (.var 4) (.cons (.var 5) (.cons (.comp [9] false (.itv (.var 1)) .nil (.call 7 (.cons (.var 9) .nil))) .nil)))) (.cons (.call 20 (.cons (.bin .mul (.var 6) (.glb 1)) (.cons (.bin .mul (.var 7) (.glb 1)) (.cons (.comp [8] false (.itv (.var 2)) .nil (.call 9 (.cons (.var 8) .nil))) .nil)))) .nil)))))
.skip)))))))
def n_reading_box : List Str := (["reading", "bearings", "slopes", "levels", "flattest", "furthest", "least", "most", "slope", "bearing"] : List String).map Str.ofString
def d_reading_box : Def := ⟨1, 10, [], false, b_reading_box⟩
def b_box_of : S :=
(.seq (.expr (.call 15 (.cons (.var 0) .nil)))
(.seq (.ret (.call 21 (.cons (.var 0) .nil)))
.skip))
def n_box_of : List Str := (["reading"] : List String).map Str.ofString
def d_box_of : Def := ⟨1, 1, [], false, b_box_of⟩
def b_triple_of : S :=
(.seq (.expr (.call 3 (.cons (.var 0) .nil)))
(.seq (.set 1 (.bi .sum (.cons (.comp [6] false (.itv (.var 0)) .nil (.bin .mul (.var 6) (.var 6))) .nil)))
(.seq (.set 2 (.bi .isqrt (.cons (.var 1) .nil)))
(.seq (.ite (.or (.tst (.cmp .ne (.bin .mul (.var 2) (.var 2)) (.var 1))) (.tst (.cmp .ne (.bin .mod (.var 2) (.glb 9)) (.con (.int 0)))))
(.seq (.ret (.con .non))
.skip)
.skip)
(.seq (.set 3 (.bin .fdiv (.var 2) (.glb 9)))
(.seq (.ite (.tst (.cmp .eq (.var 3) (.con (.int 0))))
(.seq (.ret (.tup (.cons (.con (.int 0)) (.cons (.con (.int 0)) (.cons (.con (.int 0)) .nil)))))
.skip)
.skip)
(.seq (.for_ [4] false (.bi .range1 (.cons (.glb 0) .nil))
(.seq (.for_ [5] false (.bi .range2 (.cons (.neg (.glb 2)) (.cons (.bin .add (.glb 2) (.con (.int 1))) .nil)))
(.seq (.ite (.tst (.cmp .eq (.call 19 (.cons (.var 3) (.cons (.var 4) (.cons (.var 5) .nil)))) (.var 0)))
(.seq (.ret (.tup (.cons (.var 3) (.cons (.var 4) (.cons (.var 5) .nil)))))
.skip)
.skip)
.skip))
.skip))
(.seq (.ret (.con .non))
.skip))))))))
def n_triple_of : List Str := (["vector", "square", "root", "hands", "bearing", "slope", "part"] : List String).map Str.ofString
def d_triple_of : Def := ⟨1, 7, [], false, b_triple_of⟩
def b__law_cells : S :=
(.seq (.set 2 (.con (.int 1009)))
(.seq (.for_ [3] false (.bi .range1 (.cons (.bi .min2 (.cons (.bi .len (.cons (.var 0) .nil)) (.cons (.con (.int 63)) .nil))) .nil))
(.seq (.set 2 (.bin .mod (.bi .int (.cons (.bin .add (.bin .add (.bin .mul (.var 2) (.con (.int 69621))) (.bi .int (.cons (.idx (.var 0) (.var 3)) .nil))) (.bin .mul (.con (.int 3)) (.var 3))) .nil)) (.con (.int 2147483647))))
.skip))
(.seq (.setO 4 (.lst .nil))
(.seq (.for_ [3] false (.bi .range1 (.cons (.bi .min2 (.cons (.bi .len (.cons (.var 0) .nil)) (.cons (.con (.int 63)) .nil))) .nil))
(.seq (.set 6 (.bi .int (.cons (.idx (.var 0) (.var 3)) .nil)))
(.seq (.ite (.tst (.cmp .lt (.var 6) (.bin .pow (.con (.int 10)) (.con (.int 18)))))
(.seq (.set 6 (.bin .mod (.bi .int (.cons (.bin .add (.bin .mul (.var 6) (.con (.int 48271))) (.bin .mul (.var 2) (.bin .add (.var 3) (.con (.int 1))))) .nil)) (.con (.int 2147483647))))
.skip)
.skip)
(.seq (.app 4 (.var 6))
.skip))))
(.seq (.set 5 (.bin .sub (.var 1) (.bi .len (.cons (.var 4) .nil))))
(.seq (.for_ [3] false (.bi .range1 (.cons (.var 5) .nil))
(.seq (.set 2 (.bin .mod (.bi .int (.cons (.bin .add (.bin .mul (.var 2) (.con (.int 48271))) (.con (.int 11))) .nil)) (.con (.int 2147483647))))
(.seq (.app 4 (.var 2))
.skip)))
(.seq (.ret (.var 4))
.skip)))))))
def n__law_cells : List Str := (["script", "many", "seed", "k", "cells", "missing", "cell"] : List String).map Str.ofString
def d__law_cells : Def := ⟨2, 7, [], false, b__law_cells⟩
def b__law_row : S :=
(.seq (.setO 3 (.lst .nil))
(.seq (.set 4 (.bi .int (.cons (.var 0) .nil)))
(.seq (.ite (.tst (.cmp .ge (.var 4) (.bin .pow (.con (.int 10)) (.con (.int 18)))))
(.seq (.set 4 (.bin .sub (.var 4) (.bin .pow (.con (.int 10)) (.con (.int 18)))))
(.seq (.for_ [5] false (.itv (.var 2))
(.seq (.app 3 (.bin .mod (.bi .int (.cons (.var 4) .nil)) (.var 5)))
(.seq (.set 4 (.bin .fdiv (.var 4) (.var 5)))
.skip)))
(.seq (.ret (.var 3))
.skip)))
.skip)
(.seq (.set 4 (.bin .mod (.bi .int (.cons (.bin .add (.bin .add (.bin .mul (.var 4) (.con (.int 69621))) (.bin .mul (.con (.int 7919)) (.var 1))) (.con (.int 101))) .nil)) (.con (.int 2147483647))))
(.seq (.set 4 (.bin .mod (.bi .int (.cons (.bin .add (.bin .add (.bin .mul (.var 4) (.con (.int 48271))) (.bin .fdiv (.var 4) (.con (.int 127)))) (.con (.int 7))) .nil)) (.con (.int 2147483647))))
(.seq (.for_ [5] false (.itv (.var 2))
(.seq (.set 4 (.bin .mod (.bi .int (.cons (.bin .add (.bin .add (.bin .mul (.var 4) (.con (.int 48271))) (.bin .fdiv (.var 4) (.con (.int 127)))) (.con (.int 7))) .nil)) (.con (.int 2147483647))))
(.seq (.set 6 (.bin .fdiv (.var 4) (.con (.int 8))))
(.seq (.ite (.tst (.cmp .gt (.var 5) (.bin .pow (.con (.int 10)) (.con (.int 6)))))
(.seq (.set 6 (.bin .mul (.bin .mul (.var 6) (.var 4)) (.var 4)))
.skip)
.skip)
(.seq (.app 3 (.bin .mod (.bi .int (.cons (.var 6) .nil)) (.var 5)))
.skip)))))
(.seq (.ret (.var 3))
.skip)))))))
def n__law_row : List Str := (["cell", "place", "limits", "row", "rest", "limit", "value"] : List String).map Str.ofString
def d__law_row : Def := ⟨3, 7, [], false, b__law_row⟩
def b__law_same : S :=
(.seq (.ite (.tst (.cmp .is (.var 1) (.con .non)))
(.seq (.ret (.cmp .is (.var 0) (.con .non)))
.skip)
.skip)
(.seq (.ite (.tst (.cmp .is (.var 1) (.con (.bl true))))
(.seq (.ret (.cmp .is (.var 0) (.con (.bl true))))
.skip)
.skip)
(.seq (.ite (.tst (.cmp .is (.var 1) (.con (.bl false))))
(.seq (.ret (.cmp .is (.var 0) (.con (.bl false))))
.skip)
.skip)
(.seq (.ite (.tst (.bi .isi (.cons (.var 1) (.cons (.con (.ty "int")) .nil))))
(.seq (.ret (.and (.bi .isi (.cons (.var 0) (.cons (.con (.ty "int")) .nil))) (.and (.not (.bi .isi (.cons (.var 0) (.cons (.con (.ty "bool")) .nil)))) (.cmp .eq (.var 0) (.var 1)))))
.skip)
.skip)
(.seq (.ite (.tst (.bi .isi (.cons (.var 1) (.cons (.con (.ty "str")) .nil))))
(.seq (.ret (.and (.bi .isi (.cons (.var 0) (.cons (.con (.ty "str")) .nil))) (.cmp .eq (.var 0) (.var 1))))
.skip)
.skip)
(.seq (.ite (.tst (.bi .isi (.cons (.var 1) (.cons (.con (.ty "dict")) .nil))))
(.seq (.ite (.or (.not (.tst (.bi .isi (.cons (.var 0) (.cons (.con (.ty "dict")) .nil))))) (.tst (.cmp .ne (.bi .list (.cons (.var 0) .nil)) (.bi .list (.cons (.var 1) .nil)))))
(.seq (.ret (.con (.bl false)))
.skip)
.skip)
(.seq (.ret (.cmp .eq (.bi .len (.cons (.comp [3] false (.itv (.var 1)) (.not (.tst (.call 26 (.cons (.idx (.var 0) (.var 3)) (.cons (.idx (.var 1) (.var 3)) .nil))))) (.var 3)) .nil)) (.con (.int 0))))
.skip))
.skip)
(.seq (.ite (.tst (.bi .isi (.cons (.var 1) (.cons (.con (.ty "tuple")) .nil))))
(.seq (.ite (.not (.tst (.bi .isi (.cons (.var 0) (.cons (.con (.ty "tuple")) .nil)))))
(.seq (.ret (.con (.bl false)))
.skip)
.skip)
.skip)
(.seq (.ite (.not (.tst (.bi .isi (.cons (.var 0) (.cons (.con (.ty "list")) .nil)))))
(.seq (.ret (.con (.bl false)))
.skip)
.skip)
.skip))
(.seq (.ite (.tst (.cmp .ne (.bi .len (.cons (.var 0) .nil)) (.bi .len (.cons (.var 1) .nil))))
(.seq (.ret (.con (.bl false)))
.skip)
.skip)
(.seq (.ret (.cmp .eq (.bi .len (.cons (.comp [2] false (.bi .range1 (.cons (.bi .len (.cons (.var 1) .nil)) .nil)) (.not (.tst (.call 26 (.cons (.idx (.var 0) (.var 2)) (.cons (.idx (.var 1) (.var 2)) .nil))))) (.var 2)) .nil)) (.con (.int 0))))
.skip)))))))))
def n__law_same : List Str := (["told", "due", "k", "name"] : List String).map Str.ofString
def d__law_same : Def := ⟨2, 4, [], false, b__law_same⟩
def b__law_east : S :=
(.seq (.set 1 (.lst (.cons (.con (.int 0)) (.cons (.con (.int 16)) (.cons (.con (.int 25)) (.cons (.con (.int 33)) (.cons (.con (.int 39)) (.cons (.con (.int 52)) (.cons (.con (.int 56)) (.cons (.con (.int 60)) (.cons (.con (.int 63)) (.cons (.con (.int 65)) .nil))))))))))))
(.seq (.set 2 (.bin .mod (.bi .int (.cons (.var 0) .nil)) (.con (.int 36))))
(.seq (.ite (.tst (.cmp .le (.var 2) (.con (.int 9))))
(.seq (.ret (.idx (.var 1) (.var 2)))
.skip)
.skip)
(.seq (.ite (.tst (.cmp .le (.var 2) (.con (.int 18))))
(.seq (.ret (.idx (.var 1) (.bin .sub (.con (.int 18)) (.var 2))))
.skip)
.skip)
(.seq (.ite (.tst (.cmp .le (.var 2) (.con (.int 27))))
(.seq (.ret (.neg (.idx (.var 1) (.bin .sub (.var 2) (.con (.int 18))))))
.skip)
.skip)
(.seq (.ret (.neg (.idx (.var 1) (.bin .sub (.con (.int 36)) (.var 2)))))
.skip))))))
def n__law_east : List Str := (["bearing", "quarter", "turn"] : List String).map Str.ofString
def d__law_east : Def := ⟨1, 3, [], false, b__law_east⟩
def b__law_vector : S :=
(.seq (.set 3 (.bin .mul (.var 0) (.call 27 (.cons (.bin .sub (.con (.int 9)) (.bi .abs (.cons (.var 2) .nil))) .nil))))
(.seq (.ret (.tup (.cons (.bin .mul (.var 3) (.call 27 (.cons (.var 1) .nil))) (.cons (.bin .mul (.var 3) (.call 27 (.cons (.bin .add (.var 1) (.con (.int 9))) .nil))) (.cons (.bin .mul (.bin .mul (.var 0) (.con (.int 65))) (.call 27 (.cons (.var 2) .nil))) .nil)))))
.skip))
def n__law_vector : List Str := (["hands", "bearing", "slope", "level"] : List String).map Str.ofString
def d__law_vector : Def := ⟨3, 4, [], false, b__law_vector⟩
def b__law_hands : S :=
(.seq (.set 3 (.call 28 (.cons (.con (.int 1)) (.cons (.var 1) (.cons (.var 2) .nil)))))
(.seq (.for_ [4] false (.bi .range1 (.cons (.con (.int 3)) .nil))
(.seq (.ite (.tst (.cmp .ne (.idx (.var 3) (.var 4)) (.con (.int 0))))
(.seq (.set 5 (.bin .fdiv (.idx (.var 0) (.var 4)) (.idx (.var 3) (.var 4))))
(.seq (.ite (.and (.tst (.cmp .gt (.var 5) (.con (.int 0)))) (.tst (.cmp .eq (.tup (.cons (.bin .mul (.var 5) (.idx (.var 3) (.con (.int 0)))) (.cons (.bin .mul (.var 5) (.idx (.var 3) (.con (.int 1)))) (.cons (.bin .mul (.var 5) (.idx (.var 3) (.con (.int 2)))) .nil)))) (.var 0))))
(.seq (.ret (.var 5))
.skip)
.skip)
(.seq (.ret (.con (.int 0)))
.skip)))
.skip)
.skip))
(.seq (.ret (.con (.int 0)))
.skip)))
def n__law_hands : List Str := (["vector", "bearing", "slope", "unit", "axis", "hands"] : List String).map Str.ofString
def d__law_hands : Def := ⟨3, 6, [], false, b__law_hands⟩
def b__law_triple : S :=
(.seq (.ite (.tst (.cmp .eq (.var 0) (.tup (.cons (.con (.int 0)) (.cons (.con (.int 0)) (.cons (.con (.int 0)) .nil))))))
(.seq (.ret (.tup (.cons (.con (.int 0)) (.cons (.con (.int 0)) (.cons (.con (.int 0)) .nil)))))
.skip)
.skip)
(.seq (.for_ [1] false (.bi .range1 (.cons (.con (.int 36)) .nil))
(.seq (.for_ [2] false (.bi .range2 (.cons (.neg (.con (.int 9))) (.cons (.con (.int 10)) .nil)))
(.seq (.set 3 (.call 29 (.cons (.var 0) (.cons (.var 1) (.cons (.var 2) .nil)))))
(.seq (.ite (.tst (.cmp .gt (.var 3) (.con (.int 0))))
(.seq (.ret (.tup (.cons (.var 3) (.cons (.var 1) (.cons (.var 2) .nil)))))
.skip)
.skip)
.skip)))
.skip))
(.seq (.ret (.con .non))
.skip)))
def n__law_triple : List Str := (["vector", "bearing", "slope", "hands"] : List String).map Str.ofString
def d__law_triple : Def := ⟨1, 4, [], false, b__law_triple⟩
def b__law_drawn : S :=
(.seq (.set 1 (.idx (.lst (.cons (.con (.int 0)) (.cons (.con (.int 1)) (.cons (.idx (.var 0) (.con (.int 1))) (.cons (.idx (.var 0) (.con (.int 2))) .nil))))) (.idx (.var 0) (.con (.int 0)))))
(.seq (.set 2 (.idx (.lst (.cons (.bin .sub (.idx (.var 0) (.con (.int 5))) (.con (.int 9))) (.cons (.bin .sub (.idx (.var 0) (.con (.int 5))) (.con (.int 9))) (.cons (.con (.int 0)) (.cons (.con (.int 9)) (.cons (.neg (.con (.int 9))) .nil)))))) (.idx (.var 0) (.con (.int 4)))))
(.seq (.ret (.tup (.cons (.var 1) (.cons (.idx (.var 0) (.con (.int 3))) (.cons (.var 2) .nil)))))
.skip)))
def n__law_drawn : List Str := (["row", "hands", "slope"] : List String).map Str.ofString
def d__law_drawn : Def := ⟨1, 3, [], false, b__law_drawn⟩
def b__law_least : S :=
(.seq (.ite (.tst (.cmp .eq (.var 0) (.con (.int 0))))
(.seq (.ret (.tup (.cons (.con (.int 0)) (.cons (.con (.int 0)) (.cons (.con (.int 0)) .nil)))))
.skip)
.skip)
(.seq (.ite (.tst (.cmp .eq (.bi .abs (.cons (.var 2) .nil)) (.con (.int 9))))
(.seq (.ret (.tup (.cons (.var 0) (.cons (.con (.int 0)) (.cons (.var 2) .nil)))))
.skip)
.skip)
(.seq (.ret (.tup (.cons (.var 0) (.cons (.bin .mod (.bi .int (.cons (.var 1) .nil)) (.con (.int 36))) (.cons (.var 2) .nil)))))
.skip)))
def n__law_least : List Str := (["hands", "bearing", "slope"] : List String).map Str.ofString
def d__law_least : Def := ⟨3, 3, [], false, b__law_least⟩
def b__law_near : S :=
(.seq (.set 2 (.call 28 (.cons (.idx (.var 0) (.con (.int 0))) (.cons (.idx (.var 0) (.con (.int 1))) (.cons (.idx (.var 0) (.con (.int 2))) .nil)))))
(.seq (.setO 3 (.bi .list (.cons (.var 2) .nil)))
(.seq (.set 4 (.idx (.var 1) (.con (.int 1))))
(.seq (.ite (.tst (.cmp .eq (.idx (.var 1) (.con (.int 0))) (.con (.int 0))))
(.seq (.put 3 (.var 4) (.bin .add (.idx (.var 3) (.var 4)) (.idx (.lst (.cons (.con (.int 1)) (.cons (.neg (.con (.int 1))) (.cons (.con (.int 65)) (.cons (.neg (.con (.int 65))) (.cons (.con (.int 4225)) (.cons (.neg (.con (.int 4225))) (.cons (.bin .sub (.idx (.var 1) (.con (.int 3))) (.con (.int 40))) .nil)))))))) (.idx (.var 1) (.con (.int 2))))))
(.seq (.ret (.bi .tuple (.cons (.var 3) .nil)))
.skip))
.skip)
(.seq (.ite (.tst (.cmp .eq (.idx (.var 1) (.con (.int 0))) (.con (.int 1))))
(.seq (.ret (.tup (.cons (.idx (.var 2) (.con (.int 1))) (.cons (.idx (.var 2) (.con (.int 0))) (.cons (.idx (.var 2) (.con (.int 2))) .nil)))))
.skip)
.skip)
(.seq (.ite (.tst (.cmp .eq (.idx (.var 1) (.con (.int 0))) (.con (.int 2))))
(.seq (.ret (.tup (.cons (.idx (.var 2) (.con (.int 2))) (.cons (.idx (.var 2) (.con (.int 1))) (.cons (.idx (.var 2) (.con (.int 0))) .nil)))))
.skip)
.skip)
(.seq (.ite (.tst (.cmp .eq (.idx (.var 1) (.con (.int 0))) (.con (.int 3))))
(.seq (.set 5 (.bin .sub (.bin .mul (.call 27 (.cons (.idx (.var 0) (.con (.int 1))) .nil)) (.call 27 (.cons (.idx (.var 1) (.con (.int 4))) .nil))) (.bin .mul (.call 27 (.cons (.bin .add (.idx (.var 0) (.con (.int 1))) (.con (.int 9))) .nil)) (.call 27 (.cons (.bin .add (.idx (.var 1) (.con (.int 4))) (.con (.int 9))) .nil)))))
(.seq (.set 6 (.bin .add (.bin .mul (.call 27 (.cons (.idx (.var 0) (.con (.int 1))) .nil)) (.call 27 (.cons (.bin .add (.idx (.var 1) (.con (.int 4))) (.con (.int 9))) .nil))) (.bin .mul (.call 27 (.cons (.bin .add (.idx (.var 0) (.con (.int 1))) (.con (.int 9))) .nil)) (.call 27 (.cons (.idx (.var 1) (.con (.int 4))) .nil)))))
(.seq (.ret (.tup (.cons (.bin .mul (.idx (.var 0) (.con (.int 0))) (.var 5)) (.cons (.bin .mul (.idx (.var 0) (.con (.int 0))) (.var 6)) (.cons (.con (.int 0)) .nil)))))
.skip)))
.skip)
(.seq (.ite (.tst (.cmp .le (.idx (.var 1) (.con (.int 0))) (.con (.int 5))))
(.seq (.frz 3)
(.seq (.ret (.bi .tuple (.cons (.comp [7] false (.itv (.var 3)) .nil (.bin .fdiv (.var 7) (.idx (.lst (.cons (.con (.int 2)) (.cons (.con (.int 5)) (.cons (.con (.int 13)) (.cons (.con (.int 65)) (.cons (.con (.int 65)) (.cons (.con (.int 4225)) (.cons (.con (.int 7)) .nil)))))))) (.idx (.var 1) (.con (.int 2)))))) .nil)))
.skip))
.skip)
(.seq (.ite (.tst (.cmp .eq (.idx (.var 1) (.con (.int 0))) (.con (.int 6))))
(.seq (.put 3 (.var 4) (.neg (.idx (.var 3) (.var 4))))
(.seq (.ret (.bi .tuple (.cons (.var 3) .nil)))
.skip))
.skip)
(.seq (.ite (.tst (.cmp .eq (.idx (.var 1) (.con (.int 0))) (.con (.int 7))))
(.seq (.put 3 (.var 4) (.con (.int 0)))
(.seq (.ret (.bi .tuple (.cons (.var 3) .nil)))
.skip))
.skip)
(.seq (.ite (.tst (.cmp .eq (.idx (.var 1) (.con (.int 0))) (.con (.int 8))))
(.seq (.frz 3)
(.seq (.ret (.bi .tuple (.cons (.comp [7] false (.itv (.var 3)) .nil (.bin .mul (.var 7) (.bin .add (.con (.int 1)) (.idx (.var 1) (.con (.int 2)))))) .nil)))
.skip))
.skip)
(.seq (.ret (.tup (.cons (.bin .mul (.con (.int 4225)) (.bin .sub (.idx (.var 1) (.con (.int 5))) (.con (.int 3)))) (.cons (.bin .mul (.con (.int 4225)) (.bin .sub (.idx (.var 1) (.con (.int 6))) (.con (.int 3)))) (.cons (.bin .mul (.con (.int 4225)) (.bin .sub (.idx (.var 1) (.con (.int 7))) (.con (.int 3)))) .nil)))))
.skip))))))))))))
def n__law_near : List Str := (["triple", "row", "vector", "parts", "axis", "east", "north", "part"] : List String).map Str.ofString
def d__law_near : Def := ⟨2, 8, [], false, b__law_near⟩
def b__law_odd : S :=
(.seq (.set 2 (.lst (.cons (.bi .list (.cons (.var 0) .nil)) (.cons (.slc (.var 0) .nil (.prt (.con (.int 2)))) (.cons (.bin .add (.var 0) (.tup (.cons (.con (.int 0)) .nil))) (.cons (.tup (.cons (.con (.bl true)) (.cons (.idx (.var 0) (.con (.int 1))) (.cons (.idx (.var 0) (.con (.int 2))) .nil)))) (.cons (.tup (.cons (.idx (.var 0) (.con (.int 0))) (.cons (.con .non) (.cons (.idx (.var 0) (.con (.int 2))) .nil)))) .nil)))))))
(.seq (.set 2 (.bin .add (.var 2) (.lst (.cons (.tup (.cons (.idx (.var 0) (.con (.int 0))) (.cons (.idx (.var 0) (.con (.int 1))) (.cons (.con (.str "0")) .nil)))) (.cons (.tup (.cons (.idx (.var 0) (.con (.int 0))) (.cons (.idx (.var 0) (.con (.int 1))) (.cons (.tup (.cons (.idx (.var 0) (.con (.int 2))) .nil)) .nil)))) (.cons (.tup (.cons (.idx (.var 0) (.con (.int 0))) (.cons (.idx (.var 0) (.con (.int 1))) (.cons (.con (.bl false)) .nil)))) .nil))))))
(.seq (.set 2 (.bin .add (.var 2) (.lst (.cons (.con .non) (.cons (.con (.str "vector")) (.cons (.con (.int 4225)) (.cons (.dct .nil) (.cons (.tup .nil) (.cons (.lst .nil) (.cons (.tup (.cons (.var 0) .nil)) (.cons (.con (.bl true)) .nil)))))))))))
(.seq (.ret (.idx (.var 2) (.var 1)))
.skip))))
def n__law_odd : List Str := (["vector", "kind", "menu"] : List String).map Str.ofString
def d__law_odd : Def := ⟨2, 3, [], false, b__law_odd⟩
def b__law_refusal : S :=
(.seq (.try_ (.seq (.expr (.call 23 (.cons (.var 0) .nil)))
.skip) 0 (some 1)
(.seq (.ret (.tup (.cons (.con (.str "refused")) (.cons (.eisi 1 (some 2)) (.cons (.eisi 1 (some 1)) (.cons (.eisi 1 none) .nil))))))
.skip))
(.seq (.ret (.con .non))
.skip))
def n__law_refusal : List Str := (["vector", "e"] : List String).map Str.ofString
def d__law_refusal : Def := ⟨1, 2, [], false, b__law_refusal⟩
def b__law_there_and_back : S :=
(.seq (.set 1 (.idx (.var 0) (.con (.int 0))))
(.seq (.set 2 (.idx (.var 0) (.con (.int 1))))
(.seq (.set 3 (.idx (.var 0) (.con (.int 2))))
(.seq (.set 4 (.call 28 (.cons (.var 1) (.cons (.var 2) (.cons (.var 3) .nil)))))
(.seq (.ite (.not (.tst (.call 26 (.cons (.call 23 (.cons (.var 4) .nil)) (.cons (.call 32 (.cons (.var 1) (.cons (.var 2) (.cons (.var 3) .nil)))) .nil)))))
(.seq (.ret (.con (.bl false)))
.skip)
.skip)
(.seq (.set 5 (.tup (.cons (.neg (.idx (.var 4) (.con (.int 0)))) (.cons (.neg (.idx (.var 4) (.con (.int 1)))) (.cons (.neg (.idx (.var 4) (.con (.int 2)))) .nil)))))
(.seq (.ite (.not (.tst (.call 26 (.cons (.call 23 (.cons (.var 5) .nil)) (.cons (.call 32 (.cons (.var 1) (.cons (.bin .add (.var 2) (.con (.int 18))) (.cons (.neg (.var 3)) .nil)))) .nil)))))
(.seq (.ret (.con (.bl false)))
.skip)
.skip)
(.seq (.ite (.tst (.cmp .gt (.var 1) (.con (.int 9999))))
(.seq (.ret (.con (.bl true)))
.skip)
.skip)
(.seq (.set 6 (.bi .tuple (.cons (.comp [7] false (.itv (.var 4)) .nil (.tup (.cons (.var 7) (.cons (.var 7) .nil)))) .nil)))
(.seq (.ret (.call 26 (.cons (.call 22 (.cons (.tup (.cons (.tup (.cons (.var 1) (.cons (.con (.str "hand")) (.cons (.con (.int 0)) .nil)))) (.cons (.tup (.cons (.var 2) (.cons (.con (.int 0)) .nil))) (.cons (.tup (.cons (.var 3) (.cons (.con (.int 0)) .nil))) .nil)))) .nil)) (.cons (.var 6) .nil))))
.skip))))))))))
def n__law_there_and_back : List Str := (["triple", "hands", "bearing", "slope", "vector", "back", "exact", "part"] : List String).map Str.ofString
def d__law_there_and_back : Def := ⟨1, 8, [], false, b__law_there_and_back⟩
def b_law : S :=
(.seq (.set 1 (.call 24 (.cons (.var 0) (.cons (.con (.int 6)) .nil))))
(.seq (.for_ [2] false (.bi .range1 (.cons (.con (.int 3)) .nil))
(.seq (.ite (.not (.tst (.call 36 (.cons (.call 31 (.cons (.call 25 (.cons (.idx (.var 1) (.var 2)) (.cons (.var 2) (.cons (.lst (.cons (.con (.int 4)) (.cons (.con (.int 100)) (.cons (.bin .pow (.con (.int 10)) (.con (.int 30))) (.cons (.con (.int 36)) (.cons (.con (.int 5)) (.cons (.con (.int 19)) .nil))))))) .nil)))) .nil)) .nil))))
(.seq (.ret (.con (.bl false)))
.skip)
.skip)
.skip))
(.seq (.for_ [2] false (.bi .range2 (.cons (.con (.int 3)) (.cons (.con (.int 5)) .nil)))
(.seq (.set 3 (.call 25 (.cons (.idx (.var 1) (.var 2)) (.cons (.var 2) (.cons (.lst (.cons (.con (.int 4)) (.cons (.con (.int 30)) (.cons (.bin .pow (.con (.int 10)) (.con (.int 30))) (.cons (.con (.int 36)) (.cons (.con (.int 5)) (.cons (.con (.int 19)) (.cons (.con (.int 10)) (.cons (.con (.int 3)) (.cons (.con (.int 7)) (.cons (.con (.int 81)) (.cons (.con (.int 36)) (.cons (.con (.int 7)) (.cons (.con (.int 7)) (.cons (.con (.int 7)) .nil))))))))))))))) .nil)))))
(.seq (.set 6 (.call 33 (.cons (.call 31 (.cons (.var 3) .nil)) (.cons (.slc (.var 3) (.prt (.con (.int 6))) .nil) .nil))))
(.seq (.ite (.not (.tst (.call 26 (.cons (.call 23 (.cons (.var 6) .nil)) (.cons (.call 30 (.cons (.var 6) .nil)) .nil)))))
(.seq (.ret (.con (.bl false)))
.skip)
.skip)
.skip))))
(.seq (.set 3 (.call 25 (.cons (.idx (.var 1) (.con (.int 5))) (.cons (.con (.int 5)) (.cons (.lst (.cons (.con (.int 4)) (.cons (.con (.int 100)) (.cons (.bin .pow (.con (.int 10)) (.con (.int 30))) (.cons (.con (.int 36)) (.cons (.con (.int 5)) (.cons (.con (.int 19)) (.cons (.con (.int 16)) .nil)))))))) .nil)))))
(.seq (.set 4 (.call 31 (.cons (.var 3) .nil)))
(.seq (.set 5 (.call 34 (.cons (.call 28 (.cons (.idx (.var 4) (.con (.int 0))) (.cons (.idx (.var 4) (.con (.int 1))) (.cons (.idx (.var 4) (.con (.int 2))) .nil)))) (.cons (.idx (.var 3) (.con (.int 6))) .nil))))
(.seq (.ret (.call 26 (.cons (.call 35 (.cons (.var 5) .nil)) (.cons (.tup (.cons (.con (.str "refused")) (.cons (.con (.bl true)) (.cons (.con (.bl false)) (.cons (.con (.bl true)) .nil))))) .nil))))
.skip)))))))
def n_law : List Str := (["script", "cells", "k", "row", "drawn", "odd", "near"] : List String).map Str.ofString
def d_law : Def := ⟨1, 7, [], false, b_law⟩
def globs : List (Str × D) := [(Str.ofString "BEARINGS", (.int 36)),
(Str.ofString "RADIUS", (.int 65)),
(Str.ofString "STEEPEST", (.int 9)),
(Str.ofString "EAST", (.tup [(.int 0), (.int 16), (.int 25), (.int 33), (.int 39), (.int 52), (.int 56), (.int 60), (.int 63), (.int 65), (.int 63), (.int 60), (.int 56), (.int 52), (.int 39), (.int 33), (.int 25), (.int 16), (.int 0), (.int (-16)), (.int (-25)), (.int (-33)), (.int (-39)), (.int (-52)), (.int (-56)), (.int (-60)), (.int (-63)), (.int (-65)), (.int (-63)), (.int (-60)), (.int (-56)), (.int (-52)), (.int (-39)), (.int (-33)), (.int (-25)), (.int (-16))])),
(Str.ofString "UNITS", (.tup [(.tup [(.str "hand"), (.int 1)]), (.tup [(.str "foot"), (.int 3)]), (.tup [(.str "yard"), (.int 9)]), (.tup [(.str "fathom"), (.int 18)]), (.tup [(.str "chain"), (.int 198)])])),
(Str.ofString "LONGEST", (.int 9999)),
(Str.ofString "MOST_SLACK", (.int 99)),
(Str.ofString "MOST_SWING", (.int 9)),
(Str.ofString "MOST_TILT", (.int 9)),
(Str.ofString "GRAINS", (.int 4225)),
(Str.ofString "CaveError", .cls 0),
(Str.ofString "BadNumber", .cls 1),
(Str.ofString "BadVector", .cls 2),
(Str.ofString "BadReading", .cls 3)]
def subs : List (Nat × Nat) := [(0, 0), (1, 0), (1, 1), (2, 0), (2, 2), (3, 0), (3, 3)]
def fields : List (Str × List Str) := [(Str.ofString "CaveError", ([] : List String).map Str.ofString), (Str.ofString "BadNumber", ([] : List String).map Str.ofString), (Str.ofString "BadVector", ([] : List String).map Str.ofString), (Str.ofString "BadReading", ([] : List String).map Str.ofString)]
def dnames : List Str := (["is_integer", "in_bounds", "is_vector", "check_vector", "is_bearing", "is_slope", "east_part", "north_part", "level_part", "rise_part", "unit_size", "is_tape", "is_compass", "is_clino", "is_reading", "check_reading", "tape_ends", "bearings_of", "slopes_of", "triple_vector", "scaled_interval", "reading_box", "box_of", "triple_of", "_law_cells", "_law_row", "_law_same", "_law_east", "_law_vector", "_law_hands", "_law_triple", "_law_drawn", "_law_least", "_law_near", "_law_odd", "_law_refusal", "_law_there_and_back", "law"] : List String).map Str.ofString
def G : Pg := ⟨globs.map (·.2), fun a b => subs.contains (a, b), [d_is_integer, d_in_bounds, d_is_vector, d_check_vector, d_is_bearing, d_is_slope, d_east_part, d_north_part, d_level_part, d_rise_part, d_unit_size, d_is_tape, d_is_compass, d_is_clino, d_is_reading, d_check_reading, d_tape_ends, d_bearings_of, d_slopes_of, d_triple_vector, d_scaled_interval, d_reading_box, d_box_of, d_triple_of, d__law_cells, d__law_row, d__law_same, d__law_east, d__law_vector, d__law_hands, d__law_triple, d__law_drawn, d__law_least, d__law_near, d__law_odd, d__law_refusal, d__law_there_and_back, d_law]⟩
open PySem L2 PySem.Spec PyProof.Rows
def top (i : Nat) : Stmt := PySem.Challenge.pw_cavelegs_k03_triple_of_a_vector.main.body.getD i (.Pass ⟨0, 0, 0, 0⟩)
def M : Nm := ⟨globs.map (·.1), dnames, fields, (["len", "int", "abs", "min", "max", "sum", "all", "tuple", "list", "isinstance", "range", "str", "bool", "dict", "ValueError"] : List String).map Str.ofString, (["isqrt"] : List String).map Str.ofString, false⟩
def rs : List DR := [⟨Str.ofString "is_integer", n_is_integer, top 7⟩,
⟨Str.ofString "in_bounds", n_in_bounds, top 8⟩,
⟨Str.ofString "is_vector", n_is_vector, top 9⟩,
⟨Str.ofString "check_vector", n_check_vector, top 11⟩,
⟨Str.ofString "is_bearing", n_is_bearing, top 17⟩,
⟨Str.ofString "is_slope", n_is_slope, top 18⟩,
⟨Str.ofString "east_part", n_east_part, top 19⟩,
⟨Str.ofString "north_part", n_north_part, top 20⟩,
⟨Str.ofString "level_part", n_level_part, top 21⟩,
⟨Str.ofString "rise_part", n_rise_part, top 22⟩,
⟨Str.ofString "unit_size", n_unit_size, top 25⟩,
⟨Str.ofString "is_tape", n_is_tape, top 32⟩,
⟨Str.ofString "is_compass", n_is_compass, top 33⟩,
⟨Str.ofString "is_clino", n_is_clino, top 34⟩,
⟨Str.ofString "is_reading", n_is_reading, top 35⟩,
⟨Str.ofString "check_reading", n_check_reading, top 36⟩,
⟨Str.ofString "tape_ends", n_tape_ends, top 37⟩,
⟨Str.ofString "bearings_of", n_bearings_of, top 38⟩,
⟨Str.ofString "slopes_of", n_slopes_of, top 39⟩,
⟨Str.ofString "triple_vector", n_triple_vector, top 40⟩,
⟨Str.ofString "scaled_interval", n_scaled_interval, top 41⟩,
⟨Str.ofString "reading_box", n_reading_box, top 42⟩,
⟨Str.ofString "box_of", n_box_of, top 43⟩,
⟨Str.ofString "triple_of", n_triple_of, top 44⟩,
⟨Str.ofString "_law_cells", n__law_cells, top 46⟩,
⟨Str.ofString "_law_row", n__law_row, top 47⟩,
⟨Str.ofString "_law_same", n__law_same, top 48⟩,
⟨Str.ofString "_law_east", n__law_east, top 49⟩,
⟨Str.ofString "_law_vector", n__law_vector, top 50⟩,
⟨Str.ofString "_law_hands", n__law_hands, top 51⟩,
⟨Str.ofString "_law_triple", n__law_triple, top 52⟩,
⟨Str.ofString "_law_drawn", n__law_drawn, top 53⟩,
⟨Str.ofString "_law_least", n__law_least, top 54⟩,
⟨Str.ofString "_law_near", n__law_near, top 55⟩,
⟨Str.ofString "_law_odd", n__law_odd, top 56⟩,
⟨Str.ofString "_law_refusal", n__law_refusal, top 57⟩,
⟨Str.ofString "_law_there_and_back", n__law_there_and_back, top 58⟩,
⟨Str.ofString "law", n_law, top 59⟩]
theorem bn_0 : BindN ⟨Str.ofString "is_integer", n_is_integer, top 7⟩ [Str.ofString "value"] := fun _ _ _ _ _ _ us hl => match us, hl with | [_], _ => rfl
theorem bn_1 : BindN ⟨Str.ofString "in_bounds", n_in_bounds, top 8⟩ [Str.ofString "value", Str.ofString "low", Str.ofString "high"] := fun _ _ _ _ _ _ us hl => match us, hl with | [_, _, _], _ => rfl
theorem bn_2 : BindN ⟨Str.ofString "is_vector", n_is_vector, top 9⟩ [Str.ofString "value"] := fun _ _ _ _ _ _ us hl => match us, hl with | [_], _ => rfl
theorem bn_3 : BindN ⟨Str.ofString "check_vector", n_check_vector, top 11⟩ [Str.ofString "value"] := fun _ _ _ _ _ _ us hl => match us, hl with | [_], _ => rfl
theorem bn_4 : BindN ⟨Str.ofString "is_bearing", n_is_bearing, top 17⟩ [Str.ofString "value"] := fun _ _ _ _ _ _ us hl => match us, hl with | [_], _ => rfl
theorem bn_5 : BindN ⟨Str.ofString "is_slope", n_is_slope, top 18⟩ [Str.ofString "value"] := fun _ _ _ _ _ _ us hl => match us, hl with | [_], _ => rfl
theorem bn_6 : BindN ⟨Str.ofString "east_part", n_east_part, top 19⟩ [Str.ofString "bearing"] := fun _ _ _ _ _ _ us hl => match us, hl with | [_], _ => rfl
theorem bn_7 : BindN ⟨Str.ofString "north_part", n_north_part, top 20⟩ [Str.ofString "bearing"] := fun _ _ _ _ _ _ us hl => match us, hl with | [_], _ => rfl
theorem bn_8 : BindN ⟨Str.ofString "level_part", n_level_part, top 21⟩ [Str.ofString "slope"] := fun _ _ _ _ _ _ us hl => match us, hl with | [_], _ => rfl
theorem bn_9 : BindN ⟨Str.ofString "rise_part", n_rise_part, top 22⟩ [Str.ofString "slope"] := fun _ _ _ _ _ _ us hl => match us, hl with | [_], _ => rfl
theorem bn_10 : BindN ⟨Str.ofString "unit_size", n_unit_size, top 25⟩ [Str.ofString "unit"] := fun _ _ _ _ _ _ us hl => match us, hl with | [_], _ => rfl
theorem bn_11 : BindN ⟨Str.ofString "is_tape", n_is_tape, top 32⟩ [Str.ofString "value"] := fun _ _ _ _ _ _ us hl => match us, hl with | [_], _ => rfl
theorem bn_12 : BindN ⟨Str.ofString "is_compass", n_is_compass, top 33⟩ [Str.ofString "value"] := fun _ _ _ _ _ _ us hl => match us, hl with | [_], _ => rfl
theorem bn_13 : BindN ⟨Str.ofString "is_clino", n_is_clino, top 34⟩ [Str.ofString "value"] := fun _ _ _ _ _ _ us hl => match us, hl with | [_], _ => rfl
theorem bn_14 : BindN ⟨Str.ofString "is_reading", n_is_reading, top 35⟩ [Str.ofString "value"] := fun _ _ _ _ _ _ us hl => match us, hl with | [_], _ => rfl
theorem bn_15 : BindN ⟨Str.ofString "check_reading", n_check_reading, top 36⟩ [Str.ofString "value"] := fun _ _ _ _ _ _ us hl => match us, hl with | [_], _ => rfl
theorem bn_16 : BindN ⟨Str.ofString "tape_ends", n_tape_ends, top 37⟩ [Str.ofString "reading"] := fun _ _ _ _ _ _ us hl => match us, hl with | [_], _ => rfl
theorem bn_17 : BindN ⟨Str.ofString "bearings_of", n_bearings_of, top 38⟩ [Str.ofString "reading"] := fun _ _ _ _ _ _ us hl => match us, hl with | [_], _ => rfl
theorem bn_18 : BindN ⟨Str.ofString "slopes_of", n_slopes_of, top 39⟩ [Str.ofString "reading"] := fun _ _ _ _ _ _ us hl => match us, hl with | [_], _ => rfl
theorem bn_19 : BindN ⟨Str.ofString "triple_vector", n_triple_vector, top 40⟩ [Str.ofString "hands", Str.ofString "bearing", Str.ofString "slope"] := fun _ _ _ _ _ _ us hl => match us, hl with | [_, _, _], _ => rfl
theorem bn_20 : BindN ⟨Str.ofString "scaled_interval", n_scaled_interval, top 41⟩ [Str.ofString "least", Str.ofString "most", Str.ofString "parts"] := fun _ _ _ _ _ _ us hl => match us, hl with | [_, _, _], _ => rfl
theorem bn_21 : BindN ⟨Str.ofString "reading_box", n_reading_box, top 42⟩ [Str.ofString "reading"] := fun _ _ _ _ _ _ us hl => match us, hl with | [_], _ => rfl
theorem bn_22 : BindN ⟨Str.ofString "box_of", n_box_of, top 43⟩ [Str.ofString "reading"] := fun _ _ _ _ _ _ us hl => match us, hl with | [_], _ => rfl
theorem bn_23 : BindN ⟨Str.ofString "triple_of", n_triple_of, top 44⟩ [Str.ofString "vector"] := fun _ _ _ _ _ _ us hl => match us, hl with | [_], _ => rfl
theorem bn_24 : BindN ⟨Str.ofString "_law_cells", n__law_cells, top 46⟩ [Str.ofString "script", Str.ofString "many"] := fun _ _ _ _ _ _ us hl => match us, hl with | [_, _], _ => rfl
theorem bn_25 : BindN ⟨Str.ofString "_law_row", n__law_row, top 47⟩ [Str.ofString "cell", Str.ofString "place", Str.ofString "limits"] := fun _ _ _ _ _ _ us hl => match us, hl with | [_, _, _], _ => rfl
theorem bn_26 : BindN ⟨Str.ofString "_law_same", n__law_same, top 48⟩ [Str.ofString "told", Str.ofString "due"] := fun _ _ _ _ _ _ us hl => match us, hl with | [_, _], _ => rfl
theorem bn_27 : BindN ⟨Str.ofString "_law_east", n__law_east, top 49⟩ [Str.ofString "bearing"] := fun _ _ _ _ _ _ us hl => match us, hl with | [_], _ => rfl
theorem bn_28 : BindN ⟨Str.ofString "_law_vector", n__law_vector, top 50⟩ [Str.ofString "hands", Str.ofString "bearing", Str.ofString "slope"] := fun _ _ _ _ _ _ us hl => match us, hl with | [_, _, _], _ => rfl
theorem bn_29 : BindN ⟨Str.ofString "_law_hands", n__law_hands, top 51⟩ [Str.ofString "vector", Str.ofString "bearing", Str.ofString "slope"] := fun _ _ _ _ _ _ us hl => match us, hl with | [_, _, _], _ => rfl
theorem bn_30 : BindN ⟨Str.ofString "_law_triple", n__law_triple, top 52⟩ [Str.ofString "vector"] := fun _ _ _ _ _ _ us hl => match us, hl with | [_], _ => rfl
theorem bn_31 : BindN ⟨Str.ofString "_law_drawn", n__law_drawn, top 53⟩ [Str.ofString "row"] := fun _ _ _ _ _ _ us hl => match us, hl with | [_], _ => rfl
theorem bn_32 : BindN ⟨Str.ofString "_law_least", n__law_least, top 54⟩ [Str.ofString "hands", Str.ofString "bearing", Str.ofString "slope"] := fun _ _ _ _ _ _ us hl => match us, hl with | [_, _, _], _ => rfl
theorem bn_33 : BindN ⟨Str.ofString "_law_near", n__law_near, top 55⟩ [Str.ofString "triple", Str.ofString "row"] := fun _ _ _ _ _ _ us hl => match us, hl with | [_, _], _ => rfl
theorem bn_34 : BindN ⟨Str.ofString "_law_odd", n__law_odd, top 56⟩ [Str.ofString "vector", Str.ofString "kind"] := fun _ _ _ _ _ _ us hl => match us, hl with | [_, _], _ => rfl
theorem bn_35 : BindN ⟨Str.ofString "_law_refusal", n__law_refusal, top 57⟩ [Str.ofString "vector"] := fun _ _ _ _ _ _ us hl => match us, hl with | [_], _ => rfl
theorem bn_36 : BindN ⟨Str.ofString "_law_there_and_back", n__law_there_and_back, top 58⟩ [Str.ofString "triple"] := fun _ _ _ _ _ _ us hl => match us, hl with | [_], _ => rfl
theorem bn_37 : BindN ⟨Str.ofString "law", n_law, top 59⟩ [Str.ofString "script"] := fun _ _ _ _ _ _ us hl => match us, hl with | [_], _ => rfl
theorem bn : BindAll (G.defs.zip rs) := ⟨bn_0, bn_1, bn_2, bn_3, bn_4, bn_5, bn_6, bn_7, bn_8, bn_9, bn_10, bn_11, bn_12, bn_13, bn_14, bn_15, bn_16, bn_17, bn_18, bn_19, bn_20, bn_21, bn_22, bn_23, bn_24, bn_25, bn_26, bn_27, bn_28, bn_29, bn_30, bn_31, bn_32, bn_33, bn_34, bn_35, bn_36, bn_37, trivial⟩
theorem gd_0 : G.defs[0]? = some d_is_integer := rfl
theorem gd_1 : G.defs[1]? = some d_in_bounds := rfl
theorem gd_2 : G.defs[2]? = some d_is_vector := rfl
theorem gd_3 : G.defs[3]? = some d_check_vector := rfl
theorem gd_4 : G.defs[4]? = some d_is_bearing := rfl
theorem gd_5 : G.defs[5]? = some d_is_slope := rfl
theorem gd_6 : G.defs[6]? = some d_east_part := rfl
theorem gd_7 : G.defs[7]? = some d_north_part := rfl
theorem gd_8 : G.defs[8]? = some d_level_part := rfl
theorem gd_9 : G.defs[9]? = some d_rise_part := rfl
theorem gd_10 : G.defs[10]? = some d_unit_size := rfl
theorem gd_11 : G.defs[11]? = some d_is_tape := rfl
theorem gd_12 : G.defs[12]? = some d_is_compass := rfl
theorem gd_13 : G.defs[13]? = some d_is_clino := rfl
theorem gd_14 : G.defs[14]? = some d_is_reading := rfl
theorem gd_15 : G.defs[15]? = some d_check_reading := rfl
theorem gd_16 : G.defs[16]? = some d_tape_ends := rfl
theorem gd_17 : G.defs[17]? = some d_bearings_of := rfl
theorem gd_18 : G.defs[18]? = some d_slopes_of := rfl
theorem gd_19 : G.defs[19]? = some d_triple_vector := rfl
theorem gd_20 : G.defs[20]? = some d_scaled_interval := rfl
theorem gd_21 : G.defs[21]? = some d_reading_box := rfl
theorem gd_22 : G.defs[22]? = some d_box_of := rfl
theorem gd_23 : G.defs[23]? = some d_triple_of := rfl
theorem gd_24 : G.defs[24]? = some d__law_cells := rfl
theorem gd_25 : G.defs[25]? = some d__law_row := rfl
theorem gd_26 : G.defs[26]? = some d__law_same := rfl
theorem gd_27 : G.defs[27]? = some d__law_east := rfl
theorem gd_28 : G.defs[28]? = some d__law_vector := rfl
theorem gd_29 : G.defs[29]? = some d__law_hands := rfl
theorem gd_30 : G.defs[30]? = some d__law_triple := rfl
theorem gd_31 : G.defs[31]? = some d__law_drawn := rfl
theorem gd_32 : G.defs[32]? = some d__law_least := rfl
theorem gd_33 : G.defs[33]? = some d__law_near := rfl
theorem gd_34 : G.defs[34]? = some d__law_odd := rfl
theorem gd_35 : G.defs[35]? = some d__law_refusal := rfl
theorem gd_36 : G.defs[36]? = some d__law_there_and_back := rfl
theorem gd_37 : G.defs[37]? = some d_law := rfl
theorem gg_0 : G.glob[0]? = some (.int 36) := rfl
theorem gg_1 : G.glob[1]? = some (.int 65) := rfl
theorem gg_2 : G.glob[2]? = some (.int 9) := rfl
theorem gg_3 : G.glob[3]? = some (.tup [(.int 0), (.int 16), (.int 25), (.int 33), (.int 39), (.int 52), (.int 56), (.int 60), (.int 63), (.int 65), (.int 63), (.int 60), (.int 56), (.int 52), (.int 39), (.int 33), (.int 25), (.int 16), (.int 0), (.int (-16)), (.int (-25)), (.int (-33)), (.int (-39)), (.int (-52)), (.int (-56)), (.int (-60)), (.int (-63)), (.int (-65)), (.int (-63)), (.int (-60)), (.int (-56)), (.int (-52)), (.int (-39)), (.int (-33)), (.int (-25)), (.int (-16))]) := rfl
theorem gg_4 : G.glob[4]? = some (.tup [(.tup [(.str "hand"), (.int 1)]), (.tup [(.str "foot"), (.int 3)]), (.tup [(.str "yard"), (.int 9)]), (.tup [(.str "fathom"), (.int 18)]), (.tup [(.str "chain"), (.int 198)])]) := rfl
theorem gg_5 : G.glob[5]? = some (.int 9999) := rfl
theorem gg_6 : G.glob[6]? = some (.int 99) := rfl
theorem gg_7 : G.glob[7]? = some (.int 9) := rfl
theorem gg_8 : G.glob[8]? = some (.int 9) := rfl
theorem gg_9 : G.glob[9]? = some (.int 4225) := rfl
theorem gg_10 : G.glob[10]? = some (.cls 0) := rfl
theorem gg_11 : G.glob[11]? = some (.cls 1) := rfl
theorem gg_12 : G.glob[12]? = some (.cls 2) := rfl
theorem gg_13 : G.glob[13]? = some (.cls 3) := rfl
theorem chk : prB G M rs = true := by decide +kernel
def loose0 : List PySem.Str := ["CaveError", "BadNumber", "BadVector", "BadReading", "is_integer", "in_bounds", "is_vector", "check_vector", "BEARINGS", "RADIUS", "STEEPEST", "EAST", "is_bearing", "is_slope", "east_part", "north_part", "level_part", "rise_part", "UNITS", "unit_size", "LONGEST", "MOST_SLACK", "MOST_SWING", "MOST_TILT", "GRAINS", "is_tape", "is_compass", "is_clino", "is_reading", "check_reading"]
def loose1 : List PySem.Str := ["tape_ends", "bearings_of", "slopes_of", "triple_vector", "scaled_interval", "reading_box", "box_of", "triple_of", "_law_cells", "_law_row", "_law_same", "_law_east", "_law_vector", "_law_hands", "_law_triple", "_law_drawn", "_law_least", "_law_near", "_law_odd", "_law_refusal", "_law_there_and_back"]
def loose : List PySem.Str := loose0 ++ loose1
abbrev lawAt : Nat := 59
abbrev R : PySem.W.OpenRow := PySem.W.OpenLaw.row PySem.Challenge.rw_cavelegs_k03_triple_of_a_vector
end L

namespace L
open MP
variable {n : Nat}
def notInt : D → Bool
  | .non => true | .bl _ => true | .str _ => true | .lst _ => true | .tup _ => true | .dct _ => true | _ => false
def smD : Nat → D → Bool
  | 0, d => (match d with | .non => true | .bl _ => true | .int _ => true | .str _ => true | _ => false)
  | m + 1, d => (match d with | .non => true | .bl _ => true | .int _ => true | .str _ => true | .tup l => decide (l.length ≤ 1000) && l.all (smD m) | _ => false)
theorem sm_err {m : Nat} {d : D} (h : smD m d = true) : d.isErr = false := by
  cases m <;> cases d <;> first | rfl | cases h
theorem c_same_int (i : Int) : callF G (n + 1) 26 [.int i, .int i] = .ret (.bl true) := by
  have c_1 : ∀ {n : Nat} {as : List D}, callF G (n + 1) 26 as = runDef G (callF G n) d__law_same as := rfl
  simp -implicitDefEqProofs only [c_1, d__law_same, b__law_same, beq_self_eq_true, bind_ok, bind_exc, st_ok, st_exc, seq_nx, seq_rt, seq_bk, seq_ct, seq_exc, opt_s, lift_s, map_s, get_0, get_s, put_0, put_s, run_eq, fin_nx, fin_rt, fin_exc, d_un, d_own, f_own, d_non, f_non, er_non, d_bl, f_bl, er_bl, d_int, f_int, er_int, d_str, f_str, er_str, d_lst, f_lst, er_lst, d_tup, f_tup, er_tup, d_dct, f_dct, er_dct, d_scr, f_scr, er_scr, d_ty, f_ty, er_ty, d_cls, f_cls, er_cls, b1_con, b2_con, bL_con, b1_glb, b2_glb, bL_glb, b1_bin, b2_bin, bL_bin, b1_neg, b2_neg, bL_neg, b1_not, b2_not, bL_not, b1_and, b2_and, bL_and, b1_or, b2_or, bL_or, b1_cmp, b2_cmp, bL_cmp, b1_chain, b2_chain, bL_chain, b1_ite, b2_ite, bL_ite, b1_tup, b2_tup, bL_tup, b1_lst, b2_lst, bL_lst, b1_dct, b2_dct, bL_dct, b1_idx, b2_idx, bL_idx, b1_slc, b2_slc, bL_slc, b1_call, b2_call, bL_call, b1_bi, b2_bi, bL_bi, b1_comp, b2_comp, bL_comp, b1_pop, b2_pop, bL_pop, b1_meth, b2_meth, bL_meth, b1_efld, b2_efld, bL_efld, b1_eisi, b2_eisi, bL_eisi, b1_var, b2_var, bL_var, isi_int_non, isi_int_bl, isi_int_int, isi_int_str, isi_int_lst, isi_int_tup, isi_int_dct, isi_bool_non, isi_bool_bl, isi_bool_int, isi_bool_str, isi_bool_lst, isi_bool_tup, isi_bool_dct, isi_str_non, isi_str_bl, isi_str_int, isi_str_str, isi_str_lst, isi_str_tup, isi_str_dct, isi_list_non, isi_list_bl, isi_list_int, isi_list_str, isi_list_lst, isi_list_tup, isi_list_dct, isi_tuple_non, isi_tuple_bl, isi_tuple_int, isi_tuple_str, isi_tuple_lst, isi_tuple_tup, isi_tuple_dct, isi_dict_non, isi_dict_bl, isi_dict_int, isi_dict_str, isi_dict_lst, isi_dict_tup, isi_dict_dct, bf_int, bf_intb, bf_abs, bf_lenl, bf_lent, bf_lens, bf_lend, bf_min2, bf_max2, bf_sum, bf_tup, bf_tupt, bf_lst, bf_lstt, bo_add, bo_sub, bo_mul, bo_mod, bo_fdiv, bo_pow, bo_addl, co_lt, co_le, co_gt, co_ge, co_eqi, co_nei, co_eqs, eq_strs, co_is, co_isnot, ix_l, ix_t, tr_bl, tr_int, at_nat, sm_ni, sm_nn, sm_ti, sm_tt, sm_nt, sm_ns, sm_ts, sm_bb, sm_bn, sm_nl, sm_tl, sm_nb, sm_nd, sm_td, ranged_len, lim_lit, asgs_nil, asgs_cons, pat_1, pat_t, forK_nx, forK_ct, forK_bk, forK_rt, forK_exc, forL_nil, forL_cons, it_l, it_t, it_s, ol_l, ow_, mut_l, mut_d, fr_lst, fr_comp, fr_bin, fr_dct, sk_nx, sk_rt, sk_bk, sk_ct, sk_exc, ik_ok, ik_exc, fx_nil, fx_cons, fy_nx, fy_ct, fy_bk, fy_rt, fy_exc, tk_nx, tk_rt, tk_bk, tk_ct, tk_e0, tk_e1, w_skip, w_seq, w_set, w_setO, w_unpack, ak_, w_app, w_put, ps_l, ps_d, pl_i, w_aug, ag_add, ag_sub, w_expr, rv_fz, rv_own, w_ret_var, w_retN, w_ite, w_for, w_while, w_brk, w_cnt, w_raise, w_try, w_frz, e_con, e_var, e_glb, e_bin, e_neg, e_not, e_and, e_or, e_cmp, e_chain, e_ite, e_tup, e_lst, e_dct, e_idx, e_slc, ck_ret, ck_exc, e_call, e_bi1, e_bi2, e_comp, lx_nil, e_efld, e_eisi, nil_e, sub_n, sub_s, gone_rt, gone_nx, hush_nx, hush_rt, lt_lit, xr_con, xr_glb, xr_bin, xr_neg, xr_not, xr_and, xr_or, xr_cmp, xr_chain, xr_ite, xr_tup, xr_lst, xr_dct, xr_idx, xr_slc, xr_call, xr_bi, xr_comp, xr_pop, xr_efld, xr_eisi, at_k0, at_k1, at_k2, at_k3, at_k4, at_k5, at_k6, at_k7, at_k8, at_k9, at_k10, at_k11, at_k12, at_k13, at_k14, at_k15, at_k16, at_k17, at_k18, at_k19, at_k20, or_s, lx_cons, ly_some, ly_none, tx_, op_nil, op_cons, we_nil, we_cons, sp_nil, sp_cons, rp_nil, rp_cons, rg_0, rg_1, rg_2, rg_3, rg_4, rg_5, bls_n, bls_c, ints_n, ints_c, bf_all, bf_any, bf_gcd, bm_var, bn_, bm_lst, e_meth, my_ixl, mf_ix, xr_meth, bf_isqrt, bf_lr1, bf_lr2, bf_min1, bf_max1, mk_c, xk_c, asg_nil, evL, evC, evP, evI, List.map, List.length_cons, List.length_nil, List.cons_append, List.nil_append, List.replicate, if_true, reduceIte, Nat.sub_self, Nat.reduceAdd, Nat.reduceSub, Nat.reduceLT, Bool.false_eq_true, if_false, Bool.not_false, Bool.not_true, Bool.false_and, Bool.true_and, Option.isNone_some, Option.map_some, Nat.reduceEqDiff, Nat.zero_add, Nat.add_zero, Nat.reduceLeDiff, Int.reduceLT, Int.reduceLE, Int.reduceMod, Int.reduceAdd, Int.reduceSub, Int.reduceNeg, Int.reduceMul, Int.reduceBEq, decide_true, decide_false, bne_self_eq_false, BEq.rfl, and_self, Bool.false_or, Bool.true_or, Bool.or_false, Bool.or_true, Option.bind_some, Int.zero_add, Int.toNat_natCast, Int.cast_ofNat_Int, Int.natCast_zero, Int.natCast_one, Int.reduceToNat, Int.reducePow, List.all_cons, List.all_nil, List.any_cons, List.any_nil, id, Bool.not_not, List.length_map, Bool.and_true, Bool.and_false]
theorem c_same_str (i : PySem.Str) : callF G (n + 1) 26 [.str i, .str i] = .ret (.bl true) := by
  have c_1 : ∀ {n : Nat} {as : List D}, callF G (n + 1) 26 as = runDef G (callF G n) d__law_same as := rfl
  simp -implicitDefEqProofs only [c_1, d__law_same, b__law_same, beq_self_eq_true, bind_ok, bind_exc, st_ok, st_exc, seq_nx, seq_rt, seq_bk, seq_ct, seq_exc, opt_s, lift_s, map_s, get_0, get_s, put_0, put_s, run_eq, fin_nx, fin_rt, fin_exc, d_un, d_own, f_own, d_non, f_non, er_non, d_bl, f_bl, er_bl, d_int, f_int, er_int, d_str, f_str, er_str, d_lst, f_lst, er_lst, d_tup, f_tup, er_tup, d_dct, f_dct, er_dct, d_scr, f_scr, er_scr, d_ty, f_ty, er_ty, d_cls, f_cls, er_cls, b1_con, b2_con, bL_con, b1_glb, b2_glb, bL_glb, b1_bin, b2_bin, bL_bin, b1_neg, b2_neg, bL_neg, b1_not, b2_not, bL_not, b1_and, b2_and, bL_and, b1_or, b2_or, bL_or, b1_cmp, b2_cmp, bL_cmp, b1_chain, b2_chain, bL_chain, b1_ite, b2_ite, bL_ite, b1_tup, b2_tup, bL_tup, b1_lst, b2_lst, bL_lst, b1_dct, b2_dct, bL_dct, b1_idx, b2_idx, bL_idx, b1_slc, b2_slc, bL_slc, b1_call, b2_call, bL_call, b1_bi, b2_bi, bL_bi, b1_comp, b2_comp, bL_comp, b1_pop, b2_pop, bL_pop, b1_meth, b2_meth, bL_meth, b1_efld, b2_efld, bL_efld, b1_eisi, b2_eisi, bL_eisi, b1_var, b2_var, bL_var, isi_int_non, isi_int_bl, isi_int_int, isi_int_str, isi_int_lst, isi_int_tup, isi_int_dct, isi_bool_non, isi_bool_bl, isi_bool_int, isi_bool_str, isi_bool_lst, isi_bool_tup, isi_bool_dct, isi_str_non, isi_str_bl, isi_str_int, isi_str_str, isi_str_lst, isi_str_tup, isi_str_dct, isi_list_non, isi_list_bl, isi_list_int, isi_list_str, isi_list_lst, isi_list_tup, isi_list_dct, isi_tuple_non, isi_tuple_bl, isi_tuple_int, isi_tuple_str, isi_tuple_lst, isi_tuple_tup, isi_tuple_dct, isi_dict_non, isi_dict_bl, isi_dict_int, isi_dict_str, isi_dict_lst, isi_dict_tup, isi_dict_dct, bf_int, bf_intb, bf_abs, bf_lenl, bf_lent, bf_lens, bf_lend, bf_min2, bf_max2, bf_sum, bf_tup, bf_tupt, bf_lst, bf_lstt, bo_add, bo_sub, bo_mul, bo_mod, bo_fdiv, bo_pow, bo_addl, co_lt, co_le, co_gt, co_ge, co_eqi, co_nei, co_eqs, eq_strs, co_is, co_isnot, ix_l, ix_t, tr_bl, tr_int, at_nat, sm_ni, sm_nn, sm_ti, sm_tt, sm_nt, sm_ns, sm_ts, sm_bb, sm_bn, sm_nl, sm_tl, sm_nb, sm_nd, sm_td, ranged_len, lim_lit, asgs_nil, asgs_cons, pat_1, pat_t, forK_nx, forK_ct, forK_bk, forK_rt, forK_exc, forL_nil, forL_cons, it_l, it_t, it_s, ol_l, ow_, mut_l, mut_d, fr_lst, fr_comp, fr_bin, fr_dct, sk_nx, sk_rt, sk_bk, sk_ct, sk_exc, ik_ok, ik_exc, fx_nil, fx_cons, fy_nx, fy_ct, fy_bk, fy_rt, fy_exc, tk_nx, tk_rt, tk_bk, tk_ct, tk_e0, tk_e1, w_skip, w_seq, w_set, w_setO, w_unpack, ak_, w_app, w_put, ps_l, ps_d, pl_i, w_aug, ag_add, ag_sub, w_expr, rv_fz, rv_own, w_ret_var, w_retN, w_ite, w_for, w_while, w_brk, w_cnt, w_raise, w_try, w_frz, e_con, e_var, e_glb, e_bin, e_neg, e_not, e_and, e_or, e_cmp, e_chain, e_ite, e_tup, e_lst, e_dct, e_idx, e_slc, ck_ret, ck_exc, e_call, e_bi1, e_bi2, e_comp, lx_nil, e_efld, e_eisi, nil_e, sub_n, sub_s, gone_rt, gone_nx, hush_nx, hush_rt, lt_lit, xr_con, xr_glb, xr_bin, xr_neg, xr_not, xr_and, xr_or, xr_cmp, xr_chain, xr_ite, xr_tup, xr_lst, xr_dct, xr_idx, xr_slc, xr_call, xr_bi, xr_comp, xr_pop, xr_efld, xr_eisi, at_k0, at_k1, at_k2, at_k3, at_k4, at_k5, at_k6, at_k7, at_k8, at_k9, at_k10, at_k11, at_k12, at_k13, at_k14, at_k15, at_k16, at_k17, at_k18, at_k19, at_k20, or_s, lx_cons, ly_some, ly_none, tx_, op_nil, op_cons, we_nil, we_cons, sp_nil, sp_cons, rp_nil, rp_cons, rg_0, rg_1, rg_2, rg_3, rg_4, rg_5, bls_n, bls_c, ints_n, ints_c, bf_all, bf_any, bf_gcd, bm_var, bn_, bm_lst, e_meth, my_ixl, mf_ix, xr_meth, bf_isqrt, bf_lr1, bf_lr2, bf_min1, bf_max1, mk_c, xk_c, asg_nil, evL, evC, evP, evI, List.map, List.length_cons, List.length_nil, List.cons_append, List.nil_append, List.replicate, if_true, reduceIte, Nat.sub_self, Nat.reduceAdd, Nat.reduceSub, Nat.reduceLT, Bool.false_eq_true, if_false, Bool.not_false, Bool.not_true, Bool.false_and, Bool.true_and, Option.isNone_some, Option.map_some, Nat.reduceEqDiff, Nat.zero_add, Nat.add_zero, Nat.reduceLeDiff, Int.reduceLT, Int.reduceLE, Int.reduceMod, Int.reduceAdd, Int.reduceSub, Int.reduceNeg, Int.reduceMul, Int.reduceBEq, decide_true, decide_false, bne_self_eq_false, BEq.rfl, and_self, Bool.false_or, Bool.true_or, Bool.or_false, Bool.or_true, Option.bind_some, Int.zero_add, Int.toNat_natCast, Int.cast_ofNat_Int, Int.natCast_zero, Int.natCast_one, Int.reduceToNat, Int.reducePow, List.all_cons, List.all_nil, List.any_cons, List.any_nil, id, Bool.not_not, List.length_map, Bool.and_true, Bool.and_false]
theorem c_same_tup (l : List D) (hl : l.length ≤ 1000) (h : ∀ d ∈ l, callF G n 26 [d, d] = .ret (.bl true)) (he : ∀ d ∈ l, d.isErr = false) : callF G (n + 1) 26 [.tup l, .tup l] = .ret (.bl true) := by
  have c_1 : ∀ {n : Nat} {as : List D}, callF G (n + 1) 26 as = runDef G (callF G n) d__law_same as := rfl
  have h1 : (-4611686018427387904 : Int) ≤ (l.length : Int) := by omega
  have h2 : (l.length : Int) < 4611686018427387904 := by omega
  have h3 : l.length ≤ lim := by rw [lim_lit (by omega)]; trivial
  simp -implicitDefEqProofs only [c_1, d__law_same, b__law_same, beq_self_eq_true, h1, h2, h3, bind_ok, bind_exc, st_ok, st_exc, seq_nx, seq_rt, seq_bk, seq_ct, seq_exc, opt_s, lift_s, map_s, get_0, get_s, put_0, put_s, run_eq, fin_nx, fin_rt, fin_exc, d_un, d_own, f_own, d_non, f_non, er_non, d_bl, f_bl, er_bl, d_int, f_int, er_int, d_str, f_str, er_str, d_lst, f_lst, er_lst, d_tup, f_tup, er_tup, d_dct, f_dct, er_dct, d_scr, f_scr, er_scr, d_ty, f_ty, er_ty, d_cls, f_cls, er_cls, b1_con, b2_con, bL_con, b1_glb, b2_glb, bL_glb, b1_bin, b2_bin, bL_bin, b1_neg, b2_neg, bL_neg, b1_not, b2_not, bL_not, b1_and, b2_and, bL_and, b1_or, b2_or, bL_or, b1_cmp, b2_cmp, bL_cmp, b1_chain, b2_chain, bL_chain, b1_ite, b2_ite, bL_ite, b1_tup, b2_tup, bL_tup, b1_lst, b2_lst, bL_lst, b1_dct, b2_dct, bL_dct, b1_idx, b2_idx, bL_idx, b1_slc, b2_slc, bL_slc, b1_call, b2_call, bL_call, b1_bi, b2_bi, bL_bi, b1_comp, b2_comp, bL_comp, b1_pop, b2_pop, bL_pop, b1_meth, b2_meth, bL_meth, b1_efld, b2_efld, bL_efld, b1_eisi, b2_eisi, bL_eisi, b1_var, b2_var, bL_var, isi_int_non, isi_int_bl, isi_int_int, isi_int_str, isi_int_lst, isi_int_tup, isi_int_dct, isi_bool_non, isi_bool_bl, isi_bool_int, isi_bool_str, isi_bool_lst, isi_bool_tup, isi_bool_dct, isi_str_non, isi_str_bl, isi_str_int, isi_str_str, isi_str_lst, isi_str_tup, isi_str_dct, isi_list_non, isi_list_bl, isi_list_int, isi_list_str, isi_list_lst, isi_list_tup, isi_list_dct, isi_tuple_non, isi_tuple_bl, isi_tuple_int, isi_tuple_str, isi_tuple_lst, isi_tuple_tup, isi_tuple_dct, isi_dict_non, isi_dict_bl, isi_dict_int, isi_dict_str, isi_dict_lst, isi_dict_tup, isi_dict_dct, bf_int, bf_intb, bf_abs, bf_lenl, bf_lent, bf_lens, bf_lend, bf_min2, bf_max2, bf_sum, bf_tup, bf_tupt, bf_lst, bf_lstt, bo_add, bo_sub, bo_mul, bo_mod, bo_fdiv, bo_pow, bo_addl, co_lt, co_le, co_gt, co_ge, co_eqi, co_nei, co_eqs, eq_strs, co_is, co_isnot, ix_l, ix_t, tr_bl, tr_int, at_nat, sm_ni, sm_nn, sm_ti, sm_tt, sm_nt, sm_ns, sm_ts, sm_bb, sm_bn, sm_nl, sm_tl, sm_nb, sm_nd, sm_td, ranged_len, lim_lit, asgs_nil, asgs_cons, pat_1, pat_t, forK_nx, forK_ct, forK_bk, forK_rt, forK_exc, forL_nil, forL_cons, it_l, it_t, it_s, ol_l, ow_, mut_l, mut_d, fr_lst, fr_comp, fr_bin, fr_dct, sk_nx, sk_rt, sk_bk, sk_ct, sk_exc, ik_ok, ik_exc, fx_nil, fx_cons, fy_nx, fy_ct, fy_bk, fy_rt, fy_exc, tk_nx, tk_rt, tk_bk, tk_ct, tk_e0, tk_e1, w_skip, w_seq, w_set, w_setO, w_unpack, ak_, w_app, w_put, ps_l, ps_d, pl_i, w_aug, ag_add, ag_sub, w_expr, rv_fz, rv_own, w_ret_var, w_retN, w_ite, w_for, w_while, w_brk, w_cnt, w_raise, w_try, w_frz, e_con, e_var, e_glb, e_bin, e_neg, e_not, e_and, e_or, e_cmp, e_chain, e_ite, e_tup, e_lst, e_dct, e_idx, e_slc, ck_ret, ck_exc, e_call, e_bi1, e_bi2, e_comp, lx_nil, e_efld, e_eisi, nil_e, sub_n, sub_s, gone_rt, gone_nx, hush_nx, hush_rt, lt_lit, xr_con, xr_glb, xr_bin, xr_neg, xr_not, xr_and, xr_or, xr_cmp, xr_chain, xr_ite, xr_tup, xr_lst, xr_dct, xr_idx, xr_slc, xr_call, xr_bi, xr_comp, xr_pop, xr_efld, xr_eisi, at_k0, at_k1, at_k2, at_k3, at_k4, at_k5, at_k6, at_k7, at_k8, at_k9, at_k10, at_k11, at_k12, at_k13, at_k14, at_k15, at_k16, at_k17, at_k18, at_k19, at_k20, or_s, lx_cons, ly_some, ly_none, tx_, op_nil, op_cons, we_nil, we_cons, sp_nil, sp_cons, rp_nil, rp_cons, rg_0, rg_1, rg_2, rg_3, rg_4, rg_5, bls_n, bls_c, ints_n, ints_c, bf_all, bf_any, bf_gcd, bm_var, bn_, bm_lst, e_meth, my_ixl, mf_ix, xr_meth, bf_isqrt, bf_lr1, bf_lr2, bf_min1, bf_max1, mk_c, xk_c, asg_nil, evL, evC, evP, evI, List.map, List.length_cons, List.length_nil, List.cons_append, List.nil_append, List.replicate, if_true, reduceIte, Nat.sub_self, Nat.reduceAdd, Nat.reduceSub, Nat.reduceLT, Bool.false_eq_true, if_false, Bool.not_false, Bool.not_true, Bool.false_and, Bool.true_and, Option.isNone_some, Option.map_some, Nat.reduceEqDiff, Nat.zero_add, Nat.add_zero, Nat.reduceLeDiff, Int.reduceLT, Int.reduceLE, Int.reduceMod, Int.reduceAdd, Int.reduceSub, Int.reduceNeg, Int.reduceMul, Int.reduceBEq, decide_true, decide_false, bne_self_eq_false, BEq.rfl, and_self, Bool.false_or, Bool.true_or, Bool.or_false, Bool.or_true, Option.bind_some, Int.zero_add, Int.toNat_natCast, Int.cast_ofNat_Int, Int.natCast_zero, Int.natCast_one, Int.reduceToNat, Int.reducePow, List.all_cons, List.all_nil, List.any_cons, List.any_nil, id, Bool.not_not, List.length_map, Bool.and_true, Bool.and_false]
  unfold loopX
  rw [loop_none (by simp) fun d hd => ?_]
  · simp -implicitDefEqProofs only [bind_ok, bind_exc, st_ok, st_exc, seq_nx, seq_rt, seq_bk, seq_ct, seq_exc, opt_s, lift_s, map_s, get_0, get_s, put_0, put_s, run_eq, fin_nx, fin_rt, fin_exc, d_un, d_own, f_own, d_non, f_non, er_non, d_bl, f_bl, er_bl, d_int, f_int, er_int, d_str, f_str, er_str, d_lst, f_lst, er_lst, d_tup, f_tup, er_tup, d_dct, f_dct, er_dct, d_scr, f_scr, er_scr, d_ty, f_ty, er_ty, d_cls, f_cls, er_cls, b1_con, b2_con, bL_con, b1_glb, b2_glb, bL_glb, b1_bin, b2_bin, bL_bin, b1_neg, b2_neg, bL_neg, b1_not, b2_not, bL_not, b1_and, b2_and, bL_and, b1_or, b2_or, bL_or, b1_cmp, b2_cmp, bL_cmp, b1_chain, b2_chain, bL_chain, b1_ite, b2_ite, bL_ite, b1_tup, b2_tup, bL_tup, b1_lst, b2_lst, bL_lst, b1_dct, b2_dct, bL_dct, b1_idx, b2_idx, bL_idx, b1_slc, b2_slc, bL_slc, b1_call, b2_call, bL_call, b1_bi, b2_bi, bL_bi, b1_comp, b2_comp, bL_comp, b1_pop, b2_pop, bL_pop, b1_meth, b2_meth, bL_meth, b1_efld, b2_efld, bL_efld, b1_eisi, b2_eisi, bL_eisi, b1_var, b2_var, bL_var, isi_int_non, isi_int_bl, isi_int_int, isi_int_str, isi_int_lst, isi_int_tup, isi_int_dct, isi_bool_non, isi_bool_bl, isi_bool_int, isi_bool_str, isi_bool_lst, isi_bool_tup, isi_bool_dct, isi_str_non, isi_str_bl, isi_str_int, isi_str_str, isi_str_lst, isi_str_tup, isi_str_dct, isi_list_non, isi_list_bl, isi_list_int, isi_list_str, isi_list_lst, isi_list_tup, isi_list_dct, isi_tuple_non, isi_tuple_bl, isi_tuple_int, isi_tuple_str, isi_tuple_lst, isi_tuple_tup, isi_tuple_dct, isi_dict_non, isi_dict_bl, isi_dict_int, isi_dict_str, isi_dict_lst, isi_dict_tup, isi_dict_dct, bf_int, bf_intb, bf_abs, bf_lenl, bf_lent, bf_lens, bf_lend, bf_min2, bf_max2, bf_sum, bf_tup, bf_tupt, bf_lst, bf_lstt, bo_add, bo_sub, bo_mul, bo_mod, bo_fdiv, bo_pow, bo_addl, co_lt, co_le, co_gt, co_ge, co_eqi, co_nei, co_eqs, eq_strs, co_is, co_isnot, ix_l, ix_t, tr_bl, tr_int, at_nat, sm_ni, sm_nn, sm_ti, sm_tt, sm_nt, sm_ns, sm_ts, sm_bb, sm_bn, sm_nl, sm_tl, sm_nb, sm_nd, sm_td, ranged_len, lim_lit, asgs_nil, asgs_cons, pat_1, pat_t, forK_nx, forK_ct, forK_bk, forK_rt, forK_exc, forL_nil, forL_cons, it_l, it_t, it_s, ol_l, ow_, mut_l, mut_d, fr_lst, fr_comp, fr_bin, fr_dct, sk_nx, sk_rt, sk_bk, sk_ct, sk_exc, ik_ok, ik_exc, fx_nil, fx_cons, fy_nx, fy_ct, fy_bk, fy_rt, fy_exc, tk_nx, tk_rt, tk_bk, tk_ct, tk_e0, tk_e1, w_skip, w_seq, w_set, w_setO, w_unpack, ak_, w_app, w_put, ps_l, ps_d, pl_i, w_aug, ag_add, ag_sub, w_expr, rv_fz, rv_own, w_ret_var, w_retN, w_ite, w_for, w_while, w_brk, w_cnt, w_raise, w_try, w_frz, e_con, e_var, e_glb, e_bin, e_neg, e_not, e_and, e_or, e_cmp, e_chain, e_ite, e_tup, e_lst, e_dct, e_idx, e_slc, ck_ret, ck_exc, e_call, e_bi1, e_bi2, e_comp, lx_nil, e_efld, e_eisi, nil_e, sub_n, sub_s, gone_rt, gone_nx, hush_nx, hush_rt, lt_lit, xr_con, xr_glb, xr_bin, xr_neg, xr_not, xr_and, xr_or, xr_cmp, xr_chain, xr_ite, xr_tup, xr_lst, xr_dct, xr_idx, xr_slc, xr_call, xr_bi, xr_comp, xr_pop, xr_efld, xr_eisi, at_k0, at_k1, at_k2, at_k3, at_k4, at_k5, at_k6, at_k7, at_k8, at_k9, at_k10, at_k11, at_k12, at_k13, at_k14, at_k15, at_k16, at_k17, at_k18, at_k19, at_k20, or_s, lx_cons, ly_some, ly_none, tx_, op_nil, op_cons, we_nil, we_cons, sp_nil, sp_cons, rp_nil, rp_cons, rg_0, rg_1, rg_2, rg_3, rg_4, rg_5, bls_n, bls_c, ints_n, ints_c, bf_all, bf_any, bf_gcd, bm_var, bn_, bm_lst, e_meth, my_ixl, mf_ix, xr_meth, bf_isqrt, bf_lr1, bf_lr2, bf_min1, bf_max1, mk_c, xk_c, asg_nil, evL, evC, evP, evI, List.map, List.length_cons, List.length_nil, List.cons_append, List.nil_append, List.replicate, if_true, reduceIte, Nat.sub_self, Nat.reduceAdd, Nat.reduceSub, Nat.reduceLT, Bool.false_eq_true, if_false, Bool.not_false, Bool.not_true, Bool.false_and, Bool.true_and, Option.isNone_some, Option.map_some, Nat.reduceEqDiff, Nat.zero_add, Nat.add_zero, Nat.reduceLeDiff, Int.reduceLT, Int.reduceLE, Int.reduceMod, Int.reduceAdd, Int.reduceSub, Int.reduceNeg, Int.reduceMul, Int.reduceBEq, decide_true, decide_false, bne_self_eq_false, BEq.rfl, and_self, Bool.false_or, Bool.true_or, Bool.or_false, Bool.or_true, Option.bind_some, Int.zero_add, Int.toNat_natCast, Int.cast_ofNat_Int, Int.natCast_zero, Int.natCast_one, Int.reduceToNat, Int.reducePow, List.all_cons, List.all_nil, List.any_cons, List.any_nil, id, Bool.not_not, List.length_map, Bool.and_true, Bool.and_false]
  · obtain ⟨i, hi, rfl⟩ := mem_ranged hd
    have h4 : l[i]? = some l[i] := List.getElem?_eq_getElem hi
    have h5 := h l[i] (List.getElem_mem hi)
    simp -implicitDefEqProofs only [h4, h5, bind_ok, bind_exc, st_ok, st_exc, seq_nx, seq_rt, seq_bk, seq_ct, seq_exc, opt_s, lift_s, map_s, get_0, get_s, put_0, put_s, run_eq, fin_nx, fin_rt, fin_exc, d_un, d_own, f_own, d_non, f_non, er_non, d_bl, f_bl, er_bl, d_int, f_int, er_int, d_str, f_str, er_str, d_lst, f_lst, er_lst, d_tup, f_tup, er_tup, d_dct, f_dct, er_dct, d_scr, f_scr, er_scr, d_ty, f_ty, er_ty, d_cls, f_cls, er_cls, b1_con, b2_con, bL_con, b1_glb, b2_glb, bL_glb, b1_bin, b2_bin, bL_bin, b1_neg, b2_neg, bL_neg, b1_not, b2_not, bL_not, b1_and, b2_and, bL_and, b1_or, b2_or, bL_or, b1_cmp, b2_cmp, bL_cmp, b1_chain, b2_chain, bL_chain, b1_ite, b2_ite, bL_ite, b1_tup, b2_tup, bL_tup, b1_lst, b2_lst, bL_lst, b1_dct, b2_dct, bL_dct, b1_idx, b2_idx, bL_idx, b1_slc, b2_slc, bL_slc, b1_call, b2_call, bL_call, b1_bi, b2_bi, bL_bi, b1_comp, b2_comp, bL_comp, b1_pop, b2_pop, bL_pop, b1_meth, b2_meth, bL_meth, b1_efld, b2_efld, bL_efld, b1_eisi, b2_eisi, bL_eisi, b1_var, b2_var, bL_var, isi_int_non, isi_int_bl, isi_int_int, isi_int_str, isi_int_lst, isi_int_tup, isi_int_dct, isi_bool_non, isi_bool_bl, isi_bool_int, isi_bool_str, isi_bool_lst, isi_bool_tup, isi_bool_dct, isi_str_non, isi_str_bl, isi_str_int, isi_str_str, isi_str_lst, isi_str_tup, isi_str_dct, isi_list_non, isi_list_bl, isi_list_int, isi_list_str, isi_list_lst, isi_list_tup, isi_list_dct, isi_tuple_non, isi_tuple_bl, isi_tuple_int, isi_tuple_str, isi_tuple_lst, isi_tuple_tup, isi_tuple_dct, isi_dict_non, isi_dict_bl, isi_dict_int, isi_dict_str, isi_dict_lst, isi_dict_tup, isi_dict_dct, bf_int, bf_intb, bf_abs, bf_lenl, bf_lent, bf_lens, bf_lend, bf_min2, bf_max2, bf_sum, bf_tup, bf_tupt, bf_lst, bf_lstt, bo_add, bo_sub, bo_mul, bo_mod, bo_fdiv, bo_pow, bo_addl, co_lt, co_le, co_gt, co_ge, co_eqi, co_nei, co_eqs, eq_strs, co_is, co_isnot, ix_l, ix_t, tr_bl, tr_int, at_nat, sm_ni, sm_nn, sm_ti, sm_tt, sm_nt, sm_ns, sm_ts, sm_bb, sm_bn, sm_nl, sm_tl, sm_nb, sm_nd, sm_td, ranged_len, lim_lit, asgs_nil, asgs_cons, pat_1, pat_t, forK_nx, forK_ct, forK_bk, forK_rt, forK_exc, forL_nil, forL_cons, it_l, it_t, it_s, ol_l, ow_, mut_l, mut_d, fr_lst, fr_comp, fr_bin, fr_dct, sk_nx, sk_rt, sk_bk, sk_ct, sk_exc, ik_ok, ik_exc, fx_nil, fx_cons, fy_nx, fy_ct, fy_bk, fy_rt, fy_exc, tk_nx, tk_rt, tk_bk, tk_ct, tk_e0, tk_e1, w_skip, w_seq, w_set, w_setO, w_unpack, ak_, w_app, w_put, ps_l, ps_d, pl_i, w_aug, ag_add, ag_sub, w_expr, rv_fz, rv_own, w_ret_var, w_retN, w_ite, w_for, w_while, w_brk, w_cnt, w_raise, w_try, w_frz, e_con, e_var, e_glb, e_bin, e_neg, e_not, e_and, e_or, e_cmp, e_chain, e_ite, e_tup, e_lst, e_dct, e_idx, e_slc, ck_ret, ck_exc, e_call, e_bi1, e_bi2, e_comp, lx_nil, e_efld, e_eisi, nil_e, sub_n, sub_s, gone_rt, gone_nx, hush_nx, hush_rt, lt_lit, xr_con, xr_glb, xr_bin, xr_neg, xr_not, xr_and, xr_or, xr_cmp, xr_chain, xr_ite, xr_tup, xr_lst, xr_dct, xr_idx, xr_slc, xr_call, xr_bi, xr_comp, xr_pop, xr_efld, xr_eisi, at_k0, at_k1, at_k2, at_k3, at_k4, at_k5, at_k6, at_k7, at_k8, at_k9, at_k10, at_k11, at_k12, at_k13, at_k14, at_k15, at_k16, at_k17, at_k18, at_k19, at_k20, or_s, lx_cons, ly_some, ly_none, tx_, op_nil, op_cons, we_nil, we_cons, sp_nil, sp_cons, rp_nil, rp_cons, rg_0, rg_1, rg_2, rg_3, rg_4, rg_5, bls_n, bls_c, ints_n, ints_c, bf_all, bf_any, bf_gcd, bm_var, bn_, bm_lst, e_meth, my_ixl, mf_ix, xr_meth, bf_isqrt, bf_lr1, bf_lr2, bf_min1, bf_max1, mk_c, xk_c, asg_nil, evL, evC, evP, evI, List.map, List.length_cons, List.length_nil, List.cons_append, List.nil_append, List.replicate, if_true, reduceIte, Nat.sub_self, Nat.reduceAdd, Nat.reduceSub, Nat.reduceLT, Bool.false_eq_true, if_false, Bool.not_false, Bool.not_true, Bool.false_and, Bool.true_and, Option.isNone_some, Option.map_some, Nat.reduceEqDiff, Nat.zero_add, Nat.add_zero, Nat.reduceLeDiff, Int.reduceLT, Int.reduceLE, Int.reduceMod, Int.reduceAdd, Int.reduceSub, Int.reduceNeg, Int.reduceMul, Int.reduceBEq, decide_true, decide_false, bne_self_eq_false, BEq.rfl, and_self, Bool.false_or, Bool.true_or, Bool.or_false, Bool.or_true, Option.bind_some, Int.zero_add, Int.toNat_natCast, Int.cast_ofNat_Int, Int.natCast_zero, Int.natCast_one, Int.reduceToNat, Int.reducePow, List.all_cons, List.all_nil, List.any_cons, List.any_nil, id, Bool.not_not, List.length_map, Bool.and_true, Bool.and_false]
theorem c_same : ∀ (m : Nat) (d : D), smD m d = true → ∀ n, callF G (n + m + 1) 26 [d, d] = .ret (.bl true)
  | 0, d, h, n => by
    cases d <;> first | (cases h; done) | skip
    · rfl
    · rename_i b; cases b <;> rfl
    · exact c_same_int _
    · exact c_same_str _
  | m + 1, d, h, n => by
    cases d <;> first | (cases h; done) | skip
    · rfl
    · rename_i b; cases b <;> rfl
    · exact c_same_int _
    · exact c_same_str _
    · rename_i l
      have h : (decide (l.length ≤ 1000) && l.all (smD m)) = true := h
      simp only [Bool.and_eq_true, decide_eq_true_eq, List.all_eq_true] at h
      exact c_same_tup l h.1 (fun d hd => c_same m d (h.2 d hd) n) fun d hd => sm_err (h.2 d hd)
theorem log2_le {i : Int} {b : Nat} (h : i.natAbs < 2 ^ b) : i.natAbs.log2 ≤ b := by
  by_cases h0 : i.natAbs = 0
  · rw [h0]; exact Nat.zero_le _
  · have := (Nat.log2_lt h0).mpr h
    omega
theorem mul_ok {i j : Int} (a b : Nat) (h1 : i.natAbs < 2 ^ a) (h2 : j.natAbs < 2 ^ b) (h : a + b < 134217000) : mulOk i j = true := by
  unfold mulOk
  have := log2_le h1
  have := log2_le h2
  exact decide_eq_true (by omega)
def sm (a : Nat) (i : Int) : Prop := i.natAbs < 2 ^ a
theorem sm.mono {a b : Nat} {i : Int} (h : sm a i) (hb : a ≤ b) : sm b i := Nat.lt_of_lt_of_le h (Nat.pow_le_pow_right (by decide) hb)
theorem sm.mul {a b : Nat} {i j : Int} (h1 : sm a i) (h2 : sm b j) : sm (a + b) (i * j) := by
  unfold sm at *
  rw [Int.natAbs_mul, Nat.pow_add]
  exact Nat.mul_lt_mul'' h1 h2
theorem mulS {a b : Nat} {i j : Int} (h1 : sm a i) (h2 : sm b j) (h : a + b < 134217000 := by decide) : mulOk i j = true := mul_ok a b h1 h2 h
theorem lit (i : Int) (a : Nat) (h : i.natAbs < 2 ^ a := by decide) : sm a i := h
/-- the row's numbers lie below their limits -/
def RL : List Int → List Int → Prop
  | [], [] => True
  | r :: rs, l :: ls => (0 ≤ r ∧ r < l) ∧ RL rs ls
  | _, _ => False
def okLims (ls : List Int) : Prop := ∀ l ∈ ls, 0 < l ∧ l.natAbs < 2 ^ 200
theorem divL {l : Int} (h : 0 < l ∧ l.natAbs < 2 ^ 200) : divOk l = true := by
  unfold divOk
  have := log2_le h.2
  rw [decide_eq_true h.1, decide_eq_true (by omega)]; rfl
def body1 : S := (.seq (.app 3 (.bin .mod (.bi .int (.cons (.var 4) .nil)) (.var 5)))
(.seq (.set 4 (.bin .fdiv (.var 4) (.var 5)))
.skip))
def body2 : S := (.seq (.set 4 (.bin .mod (.bi .int (.cons (.bin .add (.bin .add (.bin .mul (.var 4) (.con (.int 48271))) (.bin .fdiv (.var 4) (.con (.int 127)))) (.con (.int 7))) .nil)) (.con (.int 2147483647))))
(.seq (.set 6 (.bin .fdiv (.var 4) (.con (.int 8))))
(.seq (.ite (.tst (.cmp .gt (.var 5) (.bin .pow (.con (.int 10)) (.con (.int 6)))))
(.seq (.set 6 (.bin .mul (.bin .mul (.var 6) (.var 4)) (.var 4)))
.skip)
.skip)
(.seq (.app 3 (.bin .mod (.bi .int (.cons (.var 6) .nil)) (.var 5)))
.skip))))
theorem row1 (call : Nat → List D → CRes) (s0 s1 s2 x6 : Sl) : ∀ (ls : List Int) (acc : List D) (r : Int) (x5 : Sl), okLims ls → 0 ≤ r → acc.length + ls.length ≤ 100 → ∃ rs r' x', forX G call [] false [5] false body1 (ls.map .int) [s0, s1, s2, .own (.lst acc), .fz (.int r), x5, x6] = .nx [s0, s1, s2, .own (.lst (acc ++ rs.map .int)), .fz (.int r'), x', x6] ∧ RL rs ls
  | [], acc, r, x5, h, h0, hl => ⟨[], r, x5, by simp only [List.map_nil, List.append_nil]; rfl, trivial⟩
  | l :: ls, acc, r, x5, h, h0, hl => by
    have hl0 := h l List.mem_cons_self
    simp only [List.length_cons] at hl
    have h3 : acc.length < lim := by rw [lt_lit (by omega)]; trivial
    obtain ⟨rs, r', x', h1, h2⟩ := row1 call s0 s1 s2 x6 ls (acc ++ [.int (r % l)]) (r / l) (.fz (.int l)) (fun q hq => h q (List.mem_cons_of_mem _ hq)) (Int.ediv_nonneg h0 (by omega)) (by simp; omega)
    refine ⟨r % l :: rs, r', x', ?_, ⟨Int.emod_nonneg _ (by omega), Int.emod_lt_of_pos _ hl0.1⟩, h2⟩
    simp only [body1] at h1
    simp -implicitDefEqProofs only [List.map_cons, body1, hl0.1, divL hl0, h3, h1, List.append_assoc, bind_ok, bind_exc, st_ok, st_exc, seq_nx, seq_rt, seq_bk, seq_ct, seq_exc, opt_s, lift_s, map_s, get_0, get_s, put_0, put_s, run_eq, fin_nx, fin_rt, fin_exc, d_un, d_own, f_own, d_non, f_non, er_non, d_bl, f_bl, er_bl, d_int, f_int, er_int, d_str, f_str, er_str, d_lst, f_lst, er_lst, d_tup, f_tup, er_tup, d_dct, f_dct, er_dct, d_scr, f_scr, er_scr, d_ty, f_ty, er_ty, d_cls, f_cls, er_cls, b1_con, b2_con, bL_con, b1_glb, b2_glb, bL_glb, b1_bin, b2_bin, bL_bin, b1_neg, b2_neg, bL_neg, b1_not, b2_not, bL_not, b1_and, b2_and, bL_and, b1_or, b2_or, bL_or, b1_cmp, b2_cmp, bL_cmp, b1_chain, b2_chain, bL_chain, b1_ite, b2_ite, bL_ite, b1_tup, b2_tup, bL_tup, b1_lst, b2_lst, bL_lst, b1_dct, b2_dct, bL_dct, b1_idx, b2_idx, bL_idx, b1_slc, b2_slc, bL_slc, b1_call, b2_call, bL_call, b1_bi, b2_bi, bL_bi, b1_comp, b2_comp, bL_comp, b1_pop, b2_pop, bL_pop, b1_meth, b2_meth, bL_meth, b1_efld, b2_efld, bL_efld, b1_eisi, b2_eisi, bL_eisi, b1_var, b2_var, bL_var, isi_int_non, isi_int_bl, isi_int_int, isi_int_str, isi_int_lst, isi_int_tup, isi_int_dct, isi_bool_non, isi_bool_bl, isi_bool_int, isi_bool_str, isi_bool_lst, isi_bool_tup, isi_bool_dct, isi_str_non, isi_str_bl, isi_str_int, isi_str_str, isi_str_lst, isi_str_tup, isi_str_dct, isi_list_non, isi_list_bl, isi_list_int, isi_list_str, isi_list_lst, isi_list_tup, isi_list_dct, isi_tuple_non, isi_tuple_bl, isi_tuple_int, isi_tuple_str, isi_tuple_lst, isi_tuple_tup, isi_tuple_dct, isi_dict_non, isi_dict_bl, isi_dict_int, isi_dict_str, isi_dict_lst, isi_dict_tup, isi_dict_dct, bf_int, bf_intb, bf_abs, bf_lenl, bf_lent, bf_lens, bf_lend, bf_min2, bf_max2, bf_sum, bf_tup, bf_tupt, bf_lst, bf_lstt, bo_add, bo_sub, bo_mul, bo_mod, bo_fdiv, bo_pow, bo_addl, co_lt, co_le, co_gt, co_ge, co_eqi, co_nei, co_eqs, eq_strs, co_is, co_isnot, ix_l, ix_t, tr_bl, tr_int, at_nat, sm_ni, sm_nn, sm_ti, sm_tt, sm_nt, sm_ns, sm_ts, sm_bb, sm_bn, sm_nl, sm_tl, sm_nb, sm_nd, sm_td, ranged_len, lim_lit, asgs_nil, asgs_cons, pat_1, pat_t, forK_nx, forK_ct, forK_bk, forK_rt, forK_exc, forL_nil, forL_cons, it_l, it_t, it_s, ol_l, ow_, mut_l, mut_d, fr_lst, fr_comp, fr_bin, fr_dct, sk_nx, sk_rt, sk_bk, sk_ct, sk_exc, ik_ok, ik_exc, fx_nil, fx_cons, fy_nx, fy_ct, fy_bk, fy_rt, fy_exc, tk_nx, tk_rt, tk_bk, tk_ct, tk_e0, tk_e1, w_skip, w_seq, w_set, w_setO, w_unpack, ak_, w_app, w_put, ps_l, ps_d, pl_i, w_aug, ag_add, ag_sub, w_expr, rv_fz, rv_own, w_ret_var, w_retN, w_ite, w_for, w_while, w_brk, w_cnt, w_raise, w_try, w_frz, e_con, e_var, e_glb, e_bin, e_neg, e_not, e_and, e_or, e_cmp, e_chain, e_ite, e_tup, e_lst, e_dct, e_idx, e_slc, ck_ret, ck_exc, e_call, e_bi1, e_bi2, e_comp, lx_nil, e_efld, e_eisi, nil_e, sub_n, sub_s, gone_rt, gone_nx, hush_nx, hush_rt, lt_lit, xr_con, xr_glb, xr_bin, xr_neg, xr_not, xr_and, xr_or, xr_cmp, xr_chain, xr_ite, xr_tup, xr_lst, xr_dct, xr_idx, xr_slc, xr_call, xr_bi, xr_comp, xr_pop, xr_efld, xr_eisi, at_k0, at_k1, at_k2, at_k3, at_k4, at_k5, at_k6, at_k7, at_k8, at_k9, at_k10, at_k11, at_k12, at_k13, at_k14, at_k15, at_k16, at_k17, at_k18, at_k19, at_k20, or_s, lx_cons, ly_some, ly_none, tx_, op_nil, op_cons, we_nil, we_cons, sp_nil, sp_cons, rp_nil, rp_cons, rg_0, rg_1, rg_2, rg_3, rg_4, rg_5, bls_n, bls_c, ints_n, ints_c, bf_all, bf_any, bf_gcd, bm_var, bn_, bm_lst, e_meth, my_ixl, mf_ix, xr_meth, bf_isqrt, bf_lr1, bf_lr2, bf_min1, bf_max1, mk_c, xk_c, asg_nil, evL, evC, evP, evI, List.map, List.length_cons, List.length_nil, List.cons_append, List.nil_append, List.replicate, if_true, reduceIte, Nat.sub_self, Nat.reduceAdd, Nat.reduceSub, Nat.reduceLT, Bool.false_eq_true, if_false, Bool.not_false, Bool.not_true, Bool.false_and, Bool.true_and, Option.isNone_some, Option.map_some, Nat.reduceEqDiff, Nat.zero_add, Nat.add_zero, Nat.reduceLeDiff, Int.reduceLT, Int.reduceLE, Int.reduceMod, Int.reduceAdd, Int.reduceSub, Int.reduceNeg, Int.reduceMul, Int.reduceBEq, decide_true, decide_false, bne_self_eq_false, BEq.rfl, and_self, Bool.false_or, Bool.true_or, Bool.or_false, Bool.or_true, Option.bind_some, Int.zero_add, Int.toNat_natCast, Int.cast_ofNat_Int, Int.natCast_zero, Int.natCast_one, Int.reduceToNat, Int.reducePow, List.all_cons, List.all_nil, List.any_cons, List.any_nil, id, Bool.not_not, List.length_map, Bool.and_true, Bool.and_false]
theorem m48 {r : Int} (h0 : 0 ≤ r) (h1 : r < 2147483647) : mulOk r 48271 = true := mulS (a := 31) (b := 16) (by unfold sm; omega) (lit _ _)
theorem row2 (call : Nat → List D → CRes) (s0 s1 s2 : Sl) : ∀ (ls : List Int) (acc : List D) (r : Int) (x5 x6 : Sl), okLims ls → 0 ≤ r → r < 2147483647 → acc.length + ls.length ≤ 100 → ∃ rs r' x' x2, forX G call [] false [5] false body2 (ls.map .int) [s0, s1, s2, .own (.lst acc), .fz (.int r), x5, x6] = .nx [s0, s1, s2, .own (.lst (acc ++ rs.map .int)), .fz (.int r'), x', x2] ∧ RL rs ls
  | [], acc, r, x5, x6, h, h0, h01, hl => ⟨[], r, x5, x6, by simp only [List.map_nil, List.append_nil]; rfl, trivial⟩
  | l :: ls, acc, r, x5, x6, h, h0, h01, hl => by
    have hl0 := h l List.mem_cons_self
    simp only [List.length_cons] at hl
    have h3 : acc.length < lim := by rw [lt_lit (by omega)]; trivial
    have d127 : divOk 127 = true := by decide
    have d8 : divOk 8 = true := by decide
    have p6 : powOk 10 6 = true := by decide
    have q0 : 0 ≤ (r * 48271 + r / 127 + 7) % 2147483647 := by omega
    have q1 : (r * 48271 + r / 127 + 7) % 2147483647 < 2147483647 := by omega
    have m1 := m48 h0 h01
    generalize hq : (r * 48271 + r / 127 + 7) % 2147483647 = q at q0 q1
    have s1' : sm 31 q := by unfold sm; omega
    have s2' : sm 31 (q / 8) := by unfold sm; omega
    have m2 := mulS s2' s1'
    have m3 := mulS (s2'.mul s1') s1'
    by_cases big : 1000000 < l
    · obtain ⟨rs, r', x', x2, h1, h2⟩ := row2 call s0 s1 s2 ls (acc ++ [.int ((q / 8 * q * q) % l)]) q (.fz (.int l)) (.fz (.int (q / 8 * q * q))) (fun q hq => h q (List.mem_cons_of_mem _ hq)) q0 q1 (by simp; omega)
      refine ⟨(q / 8 * q * q) % l :: rs, r', x', x2, ?_, ⟨Int.emod_nonneg _ (by omega), Int.emod_lt_of_pos _ hl0.1⟩, h2⟩
      simp only [body2] at h1
      simp -implicitDefEqProofs only [List.map_cons, body2, hl0.1, d127, d8, p6, m1, m2, m3, hq, Int.reduceToNat, Int.reducePow, big, divL hl0, h3, h1, List.append_assoc, bind_ok, bind_exc, st_ok, st_exc, seq_nx, seq_rt, seq_bk, seq_ct, seq_exc, opt_s, lift_s, map_s, get_0, get_s, put_0, put_s, run_eq, fin_nx, fin_rt, fin_exc, d_un, d_own, f_own, d_non, f_non, er_non, d_bl, f_bl, er_bl, d_int, f_int, er_int, d_str, f_str, er_str, d_lst, f_lst, er_lst, d_tup, f_tup, er_tup, d_dct, f_dct, er_dct, d_scr, f_scr, er_scr, d_ty, f_ty, er_ty, d_cls, f_cls, er_cls, b1_con, b2_con, bL_con, b1_glb, b2_glb, bL_glb, b1_bin, b2_bin, bL_bin, b1_neg, b2_neg, bL_neg, b1_not, b2_not, bL_not, b1_and, b2_and, bL_and, b1_or, b2_or, bL_or, b1_cmp, b2_cmp, bL_cmp, b1_chain, b2_chain, bL_chain, b1_ite, b2_ite, bL_ite, b1_tup, b2_tup, bL_tup, b1_lst, b2_lst, bL_lst, b1_dct, b2_dct, bL_dct, b1_idx, b2_idx, bL_idx, b1_slc, b2_slc, bL_slc, b1_call, b2_call, bL_call, b1_bi, b2_bi, bL_bi, b1_comp, b2_comp, bL_comp, b1_pop, b2_pop, bL_pop, b1_meth, b2_meth, bL_meth, b1_efld, b2_efld, bL_efld, b1_eisi, b2_eisi, bL_eisi, b1_var, b2_var, bL_var, isi_int_non, isi_int_bl, isi_int_int, isi_int_str, isi_int_lst, isi_int_tup, isi_int_dct, isi_bool_non, isi_bool_bl, isi_bool_int, isi_bool_str, isi_bool_lst, isi_bool_tup, isi_bool_dct, isi_str_non, isi_str_bl, isi_str_int, isi_str_str, isi_str_lst, isi_str_tup, isi_str_dct, isi_list_non, isi_list_bl, isi_list_int, isi_list_str, isi_list_lst, isi_list_tup, isi_list_dct, isi_tuple_non, isi_tuple_bl, isi_tuple_int, isi_tuple_str, isi_tuple_lst, isi_tuple_tup, isi_tuple_dct, isi_dict_non, isi_dict_bl, isi_dict_int, isi_dict_str, isi_dict_lst, isi_dict_tup, isi_dict_dct, bf_int, bf_intb, bf_abs, bf_lenl, bf_lent, bf_lens, bf_lend, bf_min2, bf_max2, bf_sum, bf_tup, bf_tupt, bf_lst, bf_lstt, bo_add, bo_sub, bo_mul, bo_mod, bo_fdiv, bo_pow, bo_addl, co_lt, co_le, co_gt, co_ge, co_eqi, co_nei, co_eqs, eq_strs, co_is, co_isnot, ix_l, ix_t, tr_bl, tr_int, at_nat, sm_ni, sm_nn, sm_ti, sm_tt, sm_nt, sm_ns, sm_ts, sm_bb, sm_bn, sm_nl, sm_tl, sm_nb, sm_nd, sm_td, ranged_len, lim_lit, asgs_nil, asgs_cons, pat_1, pat_t, forK_nx, forK_ct, forK_bk, forK_rt, forK_exc, forL_nil, forL_cons, it_l, it_t, it_s, ol_l, ow_, mut_l, mut_d, fr_lst, fr_comp, fr_bin, fr_dct, sk_nx, sk_rt, sk_bk, sk_ct, sk_exc, ik_ok, ik_exc, fx_nil, fx_cons, fy_nx, fy_ct, fy_bk, fy_rt, fy_exc, tk_nx, tk_rt, tk_bk, tk_ct, tk_e0, tk_e1, w_skip, w_seq, w_set, w_setO, w_unpack, ak_, w_app, w_put, ps_l, ps_d, pl_i, w_aug, ag_add, ag_sub, w_expr, rv_fz, rv_own, w_ret_var, w_retN, w_ite, w_for, w_while, w_brk, w_cnt, w_raise, w_try, w_frz, e_con, e_var, e_glb, e_bin, e_neg, e_not, e_and, e_or, e_cmp, e_chain, e_ite, e_tup, e_lst, e_dct, e_idx, e_slc, ck_ret, ck_exc, e_call, e_bi1, e_bi2, e_comp, lx_nil, e_efld, e_eisi, nil_e, sub_n, sub_s, gone_rt, gone_nx, hush_nx, hush_rt, lt_lit, xr_con, xr_glb, xr_bin, xr_neg, xr_not, xr_and, xr_or, xr_cmp, xr_chain, xr_ite, xr_tup, xr_lst, xr_dct, xr_idx, xr_slc, xr_call, xr_bi, xr_comp, xr_pop, xr_efld, xr_eisi, at_k0, at_k1, at_k2, at_k3, at_k4, at_k5, at_k6, at_k7, at_k8, at_k9, at_k10, at_k11, at_k12, at_k13, at_k14, at_k15, at_k16, at_k17, at_k18, at_k19, at_k20, or_s, lx_cons, ly_some, ly_none, tx_, op_nil, op_cons, we_nil, we_cons, sp_nil, sp_cons, rp_nil, rp_cons, rg_0, rg_1, rg_2, rg_3, rg_4, rg_5, bls_n, bls_c, ints_n, ints_c, bf_all, bf_any, bf_gcd, bm_var, bn_, bm_lst, e_meth, my_ixl, mf_ix, xr_meth, bf_isqrt, bf_lr1, bf_lr2, bf_min1, bf_max1, mk_c, xk_c, asg_nil, evL, evC, evP, evI, List.map, List.length_cons, List.length_nil, List.cons_append, List.nil_append, List.replicate, if_true, reduceIte, Nat.sub_self, Nat.reduceAdd, Nat.reduceSub, Nat.reduceLT, Bool.false_eq_true, if_false, Bool.not_false, Bool.not_true, Bool.false_and, Bool.true_and, Option.isNone_some, Option.map_some, Nat.reduceEqDiff, Nat.zero_add, Nat.add_zero, Nat.reduceLeDiff, Int.reduceLT, Int.reduceLE, Int.reduceMod, Int.reduceAdd, Int.reduceSub, Int.reduceNeg, Int.reduceMul, Int.reduceBEq, decide_true, decide_false, bne_self_eq_false, BEq.rfl, and_self, Bool.false_or, Bool.true_or, Bool.or_false, Bool.or_true, Option.bind_some, Int.zero_add, Int.toNat_natCast, Int.cast_ofNat_Int, Int.natCast_zero, Int.natCast_one, Int.reduceToNat, Int.reducePow, List.all_cons, List.all_nil, List.any_cons, List.any_nil, id, Bool.not_not, List.length_map, Bool.and_true, Bool.and_false]
    · obtain ⟨rs, r', x', x2, h1, h2⟩ := row2 call s0 s1 s2 ls (acc ++ [.int ((q / 8) % l)]) q (.fz (.int l)) (.fz (.int (q / 8))) (fun q hq => h q (List.mem_cons_of_mem _ hq)) q0 q1 (by simp; omega)
      refine ⟨(q / 8) % l :: rs, r', x', x2, ?_, ⟨Int.emod_nonneg _ (by omega), Int.emod_lt_of_pos _ hl0.1⟩, h2⟩
      simp only [body2] at h1
      simp -implicitDefEqProofs only [List.map_cons, body2, hl0.1, d127, d8, p6, m1, m2, m3, hq, Int.reduceToNat, Int.reducePow, big, divL hl0, h3, h1, List.append_assoc, bind_ok, bind_exc, st_ok, st_exc, seq_nx, seq_rt, seq_bk, seq_ct, seq_exc, opt_s, lift_s, map_s, get_0, get_s, put_0, put_s, run_eq, fin_nx, fin_rt, fin_exc, d_un, d_own, f_own, d_non, f_non, er_non, d_bl, f_bl, er_bl, d_int, f_int, er_int, d_str, f_str, er_str, d_lst, f_lst, er_lst, d_tup, f_tup, er_tup, d_dct, f_dct, er_dct, d_scr, f_scr, er_scr, d_ty, f_ty, er_ty, d_cls, f_cls, er_cls, b1_con, b2_con, bL_con, b1_glb, b2_glb, bL_glb, b1_bin, b2_bin, bL_bin, b1_neg, b2_neg, bL_neg, b1_not, b2_not, bL_not, b1_and, b2_and, bL_and, b1_or, b2_or, bL_or, b1_cmp, b2_cmp, bL_cmp, b1_chain, b2_chain, bL_chain, b1_ite, b2_ite, bL_ite, b1_tup, b2_tup, bL_tup, b1_lst, b2_lst, bL_lst, b1_dct, b2_dct, bL_dct, b1_idx, b2_idx, bL_idx, b1_slc, b2_slc, bL_slc, b1_call, b2_call, bL_call, b1_bi, b2_bi, bL_bi, b1_comp, b2_comp, bL_comp, b1_pop, b2_pop, bL_pop, b1_meth, b2_meth, bL_meth, b1_efld, b2_efld, bL_efld, b1_eisi, b2_eisi, bL_eisi, b1_var, b2_var, bL_var, isi_int_non, isi_int_bl, isi_int_int, isi_int_str, isi_int_lst, isi_int_tup, isi_int_dct, isi_bool_non, isi_bool_bl, isi_bool_int, isi_bool_str, isi_bool_lst, isi_bool_tup, isi_bool_dct, isi_str_non, isi_str_bl, isi_str_int, isi_str_str, isi_str_lst, isi_str_tup, isi_str_dct, isi_list_non, isi_list_bl, isi_list_int, isi_list_str, isi_list_lst, isi_list_tup, isi_list_dct, isi_tuple_non, isi_tuple_bl, isi_tuple_int, isi_tuple_str, isi_tuple_lst, isi_tuple_tup, isi_tuple_dct, isi_dict_non, isi_dict_bl, isi_dict_int, isi_dict_str, isi_dict_lst, isi_dict_tup, isi_dict_dct, bf_int, bf_intb, bf_abs, bf_lenl, bf_lent, bf_lens, bf_lend, bf_min2, bf_max2, bf_sum, bf_tup, bf_tupt, bf_lst, bf_lstt, bo_add, bo_sub, bo_mul, bo_mod, bo_fdiv, bo_pow, bo_addl, co_lt, co_le, co_gt, co_ge, co_eqi, co_nei, co_eqs, eq_strs, co_is, co_isnot, ix_l, ix_t, tr_bl, tr_int, at_nat, sm_ni, sm_nn, sm_ti, sm_tt, sm_nt, sm_ns, sm_ts, sm_bb, sm_bn, sm_nl, sm_tl, sm_nb, sm_nd, sm_td, ranged_len, lim_lit, asgs_nil, asgs_cons, pat_1, pat_t, forK_nx, forK_ct, forK_bk, forK_rt, forK_exc, forL_nil, forL_cons, it_l, it_t, it_s, ol_l, ow_, mut_l, mut_d, fr_lst, fr_comp, fr_bin, fr_dct, sk_nx, sk_rt, sk_bk, sk_ct, sk_exc, ik_ok, ik_exc, fx_nil, fx_cons, fy_nx, fy_ct, fy_bk, fy_rt, fy_exc, tk_nx, tk_rt, tk_bk, tk_ct, tk_e0, tk_e1, w_skip, w_seq, w_set, w_setO, w_unpack, ak_, w_app, w_put, ps_l, ps_d, pl_i, w_aug, ag_add, ag_sub, w_expr, rv_fz, rv_own, w_ret_var, w_retN, w_ite, w_for, w_while, w_brk, w_cnt, w_raise, w_try, w_frz, e_con, e_var, e_glb, e_bin, e_neg, e_not, e_and, e_or, e_cmp, e_chain, e_ite, e_tup, e_lst, e_dct, e_idx, e_slc, ck_ret, ck_exc, e_call, e_bi1, e_bi2, e_comp, lx_nil, e_efld, e_eisi, nil_e, sub_n, sub_s, gone_rt, gone_nx, hush_nx, hush_rt, lt_lit, xr_con, xr_glb, xr_bin, xr_neg, xr_not, xr_and, xr_or, xr_cmp, xr_chain, xr_ite, xr_tup, xr_lst, xr_dct, xr_idx, xr_slc, xr_call, xr_bi, xr_comp, xr_pop, xr_efld, xr_eisi, at_k0, at_k1, at_k2, at_k3, at_k4, at_k5, at_k6, at_k7, at_k8, at_k9, at_k10, at_k11, at_k12, at_k13, at_k14, at_k15, at_k16, at_k17, at_k18, at_k19, at_k20, or_s, lx_cons, ly_some, ly_none, tx_, op_nil, op_cons, we_nil, we_cons, sp_nil, sp_cons, rp_nil, rp_cons, rg_0, rg_1, rg_2, rg_3, rg_4, rg_5, bls_n, bls_c, ints_n, ints_c, bf_all, bf_any, bf_gcd, bm_var, bn_, bm_lst, e_meth, my_ixl, mf_ix, xr_meth, bf_isqrt, bf_lr1, bf_lr2, bf_min1, bf_max1, mk_c, xk_c, asg_nil, evL, evC, evP, evI, List.map, List.length_cons, List.length_nil, List.cons_append, List.nil_append, List.replicate, if_true, reduceIte, Nat.sub_self, Nat.reduceAdd, Nat.reduceSub, Nat.reduceLT, Bool.false_eq_true, if_false, Bool.not_false, Bool.not_true, Bool.false_and, Bool.true_and, Option.isNone_some, Option.map_some, Nat.reduceEqDiff, Nat.zero_add, Nat.add_zero, Nat.reduceLeDiff, Int.reduceLT, Int.reduceLE, Int.reduceMod, Int.reduceAdd, Int.reduceSub, Int.reduceNeg, Int.reduceMul, Int.reduceBEq, decide_true, decide_false, bne_self_eq_false, BEq.rfl, and_self, Bool.false_or, Bool.true_or, Bool.or_false, Bool.or_true, Option.bind_some, Int.zero_add, Int.toNat_natCast, Int.cast_ofNat_Int, Int.natCast_zero, Int.natCast_one, Int.reduceToNat, Int.reducePow, List.all_cons, List.all_nil, List.any_cons, List.any_nil, id, Bool.not_not, List.length_map, Bool.and_true, Bool.and_false]
theorem c_row (c p : Int) (ls : List Int) (h : okLims ls) (hl : ls.length ≤ 50) (c0 : 0 ≤ c) (cs : sm 1100000 c) (p0 : 0 ≤ p) (p1 : p < 100) : ∃ rs, callF G (n + 1) 25 [.int c, .int p, .lst (ls.map .int)] = .ret (.lst (rs.map .int)) ∧ RL rs ls := by
  have c_1 : ∀ {n : Nat} {as : List D}, callF G (n + 1) 25 as = runDef G (callF G n) d__law_row as := rfl
  have p18 : powOk 10 18 = true := by decide
  by_cases big : 1000000000000000000 ≤ c
  · obtain ⟨rs, r', x', h1, h2⟩ := row1 (callF G n) (.fz (.int c)) (.fz (.int p)) (.fz (.lst (ls.map .int))) .un ls [] (c - 1000000000000000000) .un h (by omega) (by simp; omega)
    simp only [body1] at h1
    refine ⟨rs, ?_, h2⟩
    simp -implicitDefEqProofs only [c_1, d__law_row, b__law_row, p18, Int.reduceToNat, Int.reducePow, big, h1, bind_ok, bind_exc, st_ok, st_exc, seq_nx, seq_rt, seq_bk, seq_ct, seq_exc, opt_s, lift_s, map_s, get_0, get_s, put_0, put_s, run_eq, fin_nx, fin_rt, fin_exc, d_un, d_own, f_own, d_non, f_non, er_non, d_bl, f_bl, er_bl, d_int, f_int, er_int, d_str, f_str, er_str, d_lst, f_lst, er_lst, d_tup, f_tup, er_tup, d_dct, f_dct, er_dct, d_scr, f_scr, er_scr, d_ty, f_ty, er_ty, d_cls, f_cls, er_cls, b1_con, b2_con, bL_con, b1_glb, b2_glb, bL_glb, b1_bin, b2_bin, bL_bin, b1_neg, b2_neg, bL_neg, b1_not, b2_not, bL_not, b1_and, b2_and, bL_and, b1_or, b2_or, bL_or, b1_cmp, b2_cmp, bL_cmp, b1_chain, b2_chain, bL_chain, b1_ite, b2_ite, bL_ite, b1_tup, b2_tup, bL_tup, b1_lst, b2_lst, bL_lst, b1_dct, b2_dct, bL_dct, b1_idx, b2_idx, bL_idx, b1_slc, b2_slc, bL_slc, b1_call, b2_call, bL_call, b1_bi, b2_bi, bL_bi, b1_comp, b2_comp, bL_comp, b1_pop, b2_pop, bL_pop, b1_meth, b2_meth, bL_meth, b1_efld, b2_efld, bL_efld, b1_eisi, b2_eisi, bL_eisi, b1_var, b2_var, bL_var, isi_int_non, isi_int_bl, isi_int_int, isi_int_str, isi_int_lst, isi_int_tup, isi_int_dct, isi_bool_non, isi_bool_bl, isi_bool_int, isi_bool_str, isi_bool_lst, isi_bool_tup, isi_bool_dct, isi_str_non, isi_str_bl, isi_str_int, isi_str_str, isi_str_lst, isi_str_tup, isi_str_dct, isi_list_non, isi_list_bl, isi_list_int, isi_list_str, isi_list_lst, isi_list_tup, isi_list_dct, isi_tuple_non, isi_tuple_bl, isi_tuple_int, isi_tuple_str, isi_tuple_lst, isi_tuple_tup, isi_tuple_dct, isi_dict_non, isi_dict_bl, isi_dict_int, isi_dict_str, isi_dict_lst, isi_dict_tup, isi_dict_dct, bf_int, bf_intb, bf_abs, bf_lenl, bf_lent, bf_lens, bf_lend, bf_min2, bf_max2, bf_sum, bf_tup, bf_tupt, bf_lst, bf_lstt, bo_add, bo_sub, bo_mul, bo_mod, bo_fdiv, bo_pow, bo_addl, co_lt, co_le, co_gt, co_ge, co_eqi, co_nei, co_eqs, eq_strs, co_is, co_isnot, ix_l, ix_t, tr_bl, tr_int, at_nat, sm_ni, sm_nn, sm_ti, sm_tt, sm_nt, sm_ns, sm_ts, sm_bb, sm_bn, sm_nl, sm_tl, sm_nb, sm_nd, sm_td, ranged_len, lim_lit, asgs_nil, asgs_cons, pat_1, pat_t, forK_nx, forK_ct, forK_bk, forK_rt, forK_exc, forL_nil, forL_cons, it_l, it_t, it_s, ol_l, ow_, mut_l, mut_d, fr_lst, fr_comp, fr_bin, fr_dct, sk_nx, sk_rt, sk_bk, sk_ct, sk_exc, ik_ok, ik_exc, fx_nil, fx_cons, fy_nx, fy_ct, fy_bk, fy_rt, fy_exc, tk_nx, tk_rt, tk_bk, tk_ct, tk_e0, tk_e1, w_skip, w_seq, w_set, w_setO, w_unpack, ak_, w_app, w_put, ps_l, ps_d, pl_i, w_aug, ag_add, ag_sub, w_expr, rv_fz, rv_own, w_ret_var, w_retN, w_ite, w_for, w_while, w_brk, w_cnt, w_raise, w_try, w_frz, e_con, e_var, e_glb, e_bin, e_neg, e_not, e_and, e_or, e_cmp, e_chain, e_ite, e_tup, e_lst, e_dct, e_idx, e_slc, ck_ret, ck_exc, e_call, e_bi1, e_bi2, e_comp, lx_nil, e_efld, e_eisi, nil_e, sub_n, sub_s, gone_rt, gone_nx, hush_nx, hush_rt, lt_lit, xr_con, xr_glb, xr_bin, xr_neg, xr_not, xr_and, xr_or, xr_cmp, xr_chain, xr_ite, xr_tup, xr_lst, xr_dct, xr_idx, xr_slc, xr_call, xr_bi, xr_comp, xr_pop, xr_efld, xr_eisi, at_k0, at_k1, at_k2, at_k3, at_k4, at_k5, at_k6, at_k7, at_k8, at_k9, at_k10, at_k11, at_k12, at_k13, at_k14, at_k15, at_k16, at_k17, at_k18, at_k19, at_k20, or_s, lx_cons, ly_some, ly_none, tx_, op_nil, op_cons, we_nil, we_cons, sp_nil, sp_cons, rp_nil, rp_cons, rg_0, rg_1, rg_2, rg_3, rg_4, rg_5, bls_n, bls_c, ints_n, ints_c, bf_all, bf_any, bf_gcd, bm_var, bn_, bm_lst, e_meth, my_ixl, mf_ix, xr_meth, bf_isqrt, bf_lr1, bf_lr2, bf_min1, bf_max1, mk_c, xk_c, asg_nil, evL, evC, evP, evI, List.map, List.length_cons, List.length_nil, List.cons_append, List.nil_append, List.replicate, if_true, reduceIte, Nat.sub_self, Nat.reduceAdd, Nat.reduceSub, Nat.reduceLT, Bool.false_eq_true, if_false, Bool.not_false, Bool.not_true, Bool.false_and, Bool.true_and, Option.isNone_some, Option.map_some, Nat.reduceEqDiff, Nat.zero_add, Nat.add_zero, Nat.reduceLeDiff, Int.reduceLT, Int.reduceLE, Int.reduceMod, Int.reduceAdd, Int.reduceSub, Int.reduceNeg, Int.reduceMul, Int.reduceBEq, decide_true, decide_false, bne_self_eq_false, BEq.rfl, and_self, Bool.false_or, Bool.true_or, Bool.or_false, Bool.or_true, Option.bind_some, Int.zero_add, Int.toNat_natCast, Int.cast_ofNat_Int, Int.natCast_zero, Int.natCast_one, Int.reduceToNat, Int.reducePow, List.all_cons, List.all_nil, List.any_cons, List.any_nil, id, Bool.not_not, List.length_map, Bool.and_true, Bool.and_false]
  · have m0 : mulOk c 69621 = true := mulS cs (lit _ 17)
    have m1 : mulOk 7919 p = true := mulS (a := 13) (b := 7) (lit _ _) (by unfold sm; omega)
    have d127 : divOk 127 = true := by decide
    generalize hq : (c * 69621 + 7919 * p + 101) % 2147483647 = q
    have q0 : 0 ≤ q := by omega
    have q1 : q < 2147483647 := by omega
    have m2 := m48 q0 q1
    generalize hw : (q * 48271 + q / 127 + 7) % 2147483647 = w
    obtain ⟨rs, r', x', x2, h1, h2⟩ := row2 (callF G n) (.fz (.int c)) (.fz (.int p)) (.fz (.lst (ls.map .int))) ls [] w .un .un h (by omega) (by omega) (by simp; omega)
    simp only [body2] at h1
    refine ⟨rs, ?_, h2⟩
    simp -implicitDefEqProofs only [c_1, d__law_row, b__law_row, p18, Int.reduceToNat, Int.reducePow, big, m0, m1, d127, hq, m2, hw, h1, bind_ok, bind_exc, st_ok, st_exc, seq_nx, seq_rt, seq_bk, seq_ct, seq_exc, opt_s, lift_s, map_s, get_0, get_s, put_0, put_s, run_eq, fin_nx, fin_rt, fin_exc, d_un, d_own, f_own, d_non, f_non, er_non, d_bl, f_bl, er_bl, d_int, f_int, er_int, d_str, f_str, er_str, d_lst, f_lst, er_lst, d_tup, f_tup, er_tup, d_dct, f_dct, er_dct, d_scr, f_scr, er_scr, d_ty, f_ty, er_ty, d_cls, f_cls, er_cls, b1_con, b2_con, bL_con, b1_glb, b2_glb, bL_glb, b1_bin, b2_bin, bL_bin, b1_neg, b2_neg, bL_neg, b1_not, b2_not, bL_not, b1_and, b2_and, bL_and, b1_or, b2_or, bL_or, b1_cmp, b2_cmp, bL_cmp, b1_chain, b2_chain, bL_chain, b1_ite, b2_ite, bL_ite, b1_tup, b2_tup, bL_tup, b1_lst, b2_lst, bL_lst, b1_dct, b2_dct, bL_dct, b1_idx, b2_idx, bL_idx, b1_slc, b2_slc, bL_slc, b1_call, b2_call, bL_call, b1_bi, b2_bi, bL_bi, b1_comp, b2_comp, bL_comp, b1_pop, b2_pop, bL_pop, b1_meth, b2_meth, bL_meth, b1_efld, b2_efld, bL_efld, b1_eisi, b2_eisi, bL_eisi, b1_var, b2_var, bL_var, isi_int_non, isi_int_bl, isi_int_int, isi_int_str, isi_int_lst, isi_int_tup, isi_int_dct, isi_bool_non, isi_bool_bl, isi_bool_int, isi_bool_str, isi_bool_lst, isi_bool_tup, isi_bool_dct, isi_str_non, isi_str_bl, isi_str_int, isi_str_str, isi_str_lst, isi_str_tup, isi_str_dct, isi_list_non, isi_list_bl, isi_list_int, isi_list_str, isi_list_lst, isi_list_tup, isi_list_dct, isi_tuple_non, isi_tuple_bl, isi_tuple_int, isi_tuple_str, isi_tuple_lst, isi_tuple_tup, isi_tuple_dct, isi_dict_non, isi_dict_bl, isi_dict_int, isi_dict_str, isi_dict_lst, isi_dict_tup, isi_dict_dct, bf_int, bf_intb, bf_abs, bf_lenl, bf_lent, bf_lens, bf_lend, bf_min2, bf_max2, bf_sum, bf_tup, bf_tupt, bf_lst, bf_lstt, bo_add, bo_sub, bo_mul, bo_mod, bo_fdiv, bo_pow, bo_addl, co_lt, co_le, co_gt, co_ge, co_eqi, co_nei, co_eqs, eq_strs, co_is, co_isnot, ix_l, ix_t, tr_bl, tr_int, at_nat, sm_ni, sm_nn, sm_ti, sm_tt, sm_nt, sm_ns, sm_ts, sm_bb, sm_bn, sm_nl, sm_tl, sm_nb, sm_nd, sm_td, ranged_len, lim_lit, asgs_nil, asgs_cons, pat_1, pat_t, forK_nx, forK_ct, forK_bk, forK_rt, forK_exc, forL_nil, forL_cons, it_l, it_t, it_s, ol_l, ow_, mut_l, mut_d, fr_lst, fr_comp, fr_bin, fr_dct, sk_nx, sk_rt, sk_bk, sk_ct, sk_exc, ik_ok, ik_exc, fx_nil, fx_cons, fy_nx, fy_ct, fy_bk, fy_rt, fy_exc, tk_nx, tk_rt, tk_bk, tk_ct, tk_e0, tk_e1, w_skip, w_seq, w_set, w_setO, w_unpack, ak_, w_app, w_put, ps_l, ps_d, pl_i, w_aug, ag_add, ag_sub, w_expr, rv_fz, rv_own, w_ret_var, w_retN, w_ite, w_for, w_while, w_brk, w_cnt, w_raise, w_try, w_frz, e_con, e_var, e_glb, e_bin, e_neg, e_not, e_and, e_or, e_cmp, e_chain, e_ite, e_tup, e_lst, e_dct, e_idx, e_slc, ck_ret, ck_exc, e_call, e_bi1, e_bi2, e_comp, lx_nil, e_efld, e_eisi, nil_e, sub_n, sub_s, gone_rt, gone_nx, hush_nx, hush_rt, lt_lit, xr_con, xr_glb, xr_bin, xr_neg, xr_not, xr_and, xr_or, xr_cmp, xr_chain, xr_ite, xr_tup, xr_lst, xr_dct, xr_idx, xr_slc, xr_call, xr_bi, xr_comp, xr_pop, xr_efld, xr_eisi, at_k0, at_k1, at_k2, at_k3, at_k4, at_k5, at_k6, at_k7, at_k8, at_k9, at_k10, at_k11, at_k12, at_k13, at_k14, at_k15, at_k16, at_k17, at_k18, at_k19, at_k20, or_s, lx_cons, ly_some, ly_none, tx_, op_nil, op_cons, we_nil, we_cons, sp_nil, sp_cons, rp_nil, rp_cons, rg_0, rg_1, rg_2, rg_3, rg_4, rg_5, bls_n, bls_c, ints_n, ints_c, bf_all, bf_any, bf_gcd, bm_var, bn_, bm_lst, e_meth, my_ixl, mf_ix, xr_meth, bf_isqrt, bf_lr1, bf_lr2, bf_min1, bf_max1, mk_c, xk_c, asg_nil, evL, evC, evP, evI, List.map, List.length_cons, List.length_nil, List.cons_append, List.nil_append, List.replicate, if_true, reduceIte, Nat.sub_self, Nat.reduceAdd, Nat.reduceSub, Nat.reduceLT, Bool.false_eq_true, if_false, Bool.not_false, Bool.not_true, Bool.false_and, Bool.true_and, Option.isNone_some, Option.map_some, Nat.reduceEqDiff, Nat.zero_add, Nat.add_zero, Nat.reduceLeDiff, Int.reduceLT, Int.reduceLE, Int.reduceMod, Int.reduceAdd, Int.reduceSub, Int.reduceNeg, Int.reduceMul, Int.reduceBEq, decide_true, decide_false, bne_self_eq_false, BEq.rfl, and_self, Bool.false_or, Bool.true_or, Bool.or_false, Bool.or_true, Option.bind_some, Int.zero_add, Int.toNat_natCast, Int.cast_ofNat_Int, Int.natCast_zero, Int.natCast_one, Int.reduceToNat, Int.reducePow, List.all_cons, List.all_nil, List.any_cons, List.any_nil, id, Bool.not_not, List.length_map, Bool.and_true, Bool.and_false]
def cb1 : S := (.seq (.set 2 (.bin .mod (.bi .int (.cons (.bin .add (.bin .add (.bin .mul (.var 2) (.con (.int 69621))) (.bi .int (.cons (.idx (.var 0) (.var 3)) .nil))) (.bin .mul (.con (.int 3)) (.var 3))) .nil)) (.con (.int 2147483647))))
.skip)
def cb2 : S := (.seq (.set 6 (.bi .int (.cons (.idx (.var 0) (.var 3)) .nil)))
(.seq (.ite (.tst (.cmp .lt (.var 6) (.bin .pow (.con (.int 10)) (.con (.int 18)))))
(.seq (.set 6 (.bin .mod (.bi .int (.cons (.bin .add (.bin .mul (.var 6) (.con (.int 48271))) (.bin .mul (.var 2) (.bin .add (.var 3) (.con (.int 1))))) .nil)) (.con (.int 2147483647))))
.skip)
.skip)
(.seq (.app 4 (.var 6))
.skip)))
def cb3 : S := (.seq (.set 2 (.bin .mod (.bi .int (.cons (.bin .add (.bin .mul (.var 2) (.con (.int 48271))) (.con (.int 11))) .nil)) (.con (.int 2147483647))))
(.seq (.app 4 (.var 2))
.skip))
theorem ix_s {l : List Int} {k : Int} : idxOf (.scr l) (.int k) = (L2.atI l k).map .int := rfl
theorem cl1 (call : Nat → List D → CRes) (ns : List Int) (s1 s4 s5 s6 : Sl) (hn : ns.length ≤ 63) : ∀ (items : List D) (x3 : Sl) (r : Int), (∀ d ∈ items, ∃ k : Nat, k < ns.length ∧ d = .int (0 + (k : Int))) → 0 ≤ r → r < 2147483647 → ∃ x' r', forX G call [] false [3] false cb1 items [.fz (.scr ns), s1, .fz (.int r), x3, s4, s5, s6] = .nx [.fz (.scr ns), s1, .fz (.int r'), x', s4, s5, s6] ∧ 0 ≤ r' ∧ r' < 2147483647
  | [], x3, r, h, h0, h1 => ⟨x3, r, rfl, h0, h1⟩
  | d :: items, x3, r, h, h0, h1 => by
    obtain ⟨k, hk, rfl⟩ := h d List.mem_cons_self
    have e : ns[k]? = some ns[k] := List.getElem?_eq_getElem hk
    have m1 : mulOk r 69621 = true := mulS (a := 31) (b := 17) (by unfold sm; omega) (lit _ _)
    have m2 : mulOk 3 (k : Int) = true := mulS (a := 2) (b := 7) (lit _ _) (by unfold sm; omega)
    obtain ⟨x', r', q1, q2⟩ := cl1 call ns s1 s4 s5 s6 hn items (.fz (.int (k : Int))) ((r * 69621 + ns[k] + 3 * (k : Int)) % 2147483647) (fun d hd => h d (List.mem_cons_of_mem _ hd)) (by omega) (by omega)
    refine ⟨x', r', ?_, q2⟩
    simp only [cb1] at q1
    simp -implicitDefEqProofs only [cb1, e, m1, m2, ix_s, q1, bind_ok, bind_exc, st_ok, st_exc, seq_nx, seq_rt, seq_bk, seq_ct, seq_exc, opt_s, lift_s, map_s, get_0, get_s, put_0, put_s, run_eq, fin_nx, fin_rt, fin_exc, d_un, d_own, f_own, d_non, f_non, er_non, d_bl, f_bl, er_bl, d_int, f_int, er_int, d_str, f_str, er_str, d_lst, f_lst, er_lst, d_tup, f_tup, er_tup, d_dct, f_dct, er_dct, d_scr, f_scr, er_scr, d_ty, f_ty, er_ty, d_cls, f_cls, er_cls, b1_con, b2_con, bL_con, b1_glb, b2_glb, bL_glb, b1_bin, b2_bin, bL_bin, b1_neg, b2_neg, bL_neg, b1_not, b2_not, bL_not, b1_and, b2_and, bL_and, b1_or, b2_or, bL_or, b1_cmp, b2_cmp, bL_cmp, b1_chain, b2_chain, bL_chain, b1_ite, b2_ite, bL_ite, b1_tup, b2_tup, bL_tup, b1_lst, b2_lst, bL_lst, b1_dct, b2_dct, bL_dct, b1_idx, b2_idx, bL_idx, b1_slc, b2_slc, bL_slc, b1_call, b2_call, bL_call, b1_bi, b2_bi, bL_bi, b1_comp, b2_comp, bL_comp, b1_pop, b2_pop, bL_pop, b1_meth, b2_meth, bL_meth, b1_efld, b2_efld, bL_efld, b1_eisi, b2_eisi, bL_eisi, b1_var, b2_var, bL_var, isi_int_non, isi_int_bl, isi_int_int, isi_int_str, isi_int_lst, isi_int_tup, isi_int_dct, isi_bool_non, isi_bool_bl, isi_bool_int, isi_bool_str, isi_bool_lst, isi_bool_tup, isi_bool_dct, isi_str_non, isi_str_bl, isi_str_int, isi_str_str, isi_str_lst, isi_str_tup, isi_str_dct, isi_list_non, isi_list_bl, isi_list_int, isi_list_str, isi_list_lst, isi_list_tup, isi_list_dct, isi_tuple_non, isi_tuple_bl, isi_tuple_int, isi_tuple_str, isi_tuple_lst, isi_tuple_tup, isi_tuple_dct, isi_dict_non, isi_dict_bl, isi_dict_int, isi_dict_str, isi_dict_lst, isi_dict_tup, isi_dict_dct, bf_int, bf_intb, bf_abs, bf_lenl, bf_lent, bf_lens, bf_lend, bf_min2, bf_max2, bf_sum, bf_tup, bf_tupt, bf_lst, bf_lstt, bo_add, bo_sub, bo_mul, bo_mod, bo_fdiv, bo_pow, bo_addl, co_lt, co_le, co_gt, co_ge, co_eqi, co_nei, co_eqs, eq_strs, co_is, co_isnot, ix_l, ix_t, tr_bl, tr_int, at_nat, sm_ni, sm_nn, sm_ti, sm_tt, sm_nt, sm_ns, sm_ts, sm_bb, sm_bn, sm_nl, sm_tl, sm_nb, sm_nd, sm_td, ranged_len, lim_lit, asgs_nil, asgs_cons, pat_1, pat_t, forK_nx, forK_ct, forK_bk, forK_rt, forK_exc, forL_nil, forL_cons, it_l, it_t, it_s, ol_l, ow_, mut_l, mut_d, fr_lst, fr_comp, fr_bin, fr_dct, sk_nx, sk_rt, sk_bk, sk_ct, sk_exc, ik_ok, ik_exc, fx_nil, fx_cons, fy_nx, fy_ct, fy_bk, fy_rt, fy_exc, tk_nx, tk_rt, tk_bk, tk_ct, tk_e0, tk_e1, w_skip, w_seq, w_set, w_setO, w_unpack, ak_, w_app, w_put, ps_l, ps_d, pl_i, w_aug, ag_add, ag_sub, w_expr, rv_fz, rv_own, w_ret_var, w_retN, w_ite, w_for, w_while, w_brk, w_cnt, w_raise, w_try, w_frz, e_con, e_var, e_glb, e_bin, e_neg, e_not, e_and, e_or, e_cmp, e_chain, e_ite, e_tup, e_lst, e_dct, e_idx, e_slc, ck_ret, ck_exc, e_call, e_bi1, e_bi2, e_comp, lx_nil, e_efld, e_eisi, nil_e, sub_n, sub_s, gone_rt, gone_nx, hush_nx, hush_rt, lt_lit, xr_con, xr_glb, xr_bin, xr_neg, xr_not, xr_and, xr_or, xr_cmp, xr_chain, xr_ite, xr_tup, xr_lst, xr_dct, xr_idx, xr_slc, xr_call, xr_bi, xr_comp, xr_pop, xr_efld, xr_eisi, at_k0, at_k1, at_k2, at_k3, at_k4, at_k5, at_k6, at_k7, at_k8, at_k9, at_k10, at_k11, at_k12, at_k13, at_k14, at_k15, at_k16, at_k17, at_k18, at_k19, at_k20, or_s, lx_cons, ly_some, ly_none, tx_, op_nil, op_cons, we_nil, we_cons, sp_nil, sp_cons, rp_nil, rp_cons, rg_0, rg_1, rg_2, rg_3, rg_4, rg_5, bls_n, bls_c, ints_n, ints_c, bf_all, bf_any, bf_gcd, bm_var, bn_, bm_lst, e_meth, my_ixl, mf_ix, xr_meth, bf_isqrt, bf_lr1, bf_lr2, bf_min1, bf_max1, mk_c, xk_c, asg_nil, evL, evC, evP, evI, List.map, List.length_cons, List.length_nil, List.cons_append, List.nil_append, List.replicate, if_true, reduceIte, Nat.sub_self, Nat.reduceAdd, Nat.reduceSub, Nat.reduceLT, Bool.false_eq_true, if_false, Bool.not_false, Bool.not_true, Bool.false_and, Bool.true_and, Option.isNone_some, Option.map_some, Nat.reduceEqDiff, Nat.zero_add, Nat.add_zero, Nat.reduceLeDiff, Int.reduceLT, Int.reduceLE, Int.reduceMod, Int.reduceAdd, Int.reduceSub, Int.reduceNeg, Int.reduceMul, Int.reduceBEq, decide_true, decide_false, bne_self_eq_false, BEq.rfl, and_self, Bool.false_or, Bool.true_or, Bool.or_false, Bool.or_true, Option.bind_some, Int.zero_add, Int.toNat_natCast, Int.cast_ofNat_Int, Int.natCast_zero, Int.natCast_one, Int.reduceToNat, Int.reducePow, List.all_cons, List.all_nil, List.any_cons, List.any_nil, id, Bool.not_not, List.length_map, Bool.and_true, Bool.and_false]
theorem cl2 (call : Nat → List D → CRes) (ns : List Int) (s1 s5 : Sl) (r : Int) (h0 : 0 ≤ r) (h01 : r < 2147483647) (hn : ns.length ≤ 63) (hb : ∀ z ∈ ns, sm 1100000 z) : ∀ (items : List D) (x3 x6 : Sl) (cs : List Int), (∀ d ∈ items, ∃ k : Nat, k < ns.length ∧ d = .int (0 + (k : Int))) → (∀ c ∈ cs, 0 ≤ c ∧ sm 1100000 c) → cs.length + items.length ≤ 100 →
    ∃ (x3' x6' : Sl) (cs' : List Int), forX G call [] false [3] false cb2 items [.fz (.scr ns), s1, .fz (.int r), x3, .own (.lst (cs.map .int)), s5, x6] = .nx [.fz (.scr ns), s1, .fz (.int r), x3', .own (.lst (cs'.map .int)), s5, x6'] ∧ (∀ c ∈ cs', 0 ≤ c ∧ sm 1100000 c) ∧ cs'.length = cs.length + items.length
  | [], x3, x6, cs, h, hc, hl => ⟨x3, x6, cs, rfl, hc, rfl⟩
  | d :: items, x3, x6, cs, h, hc, hl => by
    obtain ⟨k, hk, rfl⟩ := h d List.mem_cons_self
    simp only [List.length_cons] at hl
    have e : ns[k]? = some ns[k] := List.getElem?_eq_getElem hk
    have hz := hb ns[k] (List.getElem_mem hk)
    generalize ns[k] = z at e hz
    have p18 : powOk 10 18 = true := by decide
    have h3 : cs.length < lim := by rw [lt_lit (by omega)]; trivial
    have m1 : mulOk z 48271 = true := mulS hz (lit _ 16)
    have m2 : mulOk r ((k : Int) + 1) = true := mulS (a := 31) (b := 7) (by unfold sm; omega) (by unfold sm; omega)
    have step : ∀ (c : Int), 0 ≤ c ∧ sm 1100000 c → ∃ (x3' x6' : Sl) (cs' : List Int), forX G call [] false [3] false cb2 items [.fz (.scr ns), s1, .fz (.int r), .fz (.int (k : Int)), .own (.lst (cs.map .int ++ [.int c])), s5, .fz (.int c)] = .nx [.fz (.scr ns), s1, .fz (.int r), x3', .own (.lst (cs'.map .int)), s5, x6'] ∧ (∀ c ∈ cs', 0 ≤ c ∧ sm 1100000 c) ∧ cs'.length = cs.length + (items.length + 1) := fun c hcc => by
      obtain ⟨a, b, d, q1, q2, q3⟩ := cl2 call ns s1 s5 r h0 h01 hn hb items (.fz (.int (k : Int))) (.fz (.int c)) (cs ++ [c]) (fun d hd => h d (List.mem_cons_of_mem _ hd)) (fun y hy => by
        rcases List.mem_append.mp hy with hy | hy
        · exact hc y hy
        · rw [List.mem_singleton.mp hy]; exact hcc) (by simp; omega)
      rw [List.map_append] at q1
      exact ⟨a, b, d, q1, q2, by rw [q3]; simp; omega⟩
    by_cases big : z < 1000000000000000000
    · obtain ⟨a, b, d, q1, q2, q3⟩ := step ((z * 48271 + r * ((k : Int) + 1)) % 2147483647) ⟨by omega, sm.mono (a := 31) (by unfold sm; omega) (by decide)⟩
      refine ⟨a, b, d, ?_, q2, q3⟩
      simp only [cb2] at q1
      simp -implicitDefEqProofs only [cb2, e, ix_s, p18, Int.reduceToNat, Int.reducePow, big, m1, m2, h3, q1, bind_ok, bind_exc, st_ok, st_exc, seq_nx, seq_rt, seq_bk, seq_ct, seq_exc, opt_s, lift_s, map_s, get_0, get_s, put_0, put_s, run_eq, fin_nx, fin_rt, fin_exc, d_un, d_own, f_own, d_non, f_non, er_non, d_bl, f_bl, er_bl, d_int, f_int, er_int, d_str, f_str, er_str, d_lst, f_lst, er_lst, d_tup, f_tup, er_tup, d_dct, f_dct, er_dct, d_scr, f_scr, er_scr, d_ty, f_ty, er_ty, d_cls, f_cls, er_cls, b1_con, b2_con, bL_con, b1_glb, b2_glb, bL_glb, b1_bin, b2_bin, bL_bin, b1_neg, b2_neg, bL_neg, b1_not, b2_not, bL_not, b1_and, b2_and, bL_and, b1_or, b2_or, bL_or, b1_cmp, b2_cmp, bL_cmp, b1_chain, b2_chain, bL_chain, b1_ite, b2_ite, bL_ite, b1_tup, b2_tup, bL_tup, b1_lst, b2_lst, bL_lst, b1_dct, b2_dct, bL_dct, b1_idx, b2_idx, bL_idx, b1_slc, b2_slc, bL_slc, b1_call, b2_call, bL_call, b1_bi, b2_bi, bL_bi, b1_comp, b2_comp, bL_comp, b1_pop, b2_pop, bL_pop, b1_meth, b2_meth, bL_meth, b1_efld, b2_efld, bL_efld, b1_eisi, b2_eisi, bL_eisi, b1_var, b2_var, bL_var, isi_int_non, isi_int_bl, isi_int_int, isi_int_str, isi_int_lst, isi_int_tup, isi_int_dct, isi_bool_non, isi_bool_bl, isi_bool_int, isi_bool_str, isi_bool_lst, isi_bool_tup, isi_bool_dct, isi_str_non, isi_str_bl, isi_str_int, isi_str_str, isi_str_lst, isi_str_tup, isi_str_dct, isi_list_non, isi_list_bl, isi_list_int, isi_list_str, isi_list_lst, isi_list_tup, isi_list_dct, isi_tuple_non, isi_tuple_bl, isi_tuple_int, isi_tuple_str, isi_tuple_lst, isi_tuple_tup, isi_tuple_dct, isi_dict_non, isi_dict_bl, isi_dict_int, isi_dict_str, isi_dict_lst, isi_dict_tup, isi_dict_dct, bf_int, bf_intb, bf_abs, bf_lenl, bf_lent, bf_lens, bf_lend, bf_min2, bf_max2, bf_sum, bf_tup, bf_tupt, bf_lst, bf_lstt, bo_add, bo_sub, bo_mul, bo_mod, bo_fdiv, bo_pow, bo_addl, co_lt, co_le, co_gt, co_ge, co_eqi, co_nei, co_eqs, eq_strs, co_is, co_isnot, ix_l, ix_t, tr_bl, tr_int, at_nat, sm_ni, sm_nn, sm_ti, sm_tt, sm_nt, sm_ns, sm_ts, sm_bb, sm_bn, sm_nl, sm_tl, sm_nb, sm_nd, sm_td, ranged_len, lim_lit, asgs_nil, asgs_cons, pat_1, pat_t, forK_nx, forK_ct, forK_bk, forK_rt, forK_exc, forL_nil, forL_cons, it_l, it_t, it_s, ol_l, ow_, mut_l, mut_d, fr_lst, fr_comp, fr_bin, fr_dct, sk_nx, sk_rt, sk_bk, sk_ct, sk_exc, ik_ok, ik_exc, fx_nil, fx_cons, fy_nx, fy_ct, fy_bk, fy_rt, fy_exc, tk_nx, tk_rt, tk_bk, tk_ct, tk_e0, tk_e1, w_skip, w_seq, w_set, w_setO, w_unpack, ak_, w_app, w_put, ps_l, ps_d, pl_i, w_aug, ag_add, ag_sub, w_expr, rv_fz, rv_own, w_ret_var, w_retN, w_ite, w_for, w_while, w_brk, w_cnt, w_raise, w_try, w_frz, e_con, e_var, e_glb, e_bin, e_neg, e_not, e_and, e_or, e_cmp, e_chain, e_ite, e_tup, e_lst, e_dct, e_idx, e_slc, ck_ret, ck_exc, e_call, e_bi1, e_bi2, e_comp, lx_nil, e_efld, e_eisi, nil_e, sub_n, sub_s, gone_rt, gone_nx, hush_nx, hush_rt, lt_lit, xr_con, xr_glb, xr_bin, xr_neg, xr_not, xr_and, xr_or, xr_cmp, xr_chain, xr_ite, xr_tup, xr_lst, xr_dct, xr_idx, xr_slc, xr_call, xr_bi, xr_comp, xr_pop, xr_efld, xr_eisi, at_k0, at_k1, at_k2, at_k3, at_k4, at_k5, at_k6, at_k7, at_k8, at_k9, at_k10, at_k11, at_k12, at_k13, at_k14, at_k15, at_k16, at_k17, at_k18, at_k19, at_k20, or_s, lx_cons, ly_some, ly_none, tx_, op_nil, op_cons, we_nil, we_cons, sp_nil, sp_cons, rp_nil, rp_cons, rg_0, rg_1, rg_2, rg_3, rg_4, rg_5, bls_n, bls_c, ints_n, ints_c, bf_all, bf_any, bf_gcd, bm_var, bn_, bm_lst, e_meth, my_ixl, mf_ix, xr_meth, bf_isqrt, bf_lr1, bf_lr2, bf_min1, bf_max1, mk_c, xk_c, asg_nil, evL, evC, evP, evI, List.map, List.length_cons, List.length_nil, List.cons_append, List.nil_append, List.replicate, if_true, reduceIte, Nat.sub_self, Nat.reduceAdd, Nat.reduceSub, Nat.reduceLT, Bool.false_eq_true, if_false, Bool.not_false, Bool.not_true, Bool.false_and, Bool.true_and, Option.isNone_some, Option.map_some, Nat.reduceEqDiff, Nat.zero_add, Nat.add_zero, Nat.reduceLeDiff, Int.reduceLT, Int.reduceLE, Int.reduceMod, Int.reduceAdd, Int.reduceSub, Int.reduceNeg, Int.reduceMul, Int.reduceBEq, decide_true, decide_false, bne_self_eq_false, BEq.rfl, and_self, Bool.false_or, Bool.true_or, Bool.or_false, Bool.or_true, Option.bind_some, Int.zero_add, Int.toNat_natCast, Int.cast_ofNat_Int, Int.natCast_zero, Int.natCast_one, Int.reduceToNat, Int.reducePow, List.all_cons, List.all_nil, List.any_cons, List.any_nil, id, Bool.not_not, List.length_map, Bool.and_true, Bool.and_false]
    · obtain ⟨a, b, d, q1, q2, q3⟩ := step z ⟨by omega, hz⟩
      refine ⟨a, b, d, ?_, q2, q3⟩
      simp only [cb2] at q1
      simp -implicitDefEqProofs only [cb2, e, ix_s, p18, Int.reduceToNat, Int.reducePow, big, m1, m2, h3, q1, bind_ok, bind_exc, st_ok, st_exc, seq_nx, seq_rt, seq_bk, seq_ct, seq_exc, opt_s, lift_s, map_s, get_0, get_s, put_0, put_s, run_eq, fin_nx, fin_rt, fin_exc, d_un, d_own, f_own, d_non, f_non, er_non, d_bl, f_bl, er_bl, d_int, f_int, er_int, d_str, f_str, er_str, d_lst, f_lst, er_lst, d_tup, f_tup, er_tup, d_dct, f_dct, er_dct, d_scr, f_scr, er_scr, d_ty, f_ty, er_ty, d_cls, f_cls, er_cls, b1_con, b2_con, bL_con, b1_glb, b2_glb, bL_glb, b1_bin, b2_bin, bL_bin, b1_neg, b2_neg, bL_neg, b1_not, b2_not, bL_not, b1_and, b2_and, bL_and, b1_or, b2_or, bL_or, b1_cmp, b2_cmp, bL_cmp, b1_chain, b2_chain, bL_chain, b1_ite, b2_ite, bL_ite, b1_tup, b2_tup, bL_tup, b1_lst, b2_lst, bL_lst, b1_dct, b2_dct, bL_dct, b1_idx, b2_idx, bL_idx, b1_slc, b2_slc, bL_slc, b1_call, b2_call, bL_call, b1_bi, b2_bi, bL_bi, b1_comp, b2_comp, bL_comp, b1_pop, b2_pop, bL_pop, b1_meth, b2_meth, bL_meth, b1_efld, b2_efld, bL_efld, b1_eisi, b2_eisi, bL_eisi, b1_var, b2_var, bL_var, isi_int_non, isi_int_bl, isi_int_int, isi_int_str, isi_int_lst, isi_int_tup, isi_int_dct, isi_bool_non, isi_bool_bl, isi_bool_int, isi_bool_str, isi_bool_lst, isi_bool_tup, isi_bool_dct, isi_str_non, isi_str_bl, isi_str_int, isi_str_str, isi_str_lst, isi_str_tup, isi_str_dct, isi_list_non, isi_list_bl, isi_list_int, isi_list_str, isi_list_lst, isi_list_tup, isi_list_dct, isi_tuple_non, isi_tuple_bl, isi_tuple_int, isi_tuple_str, isi_tuple_lst, isi_tuple_tup, isi_tuple_dct, isi_dict_non, isi_dict_bl, isi_dict_int, isi_dict_str, isi_dict_lst, isi_dict_tup, isi_dict_dct, bf_int, bf_intb, bf_abs, bf_lenl, bf_lent, bf_lens, bf_lend, bf_min2, bf_max2, bf_sum, bf_tup, bf_tupt, bf_lst, bf_lstt, bo_add, bo_sub, bo_mul, bo_mod, bo_fdiv, bo_pow, bo_addl, co_lt, co_le, co_gt, co_ge, co_eqi, co_nei, co_eqs, eq_strs, co_is, co_isnot, ix_l, ix_t, tr_bl, tr_int, at_nat, sm_ni, sm_nn, sm_ti, sm_tt, sm_nt, sm_ns, sm_ts, sm_bb, sm_bn, sm_nl, sm_tl, sm_nb, sm_nd, sm_td, ranged_len, lim_lit, asgs_nil, asgs_cons, pat_1, pat_t, forK_nx, forK_ct, forK_bk, forK_rt, forK_exc, forL_nil, forL_cons, it_l, it_t, it_s, ol_l, ow_, mut_l, mut_d, fr_lst, fr_comp, fr_bin, fr_dct, sk_nx, sk_rt, sk_bk, sk_ct, sk_exc, ik_ok, ik_exc, fx_nil, fx_cons, fy_nx, fy_ct, fy_bk, fy_rt, fy_exc, tk_nx, tk_rt, tk_bk, tk_ct, tk_e0, tk_e1, w_skip, w_seq, w_set, w_setO, w_unpack, ak_, w_app, w_put, ps_l, ps_d, pl_i, w_aug, ag_add, ag_sub, w_expr, rv_fz, rv_own, w_ret_var, w_retN, w_ite, w_for, w_while, w_brk, w_cnt, w_raise, w_try, w_frz, e_con, e_var, e_glb, e_bin, e_neg, e_not, e_and, e_or, e_cmp, e_chain, e_ite, e_tup, e_lst, e_dct, e_idx, e_slc, ck_ret, ck_exc, e_call, e_bi1, e_bi2, e_comp, lx_nil, e_efld, e_eisi, nil_e, sub_n, sub_s, gone_rt, gone_nx, hush_nx, hush_rt, lt_lit, xr_con, xr_glb, xr_bin, xr_neg, xr_not, xr_and, xr_or, xr_cmp, xr_chain, xr_ite, xr_tup, xr_lst, xr_dct, xr_idx, xr_slc, xr_call, xr_bi, xr_comp, xr_pop, xr_efld, xr_eisi, at_k0, at_k1, at_k2, at_k3, at_k4, at_k5, at_k6, at_k7, at_k8, at_k9, at_k10, at_k11, at_k12, at_k13, at_k14, at_k15, at_k16, at_k17, at_k18, at_k19, at_k20, or_s, lx_cons, ly_some, ly_none, tx_, op_nil, op_cons, we_nil, we_cons, sp_nil, sp_cons, rp_nil, rp_cons, rg_0, rg_1, rg_2, rg_3, rg_4, rg_5, bls_n, bls_c, ints_n, ints_c, bf_all, bf_any, bf_gcd, bm_var, bn_, bm_lst, e_meth, my_ixl, mf_ix, xr_meth, bf_isqrt, bf_lr1, bf_lr2, bf_min1, bf_max1, mk_c, xk_c, asg_nil, evL, evC, evP, evI, List.map, List.length_cons, List.length_nil, List.cons_append, List.nil_append, List.replicate, if_true, reduceIte, Nat.sub_self, Nat.reduceAdd, Nat.reduceSub, Nat.reduceLT, Bool.false_eq_true, if_false, Bool.not_false, Bool.not_true, Bool.false_and, Bool.true_and, Option.isNone_some, Option.map_some, Nat.reduceEqDiff, Nat.zero_add, Nat.add_zero, Nat.reduceLeDiff, Int.reduceLT, Int.reduceLE, Int.reduceMod, Int.reduceAdd, Int.reduceSub, Int.reduceNeg, Int.reduceMul, Int.reduceBEq, decide_true, decide_false, bne_self_eq_false, BEq.rfl, and_self, Bool.false_or, Bool.true_or, Bool.or_false, Bool.or_true, Option.bind_some, Int.zero_add, Int.toNat_natCast, Int.cast_ofNat_Int, Int.natCast_zero, Int.natCast_one, Int.reduceToNat, Int.reducePow, List.all_cons, List.all_nil, List.any_cons, List.any_nil, id, Bool.not_not, List.length_map, Bool.and_true, Bool.and_false]
theorem cl3 (call : Nat → List D → CRes) (s0 s1 s5 s6 : Sl) : ∀ (items : List D) (x3 : Sl) (r : Int) (cs : List Int), 0 ≤ r → r < 2147483647 → (∀ c ∈ cs, 0 ≤ c ∧ sm 1100000 c) → cs.length + items.length ≤ 100 →
    ∃ (x' : Sl) (r' : Int) (cs' : List Int), forX G call [] false [3] false cb3 items [s0, s1, .fz (.int r), x3, .own (.lst (cs.map .int)), s5, s6] = .nx [s0, s1, .fz (.int r'), x', .own (.lst (cs'.map .int)), s5, s6] ∧ (∀ c ∈ cs', 0 ≤ c ∧ sm 1100000 c) ∧ cs'.length = cs.length + items.length
  | [], x3, r, cs, h0, h1, hc, hl => ⟨x3, r, cs, rfl, hc, rfl⟩
  | d :: items, x3, r, cs, h0, h1, hc, hl => by
    simp only [List.length_cons] at hl
    have h3 : cs.length < lim := by rw [lt_lit (by omega)]; trivial
    have m1 := m48 h0 h1
    generalize hq : (r * 48271 + 11) % 2147483647 = q
    have hcc : 0 ≤ q ∧ sm 1100000 q := ⟨by omega, sm.mono (a := 31) (by unfold sm; omega) (by decide)⟩
    obtain ⟨a, b, e, q1, q2, q3⟩ := cl3 call s0 s1 s5 s6 items (.fz d) q (cs ++ [q]) hcc.1 (by omega) (fun y hy => by
      rcases List.mem_append.mp hy with hy | hy
      · exact hc y hy
      · rw [List.mem_singleton.mp hy]; exact hcc) (by simp; omega)
    rw [List.map_append] at q1
    refine ⟨a, b, e, ?_, q2, by rw [q3]; simp; omega⟩
    simp only [cb3, List.map_cons, List.map_nil] at q1
    simp -implicitDefEqProofs only [cb3, m1, hq, h3, q1, bind_ok, bind_exc, st_ok, st_exc, seq_nx, seq_rt, seq_bk, seq_ct, seq_exc, opt_s, lift_s, map_s, get_0, get_s, put_0, put_s, run_eq, fin_nx, fin_rt, fin_exc, d_un, d_own, f_own, d_non, f_non, er_non, d_bl, f_bl, er_bl, d_int, f_int, er_int, d_str, f_str, er_str, d_lst, f_lst, er_lst, d_tup, f_tup, er_tup, d_dct, f_dct, er_dct, d_scr, f_scr, er_scr, d_ty, f_ty, er_ty, d_cls, f_cls, er_cls, b1_con, b2_con, bL_con, b1_glb, b2_glb, bL_glb, b1_bin, b2_bin, bL_bin, b1_neg, b2_neg, bL_neg, b1_not, b2_not, bL_not, b1_and, b2_and, bL_and, b1_or, b2_or, bL_or, b1_cmp, b2_cmp, bL_cmp, b1_chain, b2_chain, bL_chain, b1_ite, b2_ite, bL_ite, b1_tup, b2_tup, bL_tup, b1_lst, b2_lst, bL_lst, b1_dct, b2_dct, bL_dct, b1_idx, b2_idx, bL_idx, b1_slc, b2_slc, bL_slc, b1_call, b2_call, bL_call, b1_bi, b2_bi, bL_bi, b1_comp, b2_comp, bL_comp, b1_pop, b2_pop, bL_pop, b1_meth, b2_meth, bL_meth, b1_efld, b2_efld, bL_efld, b1_eisi, b2_eisi, bL_eisi, b1_var, b2_var, bL_var, isi_int_non, isi_int_bl, isi_int_int, isi_int_str, isi_int_lst, isi_int_tup, isi_int_dct, isi_bool_non, isi_bool_bl, isi_bool_int, isi_bool_str, isi_bool_lst, isi_bool_tup, isi_bool_dct, isi_str_non, isi_str_bl, isi_str_int, isi_str_str, isi_str_lst, isi_str_tup, isi_str_dct, isi_list_non, isi_list_bl, isi_list_int, isi_list_str, isi_list_lst, isi_list_tup, isi_list_dct, isi_tuple_non, isi_tuple_bl, isi_tuple_int, isi_tuple_str, isi_tuple_lst, isi_tuple_tup, isi_tuple_dct, isi_dict_non, isi_dict_bl, isi_dict_int, isi_dict_str, isi_dict_lst, isi_dict_tup, isi_dict_dct, bf_int, bf_intb, bf_abs, bf_lenl, bf_lent, bf_lens, bf_lend, bf_min2, bf_max2, bf_sum, bf_tup, bf_tupt, bf_lst, bf_lstt, bo_add, bo_sub, bo_mul, bo_mod, bo_fdiv, bo_pow, bo_addl, co_lt, co_le, co_gt, co_ge, co_eqi, co_nei, co_eqs, eq_strs, co_is, co_isnot, ix_l, ix_t, tr_bl, tr_int, at_nat, sm_ni, sm_nn, sm_ti, sm_tt, sm_nt, sm_ns, sm_ts, sm_bb, sm_bn, sm_nl, sm_tl, sm_nb, sm_nd, sm_td, ranged_len, lim_lit, asgs_nil, asgs_cons, pat_1, pat_t, forK_nx, forK_ct, forK_bk, forK_rt, forK_exc, forL_nil, forL_cons, it_l, it_t, it_s, ol_l, ow_, mut_l, mut_d, fr_lst, fr_comp, fr_bin, fr_dct, sk_nx, sk_rt, sk_bk, sk_ct, sk_exc, ik_ok, ik_exc, fx_nil, fx_cons, fy_nx, fy_ct, fy_bk, fy_rt, fy_exc, tk_nx, tk_rt, tk_bk, tk_ct, tk_e0, tk_e1, w_skip, w_seq, w_set, w_setO, w_unpack, ak_, w_app, w_put, ps_l, ps_d, pl_i, w_aug, ag_add, ag_sub, w_expr, rv_fz, rv_own, w_ret_var, w_retN, w_ite, w_for, w_while, w_brk, w_cnt, w_raise, w_try, w_frz, e_con, e_var, e_glb, e_bin, e_neg, e_not, e_and, e_or, e_cmp, e_chain, e_ite, e_tup, e_lst, e_dct, e_idx, e_slc, ck_ret, ck_exc, e_call, e_bi1, e_bi2, e_comp, lx_nil, e_efld, e_eisi, nil_e, sub_n, sub_s, gone_rt, gone_nx, hush_nx, hush_rt, lt_lit, xr_con, xr_glb, xr_bin, xr_neg, xr_not, xr_and, xr_or, xr_cmp, xr_chain, xr_ite, xr_tup, xr_lst, xr_dct, xr_idx, xr_slc, xr_call, xr_bi, xr_comp, xr_pop, xr_efld, xr_eisi, at_k0, at_k1, at_k2, at_k3, at_k4, at_k5, at_k6, at_k7, at_k8, at_k9, at_k10, at_k11, at_k12, at_k13, at_k14, at_k15, at_k16, at_k17, at_k18, at_k19, at_k20, or_s, lx_cons, ly_some, ly_none, tx_, op_nil, op_cons, we_nil, we_cons, sp_nil, sp_cons, rp_nil, rp_cons, rg_0, rg_1, rg_2, rg_3, rg_4, rg_5, bls_n, bls_c, ints_n, ints_c, bf_all, bf_any, bf_gcd, bm_var, bn_, bm_lst, e_meth, my_ixl, mf_ix, xr_meth, bf_isqrt, bf_lr1, bf_lr2, bf_min1, bf_max1, mk_c, xk_c, asg_nil, evL, evC, evP, evI, List.map, List.length_cons, List.length_nil, List.cons_append, List.nil_append, List.replicate, if_true, reduceIte, Nat.sub_self, Nat.reduceAdd, Nat.reduceSub, Nat.reduceLT, Bool.false_eq_true, if_false, Bool.not_false, Bool.not_true, Bool.false_and, Bool.true_and, Option.isNone_some, Option.map_some, Nat.reduceEqDiff, Nat.zero_add, Nat.add_zero, Nat.reduceLeDiff, Int.reduceLT, Int.reduceLE, Int.reduceMod, Int.reduceAdd, Int.reduceSub, Int.reduceNeg, Int.reduceMul, Int.reduceBEq, decide_true, decide_false, bne_self_eq_false, BEq.rfl, and_self, Bool.false_or, Bool.true_or, Bool.or_false, Bool.or_true, Option.bind_some, Int.zero_add, Int.toNat_natCast, Int.cast_ofNat_Int, Int.natCast_zero, Int.natCast_one, Int.reduceToNat, Int.reducePow, List.all_cons, List.all_nil, List.any_cons, List.any_nil, id, Bool.not_not, List.length_map, Bool.and_true, Bool.and_false]
theorem c_cells (ns : List Int) (many : Nat) (hmany : many ≤ 30) (hn : ns.length ≤ 63) (hb : ∀ z ∈ ns, sm 1100000 z) : ∃ cs : List Int, callF G (n + 1) 24 [.scr ns, .int (many : Int)] = .ret (.lst (cs.map .int)) ∧ many ≤ cs.length ∧ ∀ c ∈ cs, 0 ≤ c ∧ sm 1100000 c := by
  have c_1 : ∀ {n : Nat} {as : List D}, callF G (n + 1) 24 as = runDef G (callF G n) d__law_cells as := rfl
  have mem : ∀ d ∈ ranged 0 ns.length, ∃ k : Nat, k < ns.length ∧ d = .int (0 + (k : Int)) := fun d hd => mem_ranged hd
  obtain ⟨x3, r, q1, r0, r1⟩ := cl1 (callF G n) ns (.fz (.int (many : Int))) .un .un .un hn (ranged 0 ns.length) .un 1009 mem (by decide) (by decide)
  obtain ⟨y3, y6, cs, q2, c1, c2⟩ := cl2 (callF G n) ns (.fz (.int (many : Int))) .un r r0 r1 hn hb (ranged 0 ns.length) x3 .un [] mem (fun c hc => nomatch hc) (by rw [ranged_len]; simp; omega)
  rw [ranged_len, List.length_nil, Nat.zero_add] at c2
  obtain ⟨z3, w, cs', q3, d1, d2⟩ := cl3 (callF G n) (.fz (.scr ns)) (.fz (.int (many : Int))) (.fz (.int ((many : Int) - (cs.length : Int)))) y6 (ranged 0 ((many : Int) - (cs.length : Int)).toNat) y3 r cs r0 r1 c1 (by rw [ranged_len]; omega)
  rw [ranged_len] at d2
  refine ⟨cs', ?_, by omega, d1⟩
  have e1 : ¬ ((63 : Int) < (ns.length : Int)) := by omega
  have e2 : (-4611686018427387904 : Int) ≤ (ns.length : Int) := by omega
  have e3 : (ns.length : Int) < 4611686018427387904 := by omega
  have e4 : (-4611686018427387904 : Int) ≤ (many : Int) - (cs.length : Int) := by omega
  have e5 : (many : Int) - (cs.length : Int) < 4611686018427387904 := by omega
  simp only [cb1] at q1
  simp only [cb2, List.map_nil] at q2
  simp only [cb3] at q3
  simp -implicitDefEqProofs only [c_1, d__law_cells, b__law_cells, e1, e2, e3, q1, q2, e4, e5, q3, bind_ok, bind_exc, st_ok, st_exc, seq_nx, seq_rt, seq_bk, seq_ct, seq_exc, opt_s, lift_s, map_s, get_0, get_s, put_0, put_s, run_eq, fin_nx, fin_rt, fin_exc, d_un, d_own, f_own, d_non, f_non, er_non, d_bl, f_bl, er_bl, d_int, f_int, er_int, d_str, f_str, er_str, d_lst, f_lst, er_lst, d_tup, f_tup, er_tup, d_dct, f_dct, er_dct, d_scr, f_scr, er_scr, d_ty, f_ty, er_ty, d_cls, f_cls, er_cls, b1_con, b2_con, bL_con, b1_glb, b2_glb, bL_glb, b1_bin, b2_bin, bL_bin, b1_neg, b2_neg, bL_neg, b1_not, b2_not, bL_not, b1_and, b2_and, bL_and, b1_or, b2_or, bL_or, b1_cmp, b2_cmp, bL_cmp, b1_chain, b2_chain, bL_chain, b1_ite, b2_ite, bL_ite, b1_tup, b2_tup, bL_tup, b1_lst, b2_lst, bL_lst, b1_dct, b2_dct, bL_dct, b1_idx, b2_idx, bL_idx, b1_slc, b2_slc, bL_slc, b1_call, b2_call, bL_call, b1_bi, b2_bi, bL_bi, b1_comp, b2_comp, bL_comp, b1_pop, b2_pop, bL_pop, b1_meth, b2_meth, bL_meth, b1_efld, b2_efld, bL_efld, b1_eisi, b2_eisi, bL_eisi, b1_var, b2_var, bL_var, isi_int_non, isi_int_bl, isi_int_int, isi_int_str, isi_int_lst, isi_int_tup, isi_int_dct, isi_bool_non, isi_bool_bl, isi_bool_int, isi_bool_str, isi_bool_lst, isi_bool_tup, isi_bool_dct, isi_str_non, isi_str_bl, isi_str_int, isi_str_str, isi_str_lst, isi_str_tup, isi_str_dct, isi_list_non, isi_list_bl, isi_list_int, isi_list_str, isi_list_lst, isi_list_tup, isi_list_dct, isi_tuple_non, isi_tuple_bl, isi_tuple_int, isi_tuple_str, isi_tuple_lst, isi_tuple_tup, isi_tuple_dct, isi_dict_non, isi_dict_bl, isi_dict_int, isi_dict_str, isi_dict_lst, isi_dict_tup, isi_dict_dct, bf_int, bf_intb, bf_abs, bf_lenl, bf_lent, bf_lens, bf_lend, bf_min2, bf_max2, bf_sum, bf_tup, bf_tupt, bf_lst, bf_lstt, bo_add, bo_sub, bo_mul, bo_mod, bo_fdiv, bo_pow, bo_addl, co_lt, co_le, co_gt, co_ge, co_eqi, co_nei, co_eqs, eq_strs, co_is, co_isnot, ix_l, ix_t, tr_bl, tr_int, at_nat, sm_ni, sm_nn, sm_ti, sm_tt, sm_nt, sm_ns, sm_ts, sm_bb, sm_bn, sm_nl, sm_tl, sm_nb, sm_nd, sm_td, ranged_len, lim_lit, asgs_nil, asgs_cons, pat_1, pat_t, forK_nx, forK_ct, forK_bk, forK_rt, forK_exc, forL_nil, forL_cons, it_l, it_t, it_s, ol_l, ow_, mut_l, mut_d, fr_lst, fr_comp, fr_bin, fr_dct, sk_nx, sk_rt, sk_bk, sk_ct, sk_exc, ik_ok, ik_exc, fx_nil, fx_cons, fy_nx, fy_ct, fy_bk, fy_rt, fy_exc, tk_nx, tk_rt, tk_bk, tk_ct, tk_e0, tk_e1, w_skip, w_seq, w_set, w_setO, w_unpack, ak_, w_app, w_put, ps_l, ps_d, pl_i, w_aug, ag_add, ag_sub, w_expr, rv_fz, rv_own, w_ret_var, w_retN, w_ite, w_for, w_while, w_brk, w_cnt, w_raise, w_try, w_frz, e_con, e_var, e_glb, e_bin, e_neg, e_not, e_and, e_or, e_cmp, e_chain, e_ite, e_tup, e_lst, e_dct, e_idx, e_slc, ck_ret, ck_exc, e_call, e_bi1, e_bi2, e_comp, lx_nil, e_efld, e_eisi, nil_e, sub_n, sub_s, gone_rt, gone_nx, hush_nx, hush_rt, lt_lit, xr_con, xr_glb, xr_bin, xr_neg, xr_not, xr_and, xr_or, xr_cmp, xr_chain, xr_ite, xr_tup, xr_lst, xr_dct, xr_idx, xr_slc, xr_call, xr_bi, xr_comp, xr_pop, xr_efld, xr_eisi, at_k0, at_k1, at_k2, at_k3, at_k4, at_k5, at_k6, at_k7, at_k8, at_k9, at_k10, at_k11, at_k12, at_k13, at_k14, at_k15, at_k16, at_k17, at_k18, at_k19, at_k20, or_s, lx_cons, ly_some, ly_none, tx_, op_nil, op_cons, we_nil, we_cons, sp_nil, sp_cons, rp_nil, rp_cons, rg_0, rg_1, rg_2, rg_3, rg_4, rg_5, bls_n, bls_c, ints_n, ints_c, bf_all, bf_any, bf_gcd, bm_var, bn_, bm_lst, e_meth, my_ixl, mf_ix, xr_meth, bf_isqrt, bf_lr1, bf_lr2, bf_min1, bf_max1, mk_c, xk_c, asg_nil, evL, evC, evP, evI, List.map, List.length_cons, List.length_nil, List.cons_append, List.nil_append, List.replicate, if_true, reduceIte, Nat.sub_self, Nat.reduceAdd, Nat.reduceSub, Nat.reduceLT, Bool.false_eq_true, if_false, Bool.not_false, Bool.not_true, Bool.false_and, Bool.true_and, Option.isNone_some, Option.map_some, Nat.reduceEqDiff, Nat.zero_add, Nat.add_zero, Nat.reduceLeDiff, Int.reduceLT, Int.reduceLE, Int.reduceMod, Int.reduceAdd, Int.reduceSub, Int.reduceNeg, Int.reduceMul, Int.reduceBEq, decide_true, decide_false, bne_self_eq_false, BEq.rfl, and_self, Bool.false_or, Bool.true_or, Bool.or_false, Bool.or_true, Option.bind_some, Int.zero_add, Int.toNat_natCast, Int.cast_ofNat_Int, Int.natCast_zero, Int.natCast_one, Int.reduceToNat, Int.reducePow, List.all_cons, List.all_nil, List.any_cons, List.any_nil, id, Bool.not_not, List.length_map, Bool.and_true, Bool.and_false]
theorem RL.cons {rs : List Int} {l : Int} {ls : List Int} (h : RL rs (l :: ls)) : ∃ r rs', rs = r :: rs' ∧ 0 ≤ r ∧ r < l ∧ RL rs' ls := by
  cases rs with
  | nil => exact h.elim
  | cons r rs => exact ⟨r, rs, rfl, h.1.1, h.1.2, h.2⟩
theorem RL.nil {rs : List Int} (h : RL rs []) : rs = [] := by
  cases rs with
  | nil => rfl
  | cons r rs => exact h.elim
theorem nat_of {r l : Int} (h0 : 0 ≤ r) (h1 : r < l) : ∃ k : Nat, r = k ∧ (k : Int) < l := ⟨r.toNat, by omega, by omega⟩
theorem bits_sm {z : Int} (h : PySem.Builtin.Int.intBits z ≤ 1048576) : sm 1100000 z := by
  unfold PySem.Builtin.Int.intBits at h
  unfold sm
  split at h
  · rename_i q
    have : z.natAbs = 0 := by simp_all
    rw [this]; exact Nat.pow_pos (by decide)
  · have q : z.natAbs < 2 ^ (z.natAbs.log2 + 1) := Nat.lt_log2_self
    exact Nat.lt_of_lt_of_le q (Nat.pow_le_pow_right (by decide) (by omega))
end L

namespace L
open MP
variable {n : Nat}
theorem c_is_integer_int (i : Int) : callF G (n + 1) 0 [.int i] = .ret (.bl true) := by rfl
theorem c_is_integer_no {d : D} (h : notInt d = true) : callF G (n + 1) 0 [d] = .ret (.bl false) := by
  cases d <;> first | rfl | cases h
theorem c_in_bounds_int (i lo hi : Int) : callF G (n + 2) 1 [.int i, .int lo, .int hi] = .ret (.bl (decide (lo ≤ i) && decide (i ≤ hi))) := by
  have c_1 : ∀ {n : Nat} {as : List D}, callF G (n + 1) 1 as = runDef G (callF G n) d_in_bounds as := rfl
  simp -implicitDefEqProofs only [c_1, d_in_bounds, b_in_bounds, c_is_integer_int, bind_ok, bind_exc, st_ok, st_exc, seq_nx, seq_rt, seq_bk, seq_ct, seq_exc, opt_s, lift_s, map_s, get_0, get_s, put_0, put_s, run_eq, fin_nx, fin_rt, fin_exc, d_un, d_own, f_own, d_non, f_non, er_non, d_bl, f_bl, er_bl, d_int, f_int, er_int, d_str, f_str, er_str, d_lst, f_lst, er_lst, d_tup, f_tup, er_tup, d_dct, f_dct, er_dct, d_scr, f_scr, er_scr, d_ty, f_ty, er_ty, d_cls, f_cls, er_cls, b1_con, b2_con, bL_con, b1_glb, b2_glb, bL_glb, b1_bin, b2_bin, bL_bin, b1_neg, b2_neg, bL_neg, b1_not, b2_not, bL_not, b1_and, b2_and, bL_and, b1_or, b2_or, bL_or, b1_cmp, b2_cmp, bL_cmp, b1_chain, b2_chain, bL_chain, b1_ite, b2_ite, bL_ite, b1_tup, b2_tup, bL_tup, b1_lst, b2_lst, bL_lst, b1_dct, b2_dct, bL_dct, b1_idx, b2_idx, bL_idx, b1_slc, b2_slc, bL_slc, b1_call, b2_call, bL_call, b1_bi, b2_bi, bL_bi, b1_comp, b2_comp, bL_comp, b1_pop, b2_pop, bL_pop, b1_meth, b2_meth, bL_meth, b1_efld, b2_efld, bL_efld, b1_eisi, b2_eisi, bL_eisi, b1_var, b2_var, bL_var, isi_int_non, isi_int_bl, isi_int_int, isi_int_str, isi_int_lst, isi_int_tup, isi_int_dct, isi_bool_non, isi_bool_bl, isi_bool_int, isi_bool_str, isi_bool_lst, isi_bool_tup, isi_bool_dct, isi_str_non, isi_str_bl, isi_str_int, isi_str_str, isi_str_lst, isi_str_tup, isi_str_dct, isi_list_non, isi_list_bl, isi_list_int, isi_list_str, isi_list_lst, isi_list_tup, isi_list_dct, isi_tuple_non, isi_tuple_bl, isi_tuple_int, isi_tuple_str, isi_tuple_lst, isi_tuple_tup, isi_tuple_dct, isi_dict_non, isi_dict_bl, isi_dict_int, isi_dict_str, isi_dict_lst, isi_dict_tup, isi_dict_dct, bf_int, bf_intb, bf_abs, bf_lenl, bf_lent, bf_lens, bf_lend, bf_min2, bf_max2, bf_sum, bf_tup, bf_tupt, bf_lst, bf_lstt, bo_add, bo_sub, bo_mul, bo_mod, bo_fdiv, bo_pow, bo_addl, co_lt, co_le, co_gt, co_ge, co_eqi, co_nei, co_eqs, eq_strs, co_is, co_isnot, ix_l, ix_t, tr_bl, tr_int, at_nat, sm_ni, sm_nn, sm_ti, sm_tt, sm_nt, sm_ns, sm_ts, sm_bb, sm_bn, sm_nl, sm_tl, sm_nb, sm_nd, sm_td, ranged_len, lim_lit, asgs_nil, asgs_cons, pat_1, pat_t, forK_nx, forK_ct, forK_bk, forK_rt, forK_exc, forL_nil, forL_cons, it_l, it_t, it_s, ol_l, ow_, mut_l, mut_d, fr_lst, fr_comp, fr_bin, fr_dct, sk_nx, sk_rt, sk_bk, sk_ct, sk_exc, ik_ok, ik_exc, fx_nil, fx_cons, fy_nx, fy_ct, fy_bk, fy_rt, fy_exc, tk_nx, tk_rt, tk_bk, tk_ct, tk_e0, tk_e1, w_skip, w_seq, w_set, w_setO, w_unpack, ak_, w_app, w_put, ps_l, ps_d, pl_i, w_aug, ag_add, ag_sub, w_expr, rv_fz, rv_own, w_ret_var, w_retN, w_ite, w_for, w_while, w_brk, w_cnt, w_raise, w_try, w_frz, e_con, e_var, e_glb, e_bin, e_neg, e_not, e_and, e_or, e_cmp, e_chain, e_ite, e_tup, e_lst, e_dct, e_idx, e_slc, ck_ret, ck_exc, e_call, e_bi1, e_bi2, e_comp, lx_nil, e_efld, e_eisi, nil_e, sub_n, sub_s, gone_rt, gone_nx, hush_nx, hush_rt, lt_lit, xr_con, xr_glb, xr_bin, xr_neg, xr_not, xr_and, xr_or, xr_cmp, xr_chain, xr_ite, xr_tup, xr_lst, xr_dct, xr_idx, xr_slc, xr_call, xr_bi, xr_comp, xr_pop, xr_efld, xr_eisi, at_k0, at_k1, at_k2, at_k3, at_k4, at_k5, at_k6, at_k7, at_k8, at_k9, at_k10, at_k11, at_k12, at_k13, at_k14, at_k15, at_k16, at_k17, at_k18, at_k19, at_k20, or_s, lx_cons, ly_some, ly_none, tx_, op_nil, op_cons, we_nil, we_cons, sp_nil, sp_cons, rp_nil, rp_cons, rg_0, rg_1, rg_2, rg_3, rg_4, rg_5, bls_n, bls_c, ints_n, ints_c, bf_all, bf_any, bf_gcd, bm_var, bn_, bm_lst, e_meth, my_ixl, mf_ix, xr_meth, bf_isqrt, bf_lr1, bf_lr2, bf_min1, bf_max1, mk_c, xk_c, asg_nil, evL, evC, evP, evI, List.map, List.length_cons, List.length_nil, List.cons_append, List.nil_append, List.replicate, if_true, reduceIte, Nat.sub_self, Nat.reduceAdd, Nat.reduceSub, Nat.reduceLT, Bool.false_eq_true, if_false, Bool.not_false, Bool.not_true, Bool.false_and, Bool.true_and, Option.isNone_some, Option.map_some, Nat.reduceEqDiff, Nat.zero_add, Nat.add_zero, Nat.reduceLeDiff, Int.reduceLT, Int.reduceLE, Int.reduceMod, Int.reduceAdd, Int.reduceSub, Int.reduceNeg, Int.reduceMul, Int.reduceBEq, decide_true, decide_false, bne_self_eq_false, BEq.rfl, and_self, Bool.false_or, Bool.true_or, Bool.or_false, Bool.or_true, Option.bind_some, Int.zero_add, Int.toNat_natCast, Int.cast_ofNat_Int, Int.natCast_zero, Int.natCast_one, Int.reduceToNat, Int.reducePow, List.all_cons, List.all_nil, List.any_cons, List.any_nil, id, Bool.not_not, List.length_map, Bool.and_true, Bool.and_false]
  by_cases h : lo ≤ i <;> simp -implicitDefEqProofs only [h, decide_true, decide_false, bind_ok, bind_exc, st_ok, st_exc, seq_nx, seq_rt, seq_bk, seq_ct, seq_exc, opt_s, lift_s, map_s, get_0, get_s, put_0, put_s, run_eq, fin_nx, fin_rt, fin_exc, d_un, d_own, f_own, d_non, f_non, er_non, d_bl, f_bl, er_bl, d_int, f_int, er_int, d_str, f_str, er_str, d_lst, f_lst, er_lst, d_tup, f_tup, er_tup, d_dct, f_dct, er_dct, d_scr, f_scr, er_scr, d_ty, f_ty, er_ty, d_cls, f_cls, er_cls, b1_con, b2_con, bL_con, b1_glb, b2_glb, bL_glb, b1_bin, b2_bin, bL_bin, b1_neg, b2_neg, bL_neg, b1_not, b2_not, bL_not, b1_and, b2_and, bL_and, b1_or, b2_or, bL_or, b1_cmp, b2_cmp, bL_cmp, b1_chain, b2_chain, bL_chain, b1_ite, b2_ite, bL_ite, b1_tup, b2_tup, bL_tup, b1_lst, b2_lst, bL_lst, b1_dct, b2_dct, bL_dct, b1_idx, b2_idx, bL_idx, b1_slc, b2_slc, bL_slc, b1_call, b2_call, bL_call, b1_bi, b2_bi, bL_bi, b1_comp, b2_comp, bL_comp, b1_pop, b2_pop, bL_pop, b1_meth, b2_meth, bL_meth, b1_efld, b2_efld, bL_efld, b1_eisi, b2_eisi, bL_eisi, b1_var, b2_var, bL_var, isi_int_non, isi_int_bl, isi_int_int, isi_int_str, isi_int_lst, isi_int_tup, isi_int_dct, isi_bool_non, isi_bool_bl, isi_bool_int, isi_bool_str, isi_bool_lst, isi_bool_tup, isi_bool_dct, isi_str_non, isi_str_bl, isi_str_int, isi_str_str, isi_str_lst, isi_str_tup, isi_str_dct, isi_list_non, isi_list_bl, isi_list_int, isi_list_str, isi_list_lst, isi_list_tup, isi_list_dct, isi_tuple_non, isi_tuple_bl, isi_tuple_int, isi_tuple_str, isi_tuple_lst, isi_tuple_tup, isi_tuple_dct, isi_dict_non, isi_dict_bl, isi_dict_int, isi_dict_str, isi_dict_lst, isi_dict_tup, isi_dict_dct, bf_int, bf_intb, bf_abs, bf_lenl, bf_lent, bf_lens, bf_lend, bf_min2, bf_max2, bf_sum, bf_tup, bf_tupt, bf_lst, bf_lstt, bo_add, bo_sub, bo_mul, bo_mod, bo_fdiv, bo_pow, bo_addl, co_lt, co_le, co_gt, co_ge, co_eqi, co_nei, co_eqs, eq_strs, co_is, co_isnot, ix_l, ix_t, tr_bl, tr_int, at_nat, sm_ni, sm_nn, sm_ti, sm_tt, sm_nt, sm_ns, sm_ts, sm_bb, sm_bn, sm_nl, sm_tl, sm_nb, sm_nd, sm_td, ranged_len, lim_lit, asgs_nil, asgs_cons, pat_1, pat_t, forK_nx, forK_ct, forK_bk, forK_rt, forK_exc, forL_nil, forL_cons, it_l, it_t, it_s, ol_l, ow_, mut_l, mut_d, fr_lst, fr_comp, fr_bin, fr_dct, sk_nx, sk_rt, sk_bk, sk_ct, sk_exc, ik_ok, ik_exc, fx_nil, fx_cons, fy_nx, fy_ct, fy_bk, fy_rt, fy_exc, tk_nx, tk_rt, tk_bk, tk_ct, tk_e0, tk_e1, w_skip, w_seq, w_set, w_setO, w_unpack, ak_, w_app, w_put, ps_l, ps_d, pl_i, w_aug, ag_add, ag_sub, w_expr, rv_fz, rv_own, w_ret_var, w_retN, w_ite, w_for, w_while, w_brk, w_cnt, w_raise, w_try, w_frz, e_con, e_var, e_glb, e_bin, e_neg, e_not, e_and, e_or, e_cmp, e_chain, e_ite, e_tup, e_lst, e_dct, e_idx, e_slc, ck_ret, ck_exc, e_call, e_bi1, e_bi2, e_comp, lx_nil, e_efld, e_eisi, nil_e, sub_n, sub_s, gone_rt, gone_nx, hush_nx, hush_rt, lt_lit, xr_con, xr_glb, xr_bin, xr_neg, xr_not, xr_and, xr_or, xr_cmp, xr_chain, xr_ite, xr_tup, xr_lst, xr_dct, xr_idx, xr_slc, xr_call, xr_bi, xr_comp, xr_pop, xr_efld, xr_eisi, at_k0, at_k1, at_k2, at_k3, at_k4, at_k5, at_k6, at_k7, at_k8, at_k9, at_k10, at_k11, at_k12, at_k13, at_k14, at_k15, at_k16, at_k17, at_k18, at_k19, at_k20, or_s, lx_cons, ly_some, ly_none, tx_, op_nil, op_cons, we_nil, we_cons, sp_nil, sp_cons, rp_nil, rp_cons, rg_0, rg_1, rg_2, rg_3, rg_4, rg_5, bls_n, bls_c, ints_n, ints_c, bf_all, bf_any, bf_gcd, bm_var, bn_, bm_lst, e_meth, my_ixl, mf_ix, xr_meth, bf_isqrt, bf_lr1, bf_lr2, bf_min1, bf_max1, mk_c, xk_c, asg_nil, evL, evC, evP, evI, List.map, List.length_cons, List.length_nil, List.cons_append, List.nil_append, List.replicate, if_true, reduceIte, Nat.sub_self, Nat.reduceAdd, Nat.reduceSub, Nat.reduceLT, Bool.false_eq_true, if_false, Bool.not_false, Bool.not_true, Bool.false_and, Bool.true_and, Option.isNone_some, Option.map_some, Nat.reduceEqDiff, Nat.zero_add, Nat.add_zero, Nat.reduceLeDiff, Int.reduceLT, Int.reduceLE, Int.reduceMod, Int.reduceAdd, Int.reduceSub, Int.reduceNeg, Int.reduceMul, Int.reduceBEq, decide_true, decide_false, bne_self_eq_false, BEq.rfl, and_self, Bool.false_or, Bool.true_or, Bool.or_false, Bool.or_true, Option.bind_some, Int.zero_add, Int.toNat_natCast, Int.cast_ofNat_Int, Int.natCast_zero, Int.natCast_one, Int.reduceToNat, Int.reducePow, List.all_cons, List.all_nil, List.any_cons, List.any_nil, id, Bool.not_not, List.length_map, Bool.and_true, Bool.and_false]
theorem c_in_bounds_no {d : D} (lo hi : Int) (h : notInt d = true) : callF G (n + 2) 1 [d, .int lo, .int hi] = .ret (.bl false) := by
  cases d <;> first | rfl | cases h
def okB (b : Int) : Bool := decide (0 ≤ b) && decide (b ≤ 35)
def okS (b : Int) : Bool := decide (-9 ≤ b) && decide (b ≤ 9)
theorem c_is_bearing_int (b : Int) : callF G (n + 3) 4 [.int b] = .ret (.bl (okB b)) := by
  have c_1 : ∀ {n : Nat} {as : List D}, callF G (n + 1) 4 as = runDef G (callF G n) d_is_bearing as := rfl
  simp -implicitDefEqProofs only [c_1, d_is_bearing, b_is_bearing, c_in_bounds_int, gg_0, gg_1, gg_2, gg_3, gg_4, gg_5, gg_6, gg_7, gg_8, gg_9, gg_10, gg_11, gg_12, gg_13, okB, Int.reduceSub, bind_ok, bind_exc, st_ok, st_exc, seq_nx, seq_rt, seq_bk, seq_ct, seq_exc, opt_s, lift_s, map_s, get_0, get_s, put_0, put_s, run_eq, fin_nx, fin_rt, fin_exc, d_un, d_own, f_own, d_non, f_non, er_non, d_bl, f_bl, er_bl, d_int, f_int, er_int, d_str, f_str, er_str, d_lst, f_lst, er_lst, d_tup, f_tup, er_tup, d_dct, f_dct, er_dct, d_scr, f_scr, er_scr, d_ty, f_ty, er_ty, d_cls, f_cls, er_cls, b1_con, b2_con, bL_con, b1_glb, b2_glb, bL_glb, b1_bin, b2_bin, bL_bin, b1_neg, b2_neg, bL_neg, b1_not, b2_not, bL_not, b1_and, b2_and, bL_and, b1_or, b2_or, bL_or, b1_cmp, b2_cmp, bL_cmp, b1_chain, b2_chain, bL_chain, b1_ite, b2_ite, bL_ite, b1_tup, b2_tup, bL_tup, b1_lst, b2_lst, bL_lst, b1_dct, b2_dct, bL_dct, b1_idx, b2_idx, bL_idx, b1_slc, b2_slc, bL_slc, b1_call, b2_call, bL_call, b1_bi, b2_bi, bL_bi, b1_comp, b2_comp, bL_comp, b1_pop, b2_pop, bL_pop, b1_meth, b2_meth, bL_meth, b1_efld, b2_efld, bL_efld, b1_eisi, b2_eisi, bL_eisi, b1_var, b2_var, bL_var, isi_int_non, isi_int_bl, isi_int_int, isi_int_str, isi_int_lst, isi_int_tup, isi_int_dct, isi_bool_non, isi_bool_bl, isi_bool_int, isi_bool_str, isi_bool_lst, isi_bool_tup, isi_bool_dct, isi_str_non, isi_str_bl, isi_str_int, isi_str_str, isi_str_lst, isi_str_tup, isi_str_dct, isi_list_non, isi_list_bl, isi_list_int, isi_list_str, isi_list_lst, isi_list_tup, isi_list_dct, isi_tuple_non, isi_tuple_bl, isi_tuple_int, isi_tuple_str, isi_tuple_lst, isi_tuple_tup, isi_tuple_dct, isi_dict_non, isi_dict_bl, isi_dict_int, isi_dict_str, isi_dict_lst, isi_dict_tup, isi_dict_dct, bf_int, bf_intb, bf_abs, bf_lenl, bf_lent, bf_lens, bf_lend, bf_min2, bf_max2, bf_sum, bf_tup, bf_tupt, bf_lst, bf_lstt, bo_add, bo_sub, bo_mul, bo_mod, bo_fdiv, bo_pow, bo_addl, co_lt, co_le, co_gt, co_ge, co_eqi, co_nei, co_eqs, eq_strs, co_is, co_isnot, ix_l, ix_t, tr_bl, tr_int, at_nat, sm_ni, sm_nn, sm_ti, sm_tt, sm_nt, sm_ns, sm_ts, sm_bb, sm_bn, sm_nl, sm_tl, sm_nb, sm_nd, sm_td, ranged_len, lim_lit, asgs_nil, asgs_cons, pat_1, pat_t, forK_nx, forK_ct, forK_bk, forK_rt, forK_exc, forL_nil, forL_cons, it_l, it_t, it_s, ol_l, ow_, mut_l, mut_d, fr_lst, fr_comp, fr_bin, fr_dct, sk_nx, sk_rt, sk_bk, sk_ct, sk_exc, ik_ok, ik_exc, fx_nil, fx_cons, fy_nx, fy_ct, fy_bk, fy_rt, fy_exc, tk_nx, tk_rt, tk_bk, tk_ct, tk_e0, tk_e1, w_skip, w_seq, w_set, w_setO, w_unpack, ak_, w_app, w_put, ps_l, ps_d, pl_i, w_aug, ag_add, ag_sub, w_expr, rv_fz, rv_own, w_ret_var, w_retN, w_ite, w_for, w_while, w_brk, w_cnt, w_raise, w_try, w_frz, e_con, e_var, e_glb, e_bin, e_neg, e_not, e_and, e_or, e_cmp, e_chain, e_ite, e_tup, e_lst, e_dct, e_idx, e_slc, ck_ret, ck_exc, e_call, e_bi1, e_bi2, e_comp, lx_nil, e_efld, e_eisi, nil_e, sub_n, sub_s, gone_rt, gone_nx, hush_nx, hush_rt, lt_lit, xr_con, xr_glb, xr_bin, xr_neg, xr_not, xr_and, xr_or, xr_cmp, xr_chain, xr_ite, xr_tup, xr_lst, xr_dct, xr_idx, xr_slc, xr_call, xr_bi, xr_comp, xr_pop, xr_efld, xr_eisi, at_k0, at_k1, at_k2, at_k3, at_k4, at_k5, at_k6, at_k7, at_k8, at_k9, at_k10, at_k11, at_k12, at_k13, at_k14, at_k15, at_k16, at_k17, at_k18, at_k19, at_k20, or_s, lx_cons, ly_some, ly_none, tx_, op_nil, op_cons, we_nil, we_cons, sp_nil, sp_cons, rp_nil, rp_cons, rg_0, rg_1, rg_2, rg_3, rg_4, rg_5, bls_n, bls_c, ints_n, ints_c, bf_all, bf_any, bf_gcd, bm_var, bn_, bm_lst, e_meth, my_ixl, mf_ix, xr_meth, bf_isqrt, bf_lr1, bf_lr2, bf_min1, bf_max1, mk_c, xk_c, asg_nil, evL, evC, evP, evI, List.map, List.length_cons, List.length_nil, List.cons_append, List.nil_append, List.replicate, if_true, reduceIte, Nat.sub_self, Nat.reduceAdd, Nat.reduceSub, Nat.reduceLT, Bool.false_eq_true, if_false, Bool.not_false, Bool.not_true, Bool.false_and, Bool.true_and, Option.isNone_some, Option.map_some, Nat.reduceEqDiff, Nat.zero_add, Nat.add_zero, Nat.reduceLeDiff, Int.reduceLT, Int.reduceLE, Int.reduceMod, Int.reduceAdd, Int.reduceSub, Int.reduceNeg, Int.reduceMul, Int.reduceBEq, decide_true, decide_false, bne_self_eq_false, BEq.rfl, and_self, Bool.false_or, Bool.true_or, Bool.or_false, Bool.or_true, Option.bind_some, Int.zero_add, Int.toNat_natCast, Int.cast_ofNat_Int, Int.natCast_zero, Int.natCast_one, Int.reduceToNat, Int.reducePow, List.all_cons, List.all_nil, List.any_cons, List.any_nil, id, Bool.not_not, List.length_map, Bool.and_true, Bool.and_false]
theorem c_is_bearing_no {d : D} (h : notInt d = true) : callF G (n + 3) 4 [d] = .ret (.bl false) := by
  cases d <;> first | rfl | cases h
theorem c_is_slope_int (b : Int) : callF G (n + 3) 5 [.int b] = .ret (.bl (okS b)) := by
  have c_1 : ∀ {n : Nat} {as : List D}, callF G (n + 1) 5 as = runDef G (callF G n) d_is_slope as := rfl
  simp -implicitDefEqProofs only [c_1, d_is_slope, b_is_slope, c_in_bounds_int, gg_0, gg_1, gg_2, gg_3, gg_4, gg_5, gg_6, gg_7, gg_8, gg_9, gg_10, gg_11, gg_12, gg_13, okS, Int.reduceNeg, bind_ok, bind_exc, st_ok, st_exc, seq_nx, seq_rt, seq_bk, seq_ct, seq_exc, opt_s, lift_s, map_s, get_0, get_s, put_0, put_s, run_eq, fin_nx, fin_rt, fin_exc, d_un, d_own, f_own, d_non, f_non, er_non, d_bl, f_bl, er_bl, d_int, f_int, er_int, d_str, f_str, er_str, d_lst, f_lst, er_lst, d_tup, f_tup, er_tup, d_dct, f_dct, er_dct, d_scr, f_scr, er_scr, d_ty, f_ty, er_ty, d_cls, f_cls, er_cls, b1_con, b2_con, bL_con, b1_glb, b2_glb, bL_glb, b1_bin, b2_bin, bL_bin, b1_neg, b2_neg, bL_neg, b1_not, b2_not, bL_not, b1_and, b2_and, bL_and, b1_or, b2_or, bL_or, b1_cmp, b2_cmp, bL_cmp, b1_chain, b2_chain, bL_chain, b1_ite, b2_ite, bL_ite, b1_tup, b2_tup, bL_tup, b1_lst, b2_lst, bL_lst, b1_dct, b2_dct, bL_dct, b1_idx, b2_idx, bL_idx, b1_slc, b2_slc, bL_slc, b1_call, b2_call, bL_call, b1_bi, b2_bi, bL_bi, b1_comp, b2_comp, bL_comp, b1_pop, b2_pop, bL_pop, b1_meth, b2_meth, bL_meth, b1_efld, b2_efld, bL_efld, b1_eisi, b2_eisi, bL_eisi, b1_var, b2_var, bL_var, isi_int_non, isi_int_bl, isi_int_int, isi_int_str, isi_int_lst, isi_int_tup, isi_int_dct, isi_bool_non, isi_bool_bl, isi_bool_int, isi_bool_str, isi_bool_lst, isi_bool_tup, isi_bool_dct, isi_str_non, isi_str_bl, isi_str_int, isi_str_str, isi_str_lst, isi_str_tup, isi_str_dct, isi_list_non, isi_list_bl, isi_list_int, isi_list_str, isi_list_lst, isi_list_tup, isi_list_dct, isi_tuple_non, isi_tuple_bl, isi_tuple_int, isi_tuple_str, isi_tuple_lst, isi_tuple_tup, isi_tuple_dct, isi_dict_non, isi_dict_bl, isi_dict_int, isi_dict_str, isi_dict_lst, isi_dict_tup, isi_dict_dct, bf_int, bf_intb, bf_abs, bf_lenl, bf_lent, bf_lens, bf_lend, bf_min2, bf_max2, bf_sum, bf_tup, bf_tupt, bf_lst, bf_lstt, bo_add, bo_sub, bo_mul, bo_mod, bo_fdiv, bo_pow, bo_addl, co_lt, co_le, co_gt, co_ge, co_eqi, co_nei, co_eqs, eq_strs, co_is, co_isnot, ix_l, ix_t, tr_bl, tr_int, at_nat, sm_ni, sm_nn, sm_ti, sm_tt, sm_nt, sm_ns, sm_ts, sm_bb, sm_bn, sm_nl, sm_tl, sm_nb, sm_nd, sm_td, ranged_len, lim_lit, asgs_nil, asgs_cons, pat_1, pat_t, forK_nx, forK_ct, forK_bk, forK_rt, forK_exc, forL_nil, forL_cons, it_l, it_t, it_s, ol_l, ow_, mut_l, mut_d, fr_lst, fr_comp, fr_bin, fr_dct, sk_nx, sk_rt, sk_bk, sk_ct, sk_exc, ik_ok, ik_exc, fx_nil, fx_cons, fy_nx, fy_ct, fy_bk, fy_rt, fy_exc, tk_nx, tk_rt, tk_bk, tk_ct, tk_e0, tk_e1, w_skip, w_seq, w_set, w_setO, w_unpack, ak_, w_app, w_put, ps_l, ps_d, pl_i, w_aug, ag_add, ag_sub, w_expr, rv_fz, rv_own, w_ret_var, w_retN, w_ite, w_for, w_while, w_brk, w_cnt, w_raise, w_try, w_frz, e_con, e_var, e_glb, e_bin, e_neg, e_not, e_and, e_or, e_cmp, e_chain, e_ite, e_tup, e_lst, e_dct, e_idx, e_slc, ck_ret, ck_exc, e_call, e_bi1, e_bi2, e_comp, lx_nil, e_efld, e_eisi, nil_e, sub_n, sub_s, gone_rt, gone_nx, hush_nx, hush_rt, lt_lit, xr_con, xr_glb, xr_bin, xr_neg, xr_not, xr_and, xr_or, xr_cmp, xr_chain, xr_ite, xr_tup, xr_lst, xr_dct, xr_idx, xr_slc, xr_call, xr_bi, xr_comp, xr_pop, xr_efld, xr_eisi, at_k0, at_k1, at_k2, at_k3, at_k4, at_k5, at_k6, at_k7, at_k8, at_k9, at_k10, at_k11, at_k12, at_k13, at_k14, at_k15, at_k16, at_k17, at_k18, at_k19, at_k20, or_s, lx_cons, ly_some, ly_none, tx_, op_nil, op_cons, we_nil, we_cons, sp_nil, sp_cons, rp_nil, rp_cons, rg_0, rg_1, rg_2, rg_3, rg_4, rg_5, bls_n, bls_c, ints_n, ints_c, bf_all, bf_any, bf_gcd, bm_var, bn_, bm_lst, e_meth, my_ixl, mf_ix, xr_meth, bf_isqrt, bf_lr1, bf_lr2, bf_min1, bf_max1, mk_c, xk_c, asg_nil, evL, evC, evP, evI, List.map, List.length_cons, List.length_nil, List.cons_append, List.nil_append, List.replicate, if_true, reduceIte, Nat.sub_self, Nat.reduceAdd, Nat.reduceSub, Nat.reduceLT, Bool.false_eq_true, if_false, Bool.not_false, Bool.not_true, Bool.false_and, Bool.true_and, Option.isNone_some, Option.map_some, Nat.reduceEqDiff, Nat.zero_add, Nat.add_zero, Nat.reduceLeDiff, Int.reduceLT, Int.reduceLE, Int.reduceMod, Int.reduceAdd, Int.reduceSub, Int.reduceNeg, Int.reduceMul, Int.reduceBEq, decide_true, decide_false, bne_self_eq_false, BEq.rfl, and_self, Bool.false_or, Bool.true_or, Bool.or_false, Bool.or_true, Option.bind_some, Int.zero_add, Int.toNat_natCast, Int.cast_ofNat_Int, Int.natCast_zero, Int.natCast_one, Int.reduceToNat, Int.reducePow, List.all_cons, List.all_nil, List.any_cons, List.any_nil, id, Bool.not_not, List.length_map, Bool.and_true, Bool.and_false]
theorem c_is_slope_no {d : D} (h : notInt d = true) : callF G (n + 3) 5 [d] = .ret (.bl false) := by
  cases d <;> first | rfl | cases h
/-- the table -/
def E : List Int := [0, 16, 25, 33, 39, 52, 56, 60, 63, 65, 63, 60, 56, 52, 39, 33, 25, 16, 0, -16, -25, -33, -39, -52, -56, -60, -63, -65, -63, -60, -56, -52, -39, -33, -25, -16]
def ea (x : Int) : Int := E.getD (x % 36).toNat 0
theorem low (x : Int) (h : okB x = true) : ∃ k : Nat, k < 36 ∧ x = k := by
  unfold okB at h
  simp only [Bool.and_eq_true, decide_eq_true_eq] at h
  exact ⟨x.toNat, by omega, by omega⟩
theorem ea_nat : ∀ k < 36, ea (k : Nat) = E.getD k 0 := by decide
theorem c_law_east (x : Int) : callF G (n + 1) 27 [.int x] = .ret (.int (ea x)) := by
  have c_1 : ∀ {n : Nat} {as : List D}, callF G (n + 1) 27 as = runDef G (callF G n) d__law_east as := rfl
  obtain ⟨k, hk, e⟩ : ∃ k : Nat, k < 36 ∧ x % 36 = k := ⟨(x % 36).toNat, by omega, by omega⟩
  unfold ea
  simp -implicitDefEqProofs only [c_1, d__law_east, b__law_east, bind_ok, bind_exc, st_ok, st_exc, seq_nx, seq_rt, seq_bk, seq_ct, seq_exc, opt_s, lift_s, map_s, get_0, get_s, put_0, put_s, run_eq, fin_nx, fin_rt, fin_exc, d_un, d_own, f_own, d_non, f_non, er_non, d_bl, f_bl, er_bl, d_int, f_int, er_int, d_str, f_str, er_str, d_lst, f_lst, er_lst, d_tup, f_tup, er_tup, d_dct, f_dct, er_dct, d_scr, f_scr, er_scr, d_ty, f_ty, er_ty, d_cls, f_cls, er_cls, b1_con, b2_con, bL_con, b1_glb, b2_glb, bL_glb, b1_bin, b2_bin, bL_bin, b1_neg, b2_neg, bL_neg, b1_not, b2_not, bL_not, b1_and, b2_and, bL_and, b1_or, b2_or, bL_or, b1_cmp, b2_cmp, bL_cmp, b1_chain, b2_chain, bL_chain, b1_ite, b2_ite, bL_ite, b1_tup, b2_tup, bL_tup, b1_lst, b2_lst, bL_lst, b1_dct, b2_dct, bL_dct, b1_idx, b2_idx, bL_idx, b1_slc, b2_slc, bL_slc, b1_call, b2_call, bL_call, b1_bi, b2_bi, bL_bi, b1_comp, b2_comp, bL_comp, b1_pop, b2_pop, bL_pop, b1_meth, b2_meth, bL_meth, b1_efld, b2_efld, bL_efld, b1_eisi, b2_eisi, bL_eisi, b1_var, b2_var, bL_var, isi_int_non, isi_int_bl, isi_int_int, isi_int_str, isi_int_lst, isi_int_tup, isi_int_dct, isi_bool_non, isi_bool_bl, isi_bool_int, isi_bool_str, isi_bool_lst, isi_bool_tup, isi_bool_dct, isi_str_non, isi_str_bl, isi_str_int, isi_str_str, isi_str_lst, isi_str_tup, isi_str_dct, isi_list_non, isi_list_bl, isi_list_int, isi_list_str, isi_list_lst, isi_list_tup, isi_list_dct, isi_tuple_non, isi_tuple_bl, isi_tuple_int, isi_tuple_str, isi_tuple_lst, isi_tuple_tup, isi_tuple_dct, isi_dict_non, isi_dict_bl, isi_dict_int, isi_dict_str, isi_dict_lst, isi_dict_tup, isi_dict_dct, bf_int, bf_intb, bf_abs, bf_lenl, bf_lent, bf_lens, bf_lend, bf_min2, bf_max2, bf_sum, bf_tup, bf_tupt, bf_lst, bf_lstt, bo_add, bo_sub, bo_mul, bo_mod, bo_fdiv, bo_pow, bo_addl, co_lt, co_le, co_gt, co_ge, co_eqi, co_nei, co_eqs, eq_strs, co_is, co_isnot, ix_l, ix_t, tr_bl, tr_int, at_nat, sm_ni, sm_nn, sm_ti, sm_tt, sm_nt, sm_ns, sm_ts, sm_bb, sm_bn, sm_nl, sm_tl, sm_nb, sm_nd, sm_td, ranged_len, lim_lit, asgs_nil, asgs_cons, pat_1, pat_t, forK_nx, forK_ct, forK_bk, forK_rt, forK_exc, forL_nil, forL_cons, it_l, it_t, it_s, ol_l, ow_, mut_l, mut_d, fr_lst, fr_comp, fr_bin, fr_dct, sk_nx, sk_rt, sk_bk, sk_ct, sk_exc, ik_ok, ik_exc, fx_nil, fx_cons, fy_nx, fy_ct, fy_bk, fy_rt, fy_exc, tk_nx, tk_rt, tk_bk, tk_ct, tk_e0, tk_e1, w_skip, w_seq, w_set, w_setO, w_unpack, ak_, w_app, w_put, ps_l, ps_d, pl_i, w_aug, ag_add, ag_sub, w_expr, rv_fz, rv_own, w_ret_var, w_retN, w_ite, w_for, w_while, w_brk, w_cnt, w_raise, w_try, w_frz, e_con, e_var, e_glb, e_bin, e_neg, e_not, e_and, e_or, e_cmp, e_chain, e_ite, e_tup, e_lst, e_dct, e_idx, e_slc, ck_ret, ck_exc, e_call, e_bi1, e_bi2, e_comp, lx_nil, e_efld, e_eisi, nil_e, sub_n, sub_s, gone_rt, gone_nx, hush_nx, hush_rt, lt_lit, xr_con, xr_glb, xr_bin, xr_neg, xr_not, xr_and, xr_or, xr_cmp, xr_chain, xr_ite, xr_tup, xr_lst, xr_dct, xr_idx, xr_slc, xr_call, xr_bi, xr_comp, xr_pop, xr_efld, xr_eisi, at_k0, at_k1, at_k2, at_k3, at_k4, at_k5, at_k6, at_k7, at_k8, at_k9, at_k10, at_k11, at_k12, at_k13, at_k14, at_k15, at_k16, at_k17, at_k18, at_k19, at_k20, or_s, lx_cons, ly_some, ly_none, tx_, op_nil, op_cons, we_nil, we_cons, sp_nil, sp_cons, rp_nil, rp_cons, rg_0, rg_1, rg_2, rg_3, rg_4, rg_5, bls_n, bls_c, ints_n, ints_c, bf_all, bf_any, bf_gcd, bm_var, bn_, bm_lst, e_meth, my_ixl, mf_ix, xr_meth, bf_isqrt, bf_lr1, bf_lr2, bf_min1, bf_max1, mk_c, xk_c, asg_nil, evL, evC, evP, evI, List.map, List.length_cons, List.length_nil, List.cons_append, List.nil_append, List.replicate, if_true, reduceIte, Nat.sub_self, Nat.reduceAdd, Nat.reduceSub, Nat.reduceLT, Bool.false_eq_true, if_false, Bool.not_false, Bool.not_true, Bool.false_and, Bool.true_and, Option.isNone_some, Option.map_some, Nat.reduceEqDiff, Nat.zero_add, Nat.add_zero, Nat.reduceLeDiff, Int.reduceLT, Int.reduceLE, Int.reduceMod, Int.reduceAdd, Int.reduceSub, Int.reduceNeg, Int.reduceMul, Int.reduceBEq, decide_true, decide_false, bne_self_eq_false, BEq.rfl, and_self, Bool.false_or, Bool.true_or, Bool.or_false, Bool.or_true, Option.bind_some, Int.zero_add, Int.toNat_natCast, Int.cast_ofNat_Int, Int.natCast_zero, Int.natCast_one, Int.reduceToNat, Int.reducePow, List.all_cons, List.all_nil, List.any_cons, List.any_nil, id, Bool.not_not, List.length_map, Bool.and_true, Bool.and_false]
  rw [e]
  exact match k, hk with
  | 0, _ => rfl | 1, _ => rfl | 2, _ => rfl | 3, _ => rfl | 4, _ => rfl | 5, _ => rfl | 6, _ => rfl | 7, _ => rfl | 8, _ => rfl | 9, _ => rfl | 10, _ => rfl | 11, _ => rfl
  | 12, _ => rfl | 13, _ => rfl | 14, _ => rfl | 15, _ => rfl | 16, _ => rfl | 17, _ => rfl | 18, _ => rfl | 19, _ => rfl | 20, _ => rfl | 21, _ => rfl | 22, _ => rfl | 23, _ => rfl
  | 24, _ => rfl | 25, _ => rfl | 26, _ => rfl | 27, _ => rfl | 28, _ => rfl | 29, _ => rfl | 30, _ => rfl | 31, _ => rfl | 32, _ => rfl | 33, _ => rfl | 34, _ => rfl | 35, _ => rfl
  | k + 36, h => absurd h (by omega)
theorem c_east (x : Int) (h : okB x = true) : callF G (n + 1) 6 [.int x] = .ret (.int (ea x)) := by
  obtain ⟨k, hk, rfl⟩ := low x h
  rw [ea_nat k hk]
  exact match k, hk with
  | 0, _ => rfl | 1, _ => rfl | 2, _ => rfl | 3, _ => rfl | 4, _ => rfl | 5, _ => rfl | 6, _ => rfl | 7, _ => rfl | 8, _ => rfl | 9, _ => rfl | 10, _ => rfl | 11, _ => rfl
  | 12, _ => rfl | 13, _ => rfl | 14, _ => rfl | 15, _ => rfl | 16, _ => rfl | 17, _ => rfl | 18, _ => rfl | 19, _ => rfl | 20, _ => rfl | 21, _ => rfl | 22, _ => rfl | 23, _ => rfl
  | 24, _ => rfl | 25, _ => rfl | 26, _ => rfl | 27, _ => rfl | 28, _ => rfl | 29, _ => rfl | 30, _ => rfl | 31, _ => rfl | 32, _ => rfl | 33, _ => rfl | 34, _ => rfl | 35, _ => rfl
  | k + 36, h => absurd h (by omega)
theorem c_north (x : Int) (h : okB x = true) : callF G (n + 1) 7 [.int x] = .ret (.int (ea (x + 9))) := by
  obtain ⟨k, hk, rfl⟩ := low x h
  exact match k, hk with
  | 0, _ => rfl | 1, _ => rfl | 2, _ => rfl | 3, _ => rfl | 4, _ => rfl | 5, _ => rfl | 6, _ => rfl | 7, _ => rfl | 8, _ => rfl | 9, _ => rfl | 10, _ => rfl | 11, _ => rfl
  | 12, _ => rfl | 13, _ => rfl | 14, _ => rfl | 15, _ => rfl | 16, _ => rfl | 17, _ => rfl | 18, _ => rfl | 19, _ => rfl | 20, _ => rfl | 21, _ => rfl | 22, _ => rfl | 23, _ => rfl
  | 24, _ => rfl | 25, _ => rfl | 26, _ => rfl | 27, _ => rfl | 28, _ => rfl | 29, _ => rfl | 30, _ => rfl | 31, _ => rfl | 32, _ => rfl | 33, _ => rfl | 34, _ => rfl | 35, _ => rfl
  | k + 36, h => absurd h (by omega)
theorem lowS (x : Int) (h : okS x = true) : ∃ k : Nat, k < 19 ∧ x = k - 9 := by
  unfold okS at h
  simp only [Bool.and_eq_true, decide_eq_true_eq] at h
  exact ⟨(x + 9).toNat, by omega, by omega⟩
def le (x : Int) : Int := ea (9 - (if x < 0 then -x else x))
theorem c_level (x : Int) (h : okS x = true) : callF G (n + 1) 8 [.int x] = .ret (.int (le x)) := by
  obtain ⟨k, hk, rfl⟩ := lowS x h
  exact match k, hk with
  | 0, _ => rfl | 1, _ => rfl | 2, _ => rfl | 3, _ => rfl | 4, _ => rfl | 5, _ => rfl | 6, _ => rfl | 7, _ => rfl | 8, _ => rfl | 9, _ => rfl
  | 10, _ => rfl | 11, _ => rfl | 12, _ => rfl | 13, _ => rfl | 14, _ => rfl | 15, _ => rfl | 16, _ => rfl | 17, _ => rfl | 18, _ => rfl
  | k + 19, h => absurd h (by omega)
theorem c_rise (x : Int) (h : okS x = true) : callF G (n + 1) 9 [.int x] = .ret (.int (ea x)) := by
  obtain ⟨k, hk, rfl⟩ := lowS x h
  exact match k, hk with
  | 0, _ => rfl | 1, _ => rfl | 2, _ => rfl | 3, _ => rfl | 4, _ => rfl | 5, _ => rfl | 6, _ => rfl | 7, _ => rfl | 8, _ => rfl | 9, _ => rfl
  | 10, _ => rfl | 11, _ => rfl | 12, _ => rfl | 13, _ => rfl | 14, _ => rfl | 15, _ => rfl | 16, _ => rfl | 17, _ => rfl | 18, _ => rfl
  | k + 19, h => absurd h (by omega)
theorem ea_sm (x : Int) : sm 7 (ea x) := by
  unfold ea sm
  have : ∀ k < 36, (E.getD k 0).natAbs < 2 ^ 7 := by decide
  exact this _ (by omega)
theorem le_sm (x : Int) : sm 7 (le x) := ea_sm _
abbrev vc (a b c : Int) : D := .tup [.int a, .int b, .int c]
theorem c_triple (h b s : Int) (hh : sm 200 h) (hb : okB b = true) (hs : okS s = true) : callF G (n + 2) 19 [.int h, .int b, .int s] = .ret (vc (h * le s * ea b) (h * le s * ea (b + 9)) (h * 65 * ea s)) := by
  have c_1 : ∀ {n : Nat} {as : List D}, callF G (n + 1) 19 as = runDef G (callF G n) d_triple_vector as := rfl
  have m1 := mulS hh (le_sm s)
  have m2 := mulS hh (lit 65 7)
  have m3 := mulS (hh.mul (lit 65 7)) (ea_sm s)
  have m4 := mulS (hh.mul (le_sm s)) (ea_sm b)
  have m5 := mulS (hh.mul (le_sm s)) (ea_sm (b + 9))
  simp -implicitDefEqProofs only [c_1, d_triple_vector, b_triple_vector, gg_0, gg_1, gg_2, gg_3, gg_4, gg_5, gg_6, gg_7, gg_8, gg_9, gg_10, gg_11, gg_12, gg_13, c_level s hs, c_rise s hs, c_east b hb, c_north b hb, m1, m2, m3, m4, m5, bind_ok, bind_exc, st_ok, st_exc, seq_nx, seq_rt, seq_bk, seq_ct, seq_exc, opt_s, lift_s, map_s, get_0, get_s, put_0, put_s, run_eq, fin_nx, fin_rt, fin_exc, d_un, d_own, f_own, d_non, f_non, er_non, d_bl, f_bl, er_bl, d_int, f_int, er_int, d_str, f_str, er_str, d_lst, f_lst, er_lst, d_tup, f_tup, er_tup, d_dct, f_dct, er_dct, d_scr, f_scr, er_scr, d_ty, f_ty, er_ty, d_cls, f_cls, er_cls, b1_con, b2_con, bL_con, b1_glb, b2_glb, bL_glb, b1_bin, b2_bin, bL_bin, b1_neg, b2_neg, bL_neg, b1_not, b2_not, bL_not, b1_and, b2_and, bL_and, b1_or, b2_or, bL_or, b1_cmp, b2_cmp, bL_cmp, b1_chain, b2_chain, bL_chain, b1_ite, b2_ite, bL_ite, b1_tup, b2_tup, bL_tup, b1_lst, b2_lst, bL_lst, b1_dct, b2_dct, bL_dct, b1_idx, b2_idx, bL_idx, b1_slc, b2_slc, bL_slc, b1_call, b2_call, bL_call, b1_bi, b2_bi, bL_bi, b1_comp, b2_comp, bL_comp, b1_pop, b2_pop, bL_pop, b1_meth, b2_meth, bL_meth, b1_efld, b2_efld, bL_efld, b1_eisi, b2_eisi, bL_eisi, b1_var, b2_var, bL_var, isi_int_non, isi_int_bl, isi_int_int, isi_int_str, isi_int_lst, isi_int_tup, isi_int_dct, isi_bool_non, isi_bool_bl, isi_bool_int, isi_bool_str, isi_bool_lst, isi_bool_tup, isi_bool_dct, isi_str_non, isi_str_bl, isi_str_int, isi_str_str, isi_str_lst, isi_str_tup, isi_str_dct, isi_list_non, isi_list_bl, isi_list_int, isi_list_str, isi_list_lst, isi_list_tup, isi_list_dct, isi_tuple_non, isi_tuple_bl, isi_tuple_int, isi_tuple_str, isi_tuple_lst, isi_tuple_tup, isi_tuple_dct, isi_dict_non, isi_dict_bl, isi_dict_int, isi_dict_str, isi_dict_lst, isi_dict_tup, isi_dict_dct, bf_int, bf_intb, bf_abs, bf_lenl, bf_lent, bf_lens, bf_lend, bf_min2, bf_max2, bf_sum, bf_tup, bf_tupt, bf_lst, bf_lstt, bo_add, bo_sub, bo_mul, bo_mod, bo_fdiv, bo_pow, bo_addl, co_lt, co_le, co_gt, co_ge, co_eqi, co_nei, co_eqs, eq_strs, co_is, co_isnot, ix_l, ix_t, tr_bl, tr_int, at_nat, sm_ni, sm_nn, sm_ti, sm_tt, sm_nt, sm_ns, sm_ts, sm_bb, sm_bn, sm_nl, sm_tl, sm_nb, sm_nd, sm_td, ranged_len, lim_lit, asgs_nil, asgs_cons, pat_1, pat_t, forK_nx, forK_ct, forK_bk, forK_rt, forK_exc, forL_nil, forL_cons, it_l, it_t, it_s, ol_l, ow_, mut_l, mut_d, fr_lst, fr_comp, fr_bin, fr_dct, sk_nx, sk_rt, sk_bk, sk_ct, sk_exc, ik_ok, ik_exc, fx_nil, fx_cons, fy_nx, fy_ct, fy_bk, fy_rt, fy_exc, tk_nx, tk_rt, tk_bk, tk_ct, tk_e0, tk_e1, w_skip, w_seq, w_set, w_setO, w_unpack, ak_, w_app, w_put, ps_l, ps_d, pl_i, w_aug, ag_add, ag_sub, w_expr, rv_fz, rv_own, w_ret_var, w_retN, w_ite, w_for, w_while, w_brk, w_cnt, w_raise, w_try, w_frz, e_con, e_var, e_glb, e_bin, e_neg, e_not, e_and, e_or, e_cmp, e_chain, e_ite, e_tup, e_lst, e_dct, e_idx, e_slc, ck_ret, ck_exc, e_call, e_bi1, e_bi2, e_comp, lx_nil, e_efld, e_eisi, nil_e, sub_n, sub_s, gone_rt, gone_nx, hush_nx, hush_rt, lt_lit, xr_con, xr_glb, xr_bin, xr_neg, xr_not, xr_and, xr_or, xr_cmp, xr_chain, xr_ite, xr_tup, xr_lst, xr_dct, xr_idx, xr_slc, xr_call, xr_bi, xr_comp, xr_pop, xr_efld, xr_eisi, at_k0, at_k1, at_k2, at_k3, at_k4, at_k5, at_k6, at_k7, at_k8, at_k9, at_k10, at_k11, at_k12, at_k13, at_k14, at_k15, at_k16, at_k17, at_k18, at_k19, at_k20, or_s, lx_cons, ly_some, ly_none, tx_, op_nil, op_cons, we_nil, we_cons, sp_nil, sp_cons, rp_nil, rp_cons, rg_0, rg_1, rg_2, rg_3, rg_4, rg_5, bls_n, bls_c, ints_n, ints_c, bf_all, bf_any, bf_gcd, bm_var, bn_, bm_lst, e_meth, my_ixl, mf_ix, xr_meth, bf_isqrt, bf_lr1, bf_lr2, bf_min1, bf_max1, mk_c, xk_c, asg_nil, evL, evC, evP, evI, List.map, List.length_cons, List.length_nil, List.cons_append, List.nil_append, List.replicate, if_true, reduceIte, Nat.sub_self, Nat.reduceAdd, Nat.reduceSub, Nat.reduceLT, Bool.false_eq_true, if_false, Bool.not_false, Bool.not_true, Bool.false_and, Bool.true_and, Option.isNone_some, Option.map_some, Nat.reduceEqDiff, Nat.zero_add, Nat.add_zero, Nat.reduceLeDiff, Int.reduceLT, Int.reduceLE, Int.reduceMod, Int.reduceAdd, Int.reduceSub, Int.reduceNeg, Int.reduceMul, Int.reduceBEq, decide_true, decide_false, bne_self_eq_false, BEq.rfl, and_self, Bool.false_or, Bool.true_or, Bool.or_false, Bool.or_true, Option.bind_some, Int.zero_add, Int.toNat_natCast, Int.cast_ofNat_Int, Int.natCast_zero, Int.natCast_one, Int.reduceToNat, Int.reducePow, List.all_cons, List.all_nil, List.any_cons, List.any_nil, id, Bool.not_not, List.length_map, Bool.and_true, Bool.and_false]
theorem c_law_vector (h b s : Int) (hh : sm 200 h) : callF G (n + 2) 28 [.int h, .int b, .int s] = .ret (vc (h * le s * ea b) (h * le s * ea (b + 9)) (h * 65 * ea s)) := by
  have c_1 : ∀ {n : Nat} {as : List D}, callF G (n + 1) 28 as = runDef G (callF G n) d__law_vector as := rfl
  have m1 := mulS hh (le_sm s)
  have m2 := mulS hh (lit 65 7)
  have m3 := mulS (hh.mul (lit 65 7)) (ea_sm s)
  have m4 := mulS (hh.mul (le_sm s)) (ea_sm b)
  have m5 := mulS (hh.mul (le_sm s)) (ea_sm (b + 9))
  unfold le at *
  simp -implicitDefEqProofs only [c_1, d__law_vector, b__law_vector, gg_0, gg_1, gg_2, gg_3, gg_4, gg_5, gg_6, gg_7, gg_8, gg_9, gg_10, gg_11, gg_12, gg_13, c_law_east, m1, m2, m3, m4, m5, bind_ok, bind_exc, st_ok, st_exc, seq_nx, seq_rt, seq_bk, seq_ct, seq_exc, opt_s, lift_s, map_s, get_0, get_s, put_0, put_s, run_eq, fin_nx, fin_rt, fin_exc, d_un, d_own, f_own, d_non, f_non, er_non, d_bl, f_bl, er_bl, d_int, f_int, er_int, d_str, f_str, er_str, d_lst, f_lst, er_lst, d_tup, f_tup, er_tup, d_dct, f_dct, er_dct, d_scr, f_scr, er_scr, d_ty, f_ty, er_ty, d_cls, f_cls, er_cls, b1_con, b2_con, bL_con, b1_glb, b2_glb, bL_glb, b1_bin, b2_bin, bL_bin, b1_neg, b2_neg, bL_neg, b1_not, b2_not, bL_not, b1_and, b2_and, bL_and, b1_or, b2_or, bL_or, b1_cmp, b2_cmp, bL_cmp, b1_chain, b2_chain, bL_chain, b1_ite, b2_ite, bL_ite, b1_tup, b2_tup, bL_tup, b1_lst, b2_lst, bL_lst, b1_dct, b2_dct, bL_dct, b1_idx, b2_idx, bL_idx, b1_slc, b2_slc, bL_slc, b1_call, b2_call, bL_call, b1_bi, b2_bi, bL_bi, b1_comp, b2_comp, bL_comp, b1_pop, b2_pop, bL_pop, b1_meth, b2_meth, bL_meth, b1_efld, b2_efld, bL_efld, b1_eisi, b2_eisi, bL_eisi, b1_var, b2_var, bL_var, isi_int_non, isi_int_bl, isi_int_int, isi_int_str, isi_int_lst, isi_int_tup, isi_int_dct, isi_bool_non, isi_bool_bl, isi_bool_int, isi_bool_str, isi_bool_lst, isi_bool_tup, isi_bool_dct, isi_str_non, isi_str_bl, isi_str_int, isi_str_str, isi_str_lst, isi_str_tup, isi_str_dct, isi_list_non, isi_list_bl, isi_list_int, isi_list_str, isi_list_lst, isi_list_tup, isi_list_dct, isi_tuple_non, isi_tuple_bl, isi_tuple_int, isi_tuple_str, isi_tuple_lst, isi_tuple_tup, isi_tuple_dct, isi_dict_non, isi_dict_bl, isi_dict_int, isi_dict_str, isi_dict_lst, isi_dict_tup, isi_dict_dct, bf_int, bf_intb, bf_abs, bf_lenl, bf_lent, bf_lens, bf_lend, bf_min2, bf_max2, bf_sum, bf_tup, bf_tupt, bf_lst, bf_lstt, bo_add, bo_sub, bo_mul, bo_mod, bo_fdiv, bo_pow, bo_addl, co_lt, co_le, co_gt, co_ge, co_eqi, co_nei, co_eqs, eq_strs, co_is, co_isnot, ix_l, ix_t, tr_bl, tr_int, at_nat, sm_ni, sm_nn, sm_ti, sm_tt, sm_nt, sm_ns, sm_ts, sm_bb, sm_bn, sm_nl, sm_tl, sm_nb, sm_nd, sm_td, ranged_len, lim_lit, asgs_nil, asgs_cons, pat_1, pat_t, forK_nx, forK_ct, forK_bk, forK_rt, forK_exc, forL_nil, forL_cons, it_l, it_t, it_s, ol_l, ow_, mut_l, mut_d, fr_lst, fr_comp, fr_bin, fr_dct, sk_nx, sk_rt, sk_bk, sk_ct, sk_exc, ik_ok, ik_exc, fx_nil, fx_cons, fy_nx, fy_ct, fy_bk, fy_rt, fy_exc, tk_nx, tk_rt, tk_bk, tk_ct, tk_e0, tk_e1, w_skip, w_seq, w_set, w_setO, w_unpack, ak_, w_app, w_put, ps_l, ps_d, pl_i, w_aug, ag_add, ag_sub, w_expr, rv_fz, rv_own, w_ret_var, w_retN, w_ite, w_for, w_while, w_brk, w_cnt, w_raise, w_try, w_frz, e_con, e_var, e_glb, e_bin, e_neg, e_not, e_and, e_or, e_cmp, e_chain, e_ite, e_tup, e_lst, e_dct, e_idx, e_slc, ck_ret, ck_exc, e_call, e_bi1, e_bi2, e_comp, lx_nil, e_efld, e_eisi, nil_e, sub_n, sub_s, gone_rt, gone_nx, hush_nx, hush_rt, lt_lit, xr_con, xr_glb, xr_bin, xr_neg, xr_not, xr_and, xr_or, xr_cmp, xr_chain, xr_ite, xr_tup, xr_lst, xr_dct, xr_idx, xr_slc, xr_call, xr_bi, xr_comp, xr_pop, xr_efld, xr_eisi, at_k0, at_k1, at_k2, at_k3, at_k4, at_k5, at_k6, at_k7, at_k8, at_k9, at_k10, at_k11, at_k12, at_k13, at_k14, at_k15, at_k16, at_k17, at_k18, at_k19, at_k20, or_s, lx_cons, ly_some, ly_none, tx_, op_nil, op_cons, we_nil, we_cons, sp_nil, sp_cons, rp_nil, rp_cons, rg_0, rg_1, rg_2, rg_3, rg_4, rg_5, bls_n, bls_c, ints_n, ints_c, bf_all, bf_any, bf_gcd, bm_var, bn_, bm_lst, e_meth, my_ixl, mf_ix, xr_meth, bf_isqrt, bf_lr1, bf_lr2, bf_min1, bf_max1, mk_c, xk_c, asg_nil, evL, evC, evP, evI, List.map, List.length_cons, List.length_nil, List.cons_append, List.nil_append, List.replicate, if_true, reduceIte, Nat.sub_self, Nat.reduceAdd, Nat.reduceSub, Nat.reduceLT, Bool.false_eq_true, if_false, Bool.not_false, Bool.not_true, Bool.false_and, Bool.true_and, Option.isNone_some, Option.map_some, Nat.reduceEqDiff, Nat.zero_add, Nat.add_zero, Nat.reduceLeDiff, Int.reduceLT, Int.reduceLE, Int.reduceMod, Int.reduceAdd, Int.reduceSub, Int.reduceNeg, Int.reduceMul, Int.reduceBEq, decide_true, decide_false, bne_self_eq_false, BEq.rfl, and_self, Bool.false_or, Bool.true_or, Bool.or_false, Bool.or_true, Option.bind_some, Int.zero_add, Int.toNat_natCast, Int.cast_ofNat_Int, Int.natCast_zero, Int.natCast_one, Int.reduceToNat, Int.reducePow, List.all_cons, List.all_nil, List.any_cons, List.any_nil, id, Bool.not_not, List.length_map, Bool.and_true, Bool.and_false]
end L

namespace L
open MP
variable {n : Nat}
abbrev str (s : String) : D := .str (PySem.Str.ofString s)
/-- an exact reading -/
abbrev xr (h b s : Int) : D := .tup [.tup [.int h, str "hand", .int 0], .tup [.int b, .int 0], .tup [.int s, .int 0]]
theorem c_unit_hand : callF G (n + 1) 10 [str "hand"] = .ret (.int 1) := rfl
theorem c_reading (h b s : Int) (h0 : 0 ≤ h) (h1 : h ≤ 9999) (hb : okB b = true) (hs : okS s = true) : callF G (n + 5) 14 [xr h b s] = .ret (.bl true) := by
  have c_1 : ∀ {n : Nat} {as : List D}, callF G (n + 1) 14 as = runDef G (callF G n) d_is_reading as := rfl
  have c_2 : ∀ {n : Nat} {as : List D}, callF G (n + 1) 11 as = runDef G (callF G n) d_is_tape as := rfl
  have c_3 : ∀ {n : Nat} {as : List D}, callF G (n + 1) 12 as = runDef G (callF G n) d_is_compass as := rfl
  have c_4 : ∀ {n : Nat} {as : List D}, callF G (n + 1) 13 as = runDef G (callF G n) d_is_clino as := rfl
  simp -implicitDefEqProofs only [c_1, c_2, c_3, c_4, d_is_reading, b_is_reading, d_is_tape, b_is_tape, d_is_compass, b_is_compass, d_is_clino, b_is_clino, gg_0, gg_1, gg_2, gg_3, gg_4, gg_5, gg_6, gg_7, gg_8, gg_9, gg_10, gg_11, gg_12, gg_13, c_in_bounds_int, c_is_bearing_int, c_is_slope_int, c_unit_hand, h0, h1, hb, hs, bind_ok, bind_exc, st_ok, st_exc, seq_nx, seq_rt, seq_bk, seq_ct, seq_exc, opt_s, lift_s, map_s, get_0, get_s, put_0, put_s, run_eq, fin_nx, fin_rt, fin_exc, d_un, d_own, f_own, d_non, f_non, er_non, d_bl, f_bl, er_bl, d_int, f_int, er_int, d_str, f_str, er_str, d_lst, f_lst, er_lst, d_tup, f_tup, er_tup, d_dct, f_dct, er_dct, d_scr, f_scr, er_scr, d_ty, f_ty, er_ty, d_cls, f_cls, er_cls, b1_con, b2_con, bL_con, b1_glb, b2_glb, bL_glb, b1_bin, b2_bin, bL_bin, b1_neg, b2_neg, bL_neg, b1_not, b2_not, bL_not, b1_and, b2_and, bL_and, b1_or, b2_or, bL_or, b1_cmp, b2_cmp, bL_cmp, b1_chain, b2_chain, bL_chain, b1_ite, b2_ite, bL_ite, b1_tup, b2_tup, bL_tup, b1_lst, b2_lst, bL_lst, b1_dct, b2_dct, bL_dct, b1_idx, b2_idx, bL_idx, b1_slc, b2_slc, bL_slc, b1_call, b2_call, bL_call, b1_bi, b2_bi, bL_bi, b1_comp, b2_comp, bL_comp, b1_pop, b2_pop, bL_pop, b1_meth, b2_meth, bL_meth, b1_efld, b2_efld, bL_efld, b1_eisi, b2_eisi, bL_eisi, b1_var, b2_var, bL_var, isi_int_non, isi_int_bl, isi_int_int, isi_int_str, isi_int_lst, isi_int_tup, isi_int_dct, isi_bool_non, isi_bool_bl, isi_bool_int, isi_bool_str, isi_bool_lst, isi_bool_tup, isi_bool_dct, isi_str_non, isi_str_bl, isi_str_int, isi_str_str, isi_str_lst, isi_str_tup, isi_str_dct, isi_list_non, isi_list_bl, isi_list_int, isi_list_str, isi_list_lst, isi_list_tup, isi_list_dct, isi_tuple_non, isi_tuple_bl, isi_tuple_int, isi_tuple_str, isi_tuple_lst, isi_tuple_tup, isi_tuple_dct, isi_dict_non, isi_dict_bl, isi_dict_int, isi_dict_str, isi_dict_lst, isi_dict_tup, isi_dict_dct, bf_int, bf_intb, bf_abs, bf_lenl, bf_lent, bf_lens, bf_lend, bf_min2, bf_max2, bf_sum, bf_tup, bf_tupt, bf_lst, bf_lstt, bo_add, bo_sub, bo_mul, bo_mod, bo_fdiv, bo_pow, bo_addl, co_lt, co_le, co_gt, co_ge, co_eqi, co_nei, co_eqs, eq_strs, co_is, co_isnot, ix_l, ix_t, tr_bl, tr_int, at_nat, sm_ni, sm_nn, sm_ti, sm_tt, sm_nt, sm_ns, sm_ts, sm_bb, sm_bn, sm_nl, sm_tl, sm_nb, sm_nd, sm_td, ranged_len, lim_lit, asgs_nil, asgs_cons, pat_1, pat_t, forK_nx, forK_ct, forK_bk, forK_rt, forK_exc, forL_nil, forL_cons, it_l, it_t, it_s, ol_l, ow_, mut_l, mut_d, fr_lst, fr_comp, fr_bin, fr_dct, sk_nx, sk_rt, sk_bk, sk_ct, sk_exc, ik_ok, ik_exc, fx_nil, fx_cons, fy_nx, fy_ct, fy_bk, fy_rt, fy_exc, tk_nx, tk_rt, tk_bk, tk_ct, tk_e0, tk_e1, w_skip, w_seq, w_set, w_setO, w_unpack, ak_, w_app, w_put, ps_l, ps_d, pl_i, w_aug, ag_add, ag_sub, w_expr, rv_fz, rv_own, w_ret_var, w_retN, w_ite, w_for, w_while, w_brk, w_cnt, w_raise, w_try, w_frz, e_con, e_var, e_glb, e_bin, e_neg, e_not, e_and, e_or, e_cmp, e_chain, e_ite, e_tup, e_lst, e_dct, e_idx, e_slc, ck_ret, ck_exc, e_call, e_bi1, e_bi2, e_comp, lx_nil, e_efld, e_eisi, nil_e, sub_n, sub_s, gone_rt, gone_nx, hush_nx, hush_rt, lt_lit, xr_con, xr_glb, xr_bin, xr_neg, xr_not, xr_and, xr_or, xr_cmp, xr_chain, xr_ite, xr_tup, xr_lst, xr_dct, xr_idx, xr_slc, xr_call, xr_bi, xr_comp, xr_pop, xr_efld, xr_eisi, at_k0, at_k1, at_k2, at_k3, at_k4, at_k5, at_k6, at_k7, at_k8, at_k9, at_k10, at_k11, at_k12, at_k13, at_k14, at_k15, at_k16, at_k17, at_k18, at_k19, at_k20, or_s, lx_cons, ly_some, ly_none, tx_, op_nil, op_cons, we_nil, we_cons, sp_nil, sp_cons, rp_nil, rp_cons, rg_0, rg_1, rg_2, rg_3, rg_4, rg_5, bls_n, bls_c, ints_n, ints_c, bf_all, bf_any, bf_gcd, bm_var, bn_, bm_lst, e_meth, my_ixl, mf_ix, xr_meth, bf_isqrt, bf_lr1, bf_lr2, bf_min1, bf_max1, mk_c, xk_c, asg_nil, evL, evC, evP, evI, List.map, List.length_cons, List.length_nil, List.cons_append, List.nil_append, List.replicate, if_true, reduceIte, Nat.sub_self, Nat.reduceAdd, Nat.reduceSub, Nat.reduceLT, Bool.false_eq_true, if_false, Bool.not_false, Bool.not_true, Bool.false_and, Bool.true_and, Option.isNone_some, Option.map_some, Nat.reduceEqDiff, Nat.zero_add, Nat.add_zero, Nat.reduceLeDiff, Int.reduceLT, Int.reduceLE, Int.reduceMod, Int.reduceAdd, Int.reduceSub, Int.reduceNeg, Int.reduceMul, Int.reduceBEq, decide_true, decide_false, bne_self_eq_false, BEq.rfl, and_self, Bool.false_or, Bool.true_or, Bool.or_false, Bool.or_true, Option.bind_some, Int.zero_add, Int.toNat_natCast, Int.cast_ofNat_Int, Int.natCast_zero, Int.natCast_one, Int.reduceToNat, Int.reducePow, List.all_cons, List.all_nil, List.any_cons, List.any_nil, id, Bool.not_not, List.length_map, Bool.and_true, Bool.and_false]
theorem c_check (h b s : Int) (h0 : 0 ≤ h) (h1 : h ≤ 9999) (hb : okB b = true) (hs : okS s = true) : callF G (n + 6) 15 [xr h b s] = .ret .non := by
  have c_1 : ∀ {n : Nat} {as : List D}, callF G (n + 1) 15 as = runDef G (callF G n) d_check_reading as := rfl
  simp -implicitDefEqProofs only [c_1, d_check_reading, b_check_reading, c_reading h b s h0 h1 hb hs, bind_ok, bind_exc, st_ok, st_exc, seq_nx, seq_rt, seq_bk, seq_ct, seq_exc, opt_s, lift_s, map_s, get_0, get_s, put_0, put_s, run_eq, fin_nx, fin_rt, fin_exc, d_un, d_own, f_own, d_non, f_non, er_non, d_bl, f_bl, er_bl, d_int, f_int, er_int, d_str, f_str, er_str, d_lst, f_lst, er_lst, d_tup, f_tup, er_tup, d_dct, f_dct, er_dct, d_scr, f_scr, er_scr, d_ty, f_ty, er_ty, d_cls, f_cls, er_cls, b1_con, b2_con, bL_con, b1_glb, b2_glb, bL_glb, b1_bin, b2_bin, bL_bin, b1_neg, b2_neg, bL_neg, b1_not, b2_not, bL_not, b1_and, b2_and, bL_and, b1_or, b2_or, bL_or, b1_cmp, b2_cmp, bL_cmp, b1_chain, b2_chain, bL_chain, b1_ite, b2_ite, bL_ite, b1_tup, b2_tup, bL_tup, b1_lst, b2_lst, bL_lst, b1_dct, b2_dct, bL_dct, b1_idx, b2_idx, bL_idx, b1_slc, b2_slc, bL_slc, b1_call, b2_call, bL_call, b1_bi, b2_bi, bL_bi, b1_comp, b2_comp, bL_comp, b1_pop, b2_pop, bL_pop, b1_meth, b2_meth, bL_meth, b1_efld, b2_efld, bL_efld, b1_eisi, b2_eisi, bL_eisi, b1_var, b2_var, bL_var, isi_int_non, isi_int_bl, isi_int_int, isi_int_str, isi_int_lst, isi_int_tup, isi_int_dct, isi_bool_non, isi_bool_bl, isi_bool_int, isi_bool_str, isi_bool_lst, isi_bool_tup, isi_bool_dct, isi_str_non, isi_str_bl, isi_str_int, isi_str_str, isi_str_lst, isi_str_tup, isi_str_dct, isi_list_non, isi_list_bl, isi_list_int, isi_list_str, isi_list_lst, isi_list_tup, isi_list_dct, isi_tuple_non, isi_tuple_bl, isi_tuple_int, isi_tuple_str, isi_tuple_lst, isi_tuple_tup, isi_tuple_dct, isi_dict_non, isi_dict_bl, isi_dict_int, isi_dict_str, isi_dict_lst, isi_dict_tup, isi_dict_dct, bf_int, bf_intb, bf_abs, bf_lenl, bf_lent, bf_lens, bf_lend, bf_min2, bf_max2, bf_sum, bf_tup, bf_tupt, bf_lst, bf_lstt, bo_add, bo_sub, bo_mul, bo_mod, bo_fdiv, bo_pow, bo_addl, co_lt, co_le, co_gt, co_ge, co_eqi, co_nei, co_eqs, eq_strs, co_is, co_isnot, ix_l, ix_t, tr_bl, tr_int, at_nat, sm_ni, sm_nn, sm_ti, sm_tt, sm_nt, sm_ns, sm_ts, sm_bb, sm_bn, sm_nl, sm_tl, sm_nb, sm_nd, sm_td, ranged_len, lim_lit, asgs_nil, asgs_cons, pat_1, pat_t, forK_nx, forK_ct, forK_bk, forK_rt, forK_exc, forL_nil, forL_cons, it_l, it_t, it_s, ol_l, ow_, mut_l, mut_d, fr_lst, fr_comp, fr_bin, fr_dct, sk_nx, sk_rt, sk_bk, sk_ct, sk_exc, ik_ok, ik_exc, fx_nil, fx_cons, fy_nx, fy_ct, fy_bk, fy_rt, fy_exc, tk_nx, tk_rt, tk_bk, tk_ct, tk_e0, tk_e1, w_skip, w_seq, w_set, w_setO, w_unpack, ak_, w_app, w_put, ps_l, ps_d, pl_i, w_aug, ag_add, ag_sub, w_expr, rv_fz, rv_own, w_ret_var, w_retN, w_ite, w_for, w_while, w_brk, w_cnt, w_raise, w_try, w_frz, e_con, e_var, e_glb, e_bin, e_neg, e_not, e_and, e_or, e_cmp, e_chain, e_ite, e_tup, e_lst, e_dct, e_idx, e_slc, ck_ret, ck_exc, e_call, e_bi1, e_bi2, e_comp, lx_nil, e_efld, e_eisi, nil_e, sub_n, sub_s, gone_rt, gone_nx, hush_nx, hush_rt, lt_lit, xr_con, xr_glb, xr_bin, xr_neg, xr_not, xr_and, xr_or, xr_cmp, xr_chain, xr_ite, xr_tup, xr_lst, xr_dct, xr_idx, xr_slc, xr_call, xr_bi, xr_comp, xr_pop, xr_efld, xr_eisi, at_k0, at_k1, at_k2, at_k3, at_k4, at_k5, at_k6, at_k7, at_k8, at_k9, at_k10, at_k11, at_k12, at_k13, at_k14, at_k15, at_k16, at_k17, at_k18, at_k19, at_k20, or_s, lx_cons, ly_some, ly_none, tx_, op_nil, op_cons, we_nil, we_cons, sp_nil, sp_cons, rp_nil, rp_cons, rg_0, rg_1, rg_2, rg_3, rg_4, rg_5, bls_n, bls_c, ints_n, ints_c, bf_all, bf_any, bf_gcd, bm_var, bn_, bm_lst, e_meth, my_ixl, mf_ix, xr_meth, bf_isqrt, bf_lr1, bf_lr2, bf_min1, bf_max1, mk_c, xk_c, asg_nil, evL, evC, evP, evI, List.map, List.length_cons, List.length_nil, List.cons_append, List.nil_append, List.replicate, if_true, reduceIte, Nat.sub_self, Nat.reduceAdd, Nat.reduceSub, Nat.reduceLT, Bool.false_eq_true, if_false, Bool.not_false, Bool.not_true, Bool.false_and, Bool.true_and, Option.isNone_some, Option.map_some, Nat.reduceEqDiff, Nat.zero_add, Nat.add_zero, Nat.reduceLeDiff, Int.reduceLT, Int.reduceLE, Int.reduceMod, Int.reduceAdd, Int.reduceSub, Int.reduceNeg, Int.reduceMul, Int.reduceBEq, decide_true, decide_false, bne_self_eq_false, BEq.rfl, and_self, Bool.false_or, Bool.true_or, Bool.or_false, Bool.or_true, Option.bind_some, Int.zero_add, Int.toNat_natCast, Int.cast_ofNat_Int, Int.natCast_zero, Int.natCast_one, Int.reduceToNat, Int.reducePow, List.all_cons, List.all_nil, List.any_cons, List.any_nil, id, Bool.not_not, List.length_map, Bool.and_true, Bool.and_false]
theorem c_ends (h b s : Int) (h0 : 0 ≤ h) (h1 : h ≤ 9999) : callF G (n + 2) 16 [xr h b s] = .ret (.tup [.int h, .int h]) := by
  have c_1 : ∀ {n : Nat} {as : List D}, callF G (n + 1) 16 as = runDef G (callF G n) d_tape_ends as := rfl
  have m1 : mulOk h 1 = true := mulS (a := 14) (b := 1) (by unfold sm; omega) (lit _ _)
  have e1 : (if h > 0 then h else 0) = h := by split <;> omega
  simp -implicitDefEqProofs only [c_1, d_tape_ends, b_tape_ends, c_unit_hand, Int.sub_zero, Int.add_zero, e1, m1, Int.mul_one, bind_ok, bind_exc, st_ok, st_exc, seq_nx, seq_rt, seq_bk, seq_ct, seq_exc, opt_s, lift_s, map_s, get_0, get_s, put_0, put_s, run_eq, fin_nx, fin_rt, fin_exc, d_un, d_own, f_own, d_non, f_non, er_non, d_bl, f_bl, er_bl, d_int, f_int, er_int, d_str, f_str, er_str, d_lst, f_lst, er_lst, d_tup, f_tup, er_tup, d_dct, f_dct, er_dct, d_scr, f_scr, er_scr, d_ty, f_ty, er_ty, d_cls, f_cls, er_cls, b1_con, b2_con, bL_con, b1_glb, b2_glb, bL_glb, b1_bin, b2_bin, bL_bin, b1_neg, b2_neg, bL_neg, b1_not, b2_not, bL_not, b1_and, b2_and, bL_and, b1_or, b2_or, bL_or, b1_cmp, b2_cmp, bL_cmp, b1_chain, b2_chain, bL_chain, b1_ite, b2_ite, bL_ite, b1_tup, b2_tup, bL_tup, b1_lst, b2_lst, bL_lst, b1_dct, b2_dct, bL_dct, b1_idx, b2_idx, bL_idx, b1_slc, b2_slc, bL_slc, b1_call, b2_call, bL_call, b1_bi, b2_bi, bL_bi, b1_comp, b2_comp, bL_comp, b1_pop, b2_pop, bL_pop, b1_meth, b2_meth, bL_meth, b1_efld, b2_efld, bL_efld, b1_eisi, b2_eisi, bL_eisi, b1_var, b2_var, bL_var, isi_int_non, isi_int_bl, isi_int_int, isi_int_str, isi_int_lst, isi_int_tup, isi_int_dct, isi_bool_non, isi_bool_bl, isi_bool_int, isi_bool_str, isi_bool_lst, isi_bool_tup, isi_bool_dct, isi_str_non, isi_str_bl, isi_str_int, isi_str_str, isi_str_lst, isi_str_tup, isi_str_dct, isi_list_non, isi_list_bl, isi_list_int, isi_list_str, isi_list_lst, isi_list_tup, isi_list_dct, isi_tuple_non, isi_tuple_bl, isi_tuple_int, isi_tuple_str, isi_tuple_lst, isi_tuple_tup, isi_tuple_dct, isi_dict_non, isi_dict_bl, isi_dict_int, isi_dict_str, isi_dict_lst, isi_dict_tup, isi_dict_dct, bf_int, bf_intb, bf_abs, bf_lenl, bf_lent, bf_lens, bf_lend, bf_min2, bf_max2, bf_sum, bf_tup, bf_tupt, bf_lst, bf_lstt, bo_add, bo_sub, bo_mul, bo_mod, bo_fdiv, bo_pow, bo_addl, co_lt, co_le, co_gt, co_ge, co_eqi, co_nei, co_eqs, eq_strs, co_is, co_isnot, ix_l, ix_t, tr_bl, tr_int, at_nat, sm_ni, sm_nn, sm_ti, sm_tt, sm_nt, sm_ns, sm_ts, sm_bb, sm_bn, sm_nl, sm_tl, sm_nb, sm_nd, sm_td, ranged_len, lim_lit, asgs_nil, asgs_cons, pat_1, pat_t, forK_nx, forK_ct, forK_bk, forK_rt, forK_exc, forL_nil, forL_cons, it_l, it_t, it_s, ol_l, ow_, mut_l, mut_d, fr_lst, fr_comp, fr_bin, fr_dct, sk_nx, sk_rt, sk_bk, sk_ct, sk_exc, ik_ok, ik_exc, fx_nil, fx_cons, fy_nx, fy_ct, fy_bk, fy_rt, fy_exc, tk_nx, tk_rt, tk_bk, tk_ct, tk_e0, tk_e1, w_skip, w_seq, w_set, w_setO, w_unpack, ak_, w_app, w_put, ps_l, ps_d, pl_i, w_aug, ag_add, ag_sub, w_expr, rv_fz, rv_own, w_ret_var, w_retN, w_ite, w_for, w_while, w_brk, w_cnt, w_raise, w_try, w_frz, e_con, e_var, e_glb, e_bin, e_neg, e_not, e_and, e_or, e_cmp, e_chain, e_ite, e_tup, e_lst, e_dct, e_idx, e_slc, ck_ret, ck_exc, e_call, e_bi1, e_bi2, e_comp, lx_nil, e_efld, e_eisi, nil_e, sub_n, sub_s, gone_rt, gone_nx, hush_nx, hush_rt, lt_lit, xr_con, xr_glb, xr_bin, xr_neg, xr_not, xr_and, xr_or, xr_cmp, xr_chain, xr_ite, xr_tup, xr_lst, xr_dct, xr_idx, xr_slc, xr_call, xr_bi, xr_comp, xr_pop, xr_efld, xr_eisi, at_k0, at_k1, at_k2, at_k3, at_k4, at_k5, at_k6, at_k7, at_k8, at_k9, at_k10, at_k11, at_k12, at_k13, at_k14, at_k15, at_k16, at_k17, at_k18, at_k19, at_k20, or_s, lx_cons, ly_some, ly_none, tx_, op_nil, op_cons, we_nil, we_cons, sp_nil, sp_cons, rp_nil, rp_cons, rg_0, rg_1, rg_2, rg_3, rg_4, rg_5, bls_n, bls_c, ints_n, ints_c, bf_all, bf_any, bf_gcd, bm_var, bn_, bm_lst, e_meth, my_ixl, mf_ix, xr_meth, bf_isqrt, bf_lr1, bf_lr2, bf_min1, bf_max1, mk_c, xk_c, asg_nil, evL, evC, evP, evI, List.map, List.length_cons, List.length_nil, List.cons_append, List.nil_append, List.replicate, if_true, reduceIte, Nat.sub_self, Nat.reduceAdd, Nat.reduceSub, Nat.reduceLT, Bool.false_eq_true, if_false, Bool.not_false, Bool.not_true, Bool.false_and, Bool.true_and, Option.isNone_some, Option.map_some, Nat.reduceEqDiff, Nat.zero_add, Nat.add_zero, Nat.reduceLeDiff, Int.reduceLT, Int.reduceLE, Int.reduceMod, Int.reduceAdd, Int.reduceSub, Int.reduceNeg, Int.reduceMul, Int.reduceBEq, decide_true, decide_false, bne_self_eq_false, BEq.rfl, and_self, Bool.false_or, Bool.true_or, Bool.or_false, Bool.or_true, Option.bind_some, Int.zero_add, Int.toNat_natCast, Int.cast_ofNat_Int, Int.natCast_zero, Int.natCast_one, Int.reduceToNat, Int.reducePow, List.all_cons, List.all_nil, List.any_cons, List.any_nil, id, Bool.not_not, List.length_map, Bool.and_true, Bool.and_false]
theorem c_bearings (h b s : Int) (hb : okB b = true) : callF G (n + 1) 17 [xr h b s] = .ret (.lst [.int b]) := by
  have c_1 : ∀ {n : Nat} {as : List D}, callF G (n + 1) 17 as = runDef G (callF G n) d_bearings_of as := rfl
  have e1 : b % 36 = b := by
    unfold okB at hb
    simp only [Bool.and_eq_true, decide_eq_true_eq] at hb
    omega
  simp -implicitDefEqProofs only [c_1, d_bearings_of, b_bearings_of, gg_0, gg_1, gg_2, gg_3, gg_4, gg_5, gg_6, gg_7, gg_8, gg_9, gg_10, gg_11, gg_12, gg_13, Int.neg_zero, Int.add_zero, e1, bind_ok, bind_exc, st_ok, st_exc, seq_nx, seq_rt, seq_bk, seq_ct, seq_exc, opt_s, lift_s, map_s, get_0, get_s, put_0, put_s, run_eq, fin_nx, fin_rt, fin_exc, d_un, d_own, f_own, d_non, f_non, er_non, d_bl, f_bl, er_bl, d_int, f_int, er_int, d_str, f_str, er_str, d_lst, f_lst, er_lst, d_tup, f_tup, er_tup, d_dct, f_dct, er_dct, d_scr, f_scr, er_scr, d_ty, f_ty, er_ty, d_cls, f_cls, er_cls, b1_con, b2_con, bL_con, b1_glb, b2_glb, bL_glb, b1_bin, b2_bin, bL_bin, b1_neg, b2_neg, bL_neg, b1_not, b2_not, bL_not, b1_and, b2_and, bL_and, b1_or, b2_or, bL_or, b1_cmp, b2_cmp, bL_cmp, b1_chain, b2_chain, bL_chain, b1_ite, b2_ite, bL_ite, b1_tup, b2_tup, bL_tup, b1_lst, b2_lst, bL_lst, b1_dct, b2_dct, bL_dct, b1_idx, b2_idx, bL_idx, b1_slc, b2_slc, bL_slc, b1_call, b2_call, bL_call, b1_bi, b2_bi, bL_bi, b1_comp, b2_comp, bL_comp, b1_pop, b2_pop, bL_pop, b1_meth, b2_meth, bL_meth, b1_efld, b2_efld, bL_efld, b1_eisi, b2_eisi, bL_eisi, b1_var, b2_var, bL_var, isi_int_non, isi_int_bl, isi_int_int, isi_int_str, isi_int_lst, isi_int_tup, isi_int_dct, isi_bool_non, isi_bool_bl, isi_bool_int, isi_bool_str, isi_bool_lst, isi_bool_tup, isi_bool_dct, isi_str_non, isi_str_bl, isi_str_int, isi_str_str, isi_str_lst, isi_str_tup, isi_str_dct, isi_list_non, isi_list_bl, isi_list_int, isi_list_str, isi_list_lst, isi_list_tup, isi_list_dct, isi_tuple_non, isi_tuple_bl, isi_tuple_int, isi_tuple_str, isi_tuple_lst, isi_tuple_tup, isi_tuple_dct, isi_dict_non, isi_dict_bl, isi_dict_int, isi_dict_str, isi_dict_lst, isi_dict_tup, isi_dict_dct, bf_int, bf_intb, bf_abs, bf_lenl, bf_lent, bf_lens, bf_lend, bf_min2, bf_max2, bf_sum, bf_tup, bf_tupt, bf_lst, bf_lstt, bo_add, bo_sub, bo_mul, bo_mod, bo_fdiv, bo_pow, bo_addl, co_lt, co_le, co_gt, co_ge, co_eqi, co_nei, co_eqs, eq_strs, co_is, co_isnot, ix_l, ix_t, tr_bl, tr_int, at_nat, sm_ni, sm_nn, sm_ti, sm_tt, sm_nt, sm_ns, sm_ts, sm_bb, sm_bn, sm_nl, sm_tl, sm_nb, sm_nd, sm_td, ranged_len, lim_lit, asgs_nil, asgs_cons, pat_1, pat_t, forK_nx, forK_ct, forK_bk, forK_rt, forK_exc, forL_nil, forL_cons, it_l, it_t, it_s, ol_l, ow_, mut_l, mut_d, fr_lst, fr_comp, fr_bin, fr_dct, sk_nx, sk_rt, sk_bk, sk_ct, sk_exc, ik_ok, ik_exc, fx_nil, fx_cons, fy_nx, fy_ct, fy_bk, fy_rt, fy_exc, tk_nx, tk_rt, tk_bk, tk_ct, tk_e0, tk_e1, w_skip, w_seq, w_set, w_setO, w_unpack, ak_, w_app, w_put, ps_l, ps_d, pl_i, w_aug, ag_add, ag_sub, w_expr, rv_fz, rv_own, w_ret_var, w_retN, w_ite, w_for, w_while, w_brk, w_cnt, w_raise, w_try, w_frz, e_con, e_var, e_glb, e_bin, e_neg, e_not, e_and, e_or, e_cmp, e_chain, e_ite, e_tup, e_lst, e_dct, e_idx, e_slc, ck_ret, ck_exc, e_call, e_bi1, e_bi2, e_comp, lx_nil, e_efld, e_eisi, nil_e, sub_n, sub_s, gone_rt, gone_nx, hush_nx, hush_rt, lt_lit, xr_con, xr_glb, xr_bin, xr_neg, xr_not, xr_and, xr_or, xr_cmp, xr_chain, xr_ite, xr_tup, xr_lst, xr_dct, xr_idx, xr_slc, xr_call, xr_bi, xr_comp, xr_pop, xr_efld, xr_eisi, at_k0, at_k1, at_k2, at_k3, at_k4, at_k5, at_k6, at_k7, at_k8, at_k9, at_k10, at_k11, at_k12, at_k13, at_k14, at_k15, at_k16, at_k17, at_k18, at_k19, at_k20, or_s, lx_cons, ly_some, ly_none, tx_, op_nil, op_cons, we_nil, we_cons, sp_nil, sp_cons, rp_nil, rp_cons, rg_0, rg_1, rg_2, rg_3, rg_4, rg_5, bls_n, bls_c, ints_n, ints_c, bf_all, bf_any, bf_gcd, bm_var, bn_, bm_lst, e_meth, my_ixl, mf_ix, xr_meth, bf_isqrt, bf_lr1, bf_lr2, bf_min1, bf_max1, mk_c, xk_c, asg_nil, evL, evC, evP, evI, List.map, List.length_cons, List.length_nil, List.cons_append, List.nil_append, List.replicate, if_true, reduceIte, Nat.sub_self, Nat.reduceAdd, Nat.reduceSub, Nat.reduceLT, Bool.false_eq_true, if_false, Bool.not_false, Bool.not_true, Bool.false_and, Bool.true_and, Option.isNone_some, Option.map_some, Nat.reduceEqDiff, Nat.zero_add, Nat.add_zero, Nat.reduceLeDiff, Int.reduceLT, Int.reduceLE, Int.reduceMod, Int.reduceAdd, Int.reduceSub, Int.reduceNeg, Int.reduceMul, Int.reduceBEq, decide_true, decide_false, bne_self_eq_false, BEq.rfl, and_self, Bool.false_or, Bool.true_or, Bool.or_false, Bool.or_true, Option.bind_some, Int.zero_add, Int.toNat_natCast, Int.cast_ofNat_Int, Int.natCast_zero, Int.natCast_one, Int.reduceToNat, Int.reducePow, List.all_cons, List.all_nil, List.any_cons, List.any_nil, id, Bool.not_not, List.length_map, Bool.and_true, Bool.and_false]
theorem c_slopes (h b s : Int) (hs : okS s = true) : callF G (n + 1) 18 [xr h b s] = .ret (.lst [.int s]) := by
  have c_1 : ∀ {n : Nat} {as : List D}, callF G (n + 1) 18 as = runDef G (callF G n) d_slopes_of as := rfl
  unfold okS at hs
  simp only [Bool.and_eq_true, decide_eq_true_eq] at hs
  have e1 : (if s > -9 then s else -9) = s := by split <;> omega
  have e2 : (if s < 9 then s else 9) = s := by split <;> omega
  have e3 : rngOk s (s + 1) = true := by
    unfold rngOk
    simp only [Bool.and_eq_true, decide_eq_true_eq]
    refine ⟨by omega, by omega, by omega, by omega, ?_⟩
    have : (s + 1 - s).toNat = 1 := by omega
    rw [this]; decide
  have e4 : (s + 1 - s).toNat = 1 := by omega
  have fr : ∀ a, freshT G (.bi .lrange2 a) = true := fun _ => rfl
  simp -implicitDefEqProofs only [c_1, d_slopes_of, b_slopes_of, gg_0, gg_1, gg_2, gg_3, gg_4, gg_5, gg_6, gg_7, gg_8, gg_9, gg_10, gg_11, gg_12, gg_13, Int.sub_zero, Int.add_zero, e1, e2, e3, e4, bind_ok, bind_exc, st_ok, st_exc, seq_nx, seq_rt, seq_bk, seq_ct, seq_exc, opt_s, lift_s, map_s, get_0, get_s, put_0, put_s, run_eq, fin_nx, fin_rt, fin_exc, d_un, d_own, f_own, d_non, f_non, er_non, d_bl, f_bl, er_bl, d_int, f_int, er_int, d_str, f_str, er_str, d_lst, f_lst, er_lst, d_tup, f_tup, er_tup, d_dct, f_dct, er_dct, d_scr, f_scr, er_scr, d_ty, f_ty, er_ty, d_cls, f_cls, er_cls, b1_con, b2_con, bL_con, b1_glb, b2_glb, bL_glb, b1_bin, b2_bin, bL_bin, b1_neg, b2_neg, bL_neg, b1_not, b2_not, bL_not, b1_and, b2_and, bL_and, b1_or, b2_or, bL_or, b1_cmp, b2_cmp, bL_cmp, b1_chain, b2_chain, bL_chain, b1_ite, b2_ite, bL_ite, b1_tup, b2_tup, bL_tup, b1_lst, b2_lst, bL_lst, b1_dct, b2_dct, bL_dct, b1_idx, b2_idx, bL_idx, b1_slc, b2_slc, bL_slc, b1_call, b2_call, bL_call, b1_bi, b2_bi, bL_bi, b1_comp, b2_comp, bL_comp, b1_pop, b2_pop, bL_pop, b1_meth, b2_meth, bL_meth, b1_efld, b2_efld, bL_efld, b1_eisi, b2_eisi, bL_eisi, b1_var, b2_var, bL_var, isi_int_non, isi_int_bl, isi_int_int, isi_int_str, isi_int_lst, isi_int_tup, isi_int_dct, isi_bool_non, isi_bool_bl, isi_bool_int, isi_bool_str, isi_bool_lst, isi_bool_tup, isi_bool_dct, isi_str_non, isi_str_bl, isi_str_int, isi_str_str, isi_str_lst, isi_str_tup, isi_str_dct, isi_list_non, isi_list_bl, isi_list_int, isi_list_str, isi_list_lst, isi_list_tup, isi_list_dct, isi_tuple_non, isi_tuple_bl, isi_tuple_int, isi_tuple_str, isi_tuple_lst, isi_tuple_tup, isi_tuple_dct, isi_dict_non, isi_dict_bl, isi_dict_int, isi_dict_str, isi_dict_lst, isi_dict_tup, isi_dict_dct, bf_int, bf_intb, bf_abs, bf_lenl, bf_lent, bf_lens, bf_lend, bf_min2, bf_max2, bf_sum, bf_tup, bf_tupt, bf_lst, bf_lstt, bo_add, bo_sub, bo_mul, bo_mod, bo_fdiv, bo_pow, bo_addl, co_lt, co_le, co_gt, co_ge, co_eqi, co_nei, co_eqs, eq_strs, co_is, co_isnot, ix_l, ix_t, tr_bl, tr_int, at_nat, sm_ni, sm_nn, sm_ti, sm_tt, sm_nt, sm_ns, sm_ts, sm_bb, sm_bn, sm_nl, sm_tl, sm_nb, sm_nd, sm_td, ranged_len, lim_lit, asgs_nil, asgs_cons, pat_1, pat_t, forK_nx, forK_ct, forK_bk, forK_rt, forK_exc, forL_nil, forL_cons, it_l, it_t, it_s, ol_l, ow_, mut_l, mut_d, fr_lst, fr_comp, fr_bin, fr_dct, sk_nx, sk_rt, sk_bk, sk_ct, sk_exc, ik_ok, ik_exc, fx_nil, fx_cons, fy_nx, fy_ct, fy_bk, fy_rt, fy_exc, tk_nx, tk_rt, tk_bk, tk_ct, tk_e0, tk_e1, w_skip, w_seq, w_set, w_setO, w_unpack, ak_, w_app, w_put, ps_l, ps_d, pl_i, w_aug, ag_add, ag_sub, w_expr, rv_fz, rv_own, w_ret_var, w_retN, w_ite, w_for, w_while, w_brk, w_cnt, w_raise, w_try, w_frz, e_con, e_var, e_glb, e_bin, e_neg, e_not, e_and, e_or, e_cmp, e_chain, e_ite, e_tup, e_lst, e_dct, e_idx, e_slc, ck_ret, ck_exc, e_call, e_bi1, e_bi2, e_comp, lx_nil, e_efld, e_eisi, nil_e, sub_n, sub_s, gone_rt, gone_nx, hush_nx, hush_rt, lt_lit, xr_con, xr_glb, xr_bin, xr_neg, xr_not, xr_and, xr_or, xr_cmp, xr_chain, xr_ite, xr_tup, xr_lst, xr_dct, xr_idx, xr_slc, xr_call, xr_bi, xr_comp, xr_pop, xr_efld, xr_eisi, at_k0, at_k1, at_k2, at_k3, at_k4, at_k5, at_k6, at_k7, at_k8, at_k9, at_k10, at_k11, at_k12, at_k13, at_k14, at_k15, at_k16, at_k17, at_k18, at_k19, at_k20, or_s, lx_cons, ly_some, ly_none, tx_, op_nil, op_cons, we_nil, we_cons, sp_nil, sp_cons, rp_nil, rp_cons, rg_0, rg_1, rg_2, rg_3, rg_4, rg_5, bls_n, bls_c, ints_n, ints_c, bf_all, bf_any, bf_gcd, bm_var, bn_, bm_lst, e_meth, my_ixl, mf_ix, xr_meth, bf_isqrt, bf_lr1, bf_lr2, bf_min1, bf_max1, mk_c, xk_c, asg_nil, evL, evC, evP, evI, List.map, List.length_cons, List.length_nil, List.cons_append, List.nil_append, List.replicate, if_true, reduceIte, Nat.sub_self, Nat.reduceAdd, Nat.reduceSub, Nat.reduceLT, Bool.false_eq_true, if_false, Bool.not_false, Bool.not_true, Bool.false_and, Bool.true_and, Option.isNone_some, Option.map_some, Nat.reduceEqDiff, Nat.zero_add, Nat.add_zero, Nat.reduceLeDiff, Int.reduceLT, Int.reduceLE, Int.reduceMod, Int.reduceAdd, Int.reduceSub, Int.reduceNeg, Int.reduceMul, Int.reduceBEq, decide_true, decide_false, bne_self_eq_false, BEq.rfl, and_self, Bool.false_or, Bool.true_or, Bool.or_false, Bool.or_true, Option.bind_some, Int.zero_add, Int.toNat_natCast, Int.cast_ofNat_Int, Int.natCast_zero, Int.natCast_one, Int.reduceToNat, Int.reducePow, List.all_cons, List.all_nil, List.any_cons, List.any_nil, id, Bool.not_not, List.length_map, Bool.and_true, Bool.and_false]
theorem c_scaled (a e : Int) (m : mulOk a e = true) : callF G (n + 1) 20 [.int a, .int a, .lst [.int e]] = .ret (.tup [.int (a * e), .int (a * e)]) := by
  have c_1 : ∀ {n : Nat} {as : List D}, callF G (n + 1) 20 as = runDef G (callF G n) d_scaled_interval as := rfl
  by_cases h : e < 0 <;> simp -implicitDefEqProofs only [c_1, d_scaled_interval, b_scaled_interval, leastI, mostI, m, h, bind_ok, bind_exc, st_ok, st_exc, seq_nx, seq_rt, seq_bk, seq_ct, seq_exc, opt_s, lift_s, map_s, get_0, get_s, put_0, put_s, run_eq, fin_nx, fin_rt, fin_exc, d_un, d_own, f_own, d_non, f_non, er_non, d_bl, f_bl, er_bl, d_int, f_int, er_int, d_str, f_str, er_str, d_lst, f_lst, er_lst, d_tup, f_tup, er_tup, d_dct, f_dct, er_dct, d_scr, f_scr, er_scr, d_ty, f_ty, er_ty, d_cls, f_cls, er_cls, b1_con, b2_con, bL_con, b1_glb, b2_glb, bL_glb, b1_bin, b2_bin, bL_bin, b1_neg, b2_neg, bL_neg, b1_not, b2_not, bL_not, b1_and, b2_and, bL_and, b1_or, b2_or, bL_or, b1_cmp, b2_cmp, bL_cmp, b1_chain, b2_chain, bL_chain, b1_ite, b2_ite, bL_ite, b1_tup, b2_tup, bL_tup, b1_lst, b2_lst, bL_lst, b1_dct, b2_dct, bL_dct, b1_idx, b2_idx, bL_idx, b1_slc, b2_slc, bL_slc, b1_call, b2_call, bL_call, b1_bi, b2_bi, bL_bi, b1_comp, b2_comp, bL_comp, b1_pop, b2_pop, bL_pop, b1_meth, b2_meth, bL_meth, b1_efld, b2_efld, bL_efld, b1_eisi, b2_eisi, bL_eisi, b1_var, b2_var, bL_var, isi_int_non, isi_int_bl, isi_int_int, isi_int_str, isi_int_lst, isi_int_tup, isi_int_dct, isi_bool_non, isi_bool_bl, isi_bool_int, isi_bool_str, isi_bool_lst, isi_bool_tup, isi_bool_dct, isi_str_non, isi_str_bl, isi_str_int, isi_str_str, isi_str_lst, isi_str_tup, isi_str_dct, isi_list_non, isi_list_bl, isi_list_int, isi_list_str, isi_list_lst, isi_list_tup, isi_list_dct, isi_tuple_non, isi_tuple_bl, isi_tuple_int, isi_tuple_str, isi_tuple_lst, isi_tuple_tup, isi_tuple_dct, isi_dict_non, isi_dict_bl, isi_dict_int, isi_dict_str, isi_dict_lst, isi_dict_tup, isi_dict_dct, bf_int, bf_intb, bf_abs, bf_lenl, bf_lent, bf_lens, bf_lend, bf_min2, bf_max2, bf_sum, bf_tup, bf_tupt, bf_lst, bf_lstt, bo_add, bo_sub, bo_mul, bo_mod, bo_fdiv, bo_pow, bo_addl, co_lt, co_le, co_gt, co_ge, co_eqi, co_nei, co_eqs, eq_strs, co_is, co_isnot, ix_l, ix_t, tr_bl, tr_int, at_nat, sm_ni, sm_nn, sm_ti, sm_tt, sm_nt, sm_ns, sm_ts, sm_bb, sm_bn, sm_nl, sm_tl, sm_nb, sm_nd, sm_td, ranged_len, lim_lit, asgs_nil, asgs_cons, pat_1, pat_t, forK_nx, forK_ct, forK_bk, forK_rt, forK_exc, forL_nil, forL_cons, it_l, it_t, it_s, ol_l, ow_, mut_l, mut_d, fr_lst, fr_comp, fr_bin, fr_dct, sk_nx, sk_rt, sk_bk, sk_ct, sk_exc, ik_ok, ik_exc, fx_nil, fx_cons, fy_nx, fy_ct, fy_bk, fy_rt, fy_exc, tk_nx, tk_rt, tk_bk, tk_ct, tk_e0, tk_e1, w_skip, w_seq, w_set, w_setO, w_unpack, ak_, w_app, w_put, ps_l, ps_d, pl_i, w_aug, ag_add, ag_sub, w_expr, rv_fz, rv_own, w_ret_var, w_retN, w_ite, w_for, w_while, w_brk, w_cnt, w_raise, w_try, w_frz, e_con, e_var, e_glb, e_bin, e_neg, e_not, e_and, e_or, e_cmp, e_chain, e_ite, e_tup, e_lst, e_dct, e_idx, e_slc, ck_ret, ck_exc, e_call, e_bi1, e_bi2, e_comp, lx_nil, e_efld, e_eisi, nil_e, sub_n, sub_s, gone_rt, gone_nx, hush_nx, hush_rt, lt_lit, xr_con, xr_glb, xr_bin, xr_neg, xr_not, xr_and, xr_or, xr_cmp, xr_chain, xr_ite, xr_tup, xr_lst, xr_dct, xr_idx, xr_slc, xr_call, xr_bi, xr_comp, xr_pop, xr_efld, xr_eisi, at_k0, at_k1, at_k2, at_k3, at_k4, at_k5, at_k6, at_k7, at_k8, at_k9, at_k10, at_k11, at_k12, at_k13, at_k14, at_k15, at_k16, at_k17, at_k18, at_k19, at_k20, or_s, lx_cons, ly_some, ly_none, tx_, op_nil, op_cons, we_nil, we_cons, sp_nil, sp_cons, rp_nil, rp_cons, rg_0, rg_1, rg_2, rg_3, rg_4, rg_5, bls_n, bls_c, ints_n, ints_c, bf_all, bf_any, bf_gcd, bm_var, bn_, bm_lst, e_meth, my_ixl, mf_ix, xr_meth, bf_isqrt, bf_lr1, bf_lr2, bf_min1, bf_max1, mk_c, xk_c, asg_nil, evL, evC, evP, evI, List.map, List.length_cons, List.length_nil, List.cons_append, List.nil_append, List.replicate, if_true, reduceIte, Nat.sub_self, Nat.reduceAdd, Nat.reduceSub, Nat.reduceLT, Bool.false_eq_true, if_false, Bool.not_false, Bool.not_true, Bool.false_and, Bool.true_and, Option.isNone_some, Option.map_some, Nat.reduceEqDiff, Nat.zero_add, Nat.add_zero, Nat.reduceLeDiff, Int.reduceLT, Int.reduceLE, Int.reduceMod, Int.reduceAdd, Int.reduceSub, Int.reduceNeg, Int.reduceMul, Int.reduceBEq, decide_true, decide_false, bne_self_eq_false, BEq.rfl, and_self, Bool.false_or, Bool.true_or, Bool.or_false, Bool.or_true, Option.bind_some, Int.zero_add, Int.toNat_natCast, Int.cast_ofNat_Int, Int.natCast_zero, Int.natCast_one, Int.reduceToNat, Int.reducePow, List.all_cons, List.all_nil, List.any_cons, List.any_nil, id, Bool.not_not, List.length_map, Bool.and_true, Bool.and_false]
theorem c_box (h b s : Int) (h0 : 0 ≤ h) (h1 : h ≤ 9999) (hb : okB b = true) (hs : okS s = true) : callF G (n + 7) 22 [xr h b s] = .ret (.tup [.tup [.int (h * le s * ea b), .int (h * le s * ea b)], .tup [.int (h * le s * ea (b + 9)), .int (h * le s * ea (b + 9))], .tup [.int (h * 65 * ea s), .int (h * 65 * ea s)]]) := by
  have c_1 : ∀ {n : Nat} {as : List D}, callF G (n + 1) 22 as = runDef G (callF G n) d_box_of as := rfl
  have c_2 : ∀ {n : Nat} {as : List D}, callF G (n + 1) 21 as = runDef G (callF G n) d_reading_box as := rfl
  have hh : sm 14 h := by unfold sm; omega
  have m1 := mulS hh (le_sm s)
  have m2 := mulS hh (lit 65 7)
  have m3 := mulS (hh.mul (lit 65 7)) (ea_sm s)
  have m4 := mulS (hh.mul (le_sm s)) (ea_sm b)
  have m5 := mulS (hh.mul (le_sm s)) (ea_sm (b + 9))
  simp -implicitDefEqProofs only [c_1, c_2, d_box_of, b_box_of, d_reading_box, b_reading_box, gg_0, gg_1, gg_2, gg_3, gg_4, gg_5, gg_6, gg_7, gg_8, gg_9, gg_10, gg_11, gg_12, gg_13, c_check h b s h0 h1 hb hs, c_ends h b s h0 h1, c_bearings h b s hb, c_slopes h b s hs, c_level s hs, c_rise s hs, c_east b hb, c_north b hb, leastI, mostI, m1, m2, c_scaled _ _ m3, c_scaled _ _ m4, c_scaled _ _ m5, bind_ok, bind_exc, st_ok, st_exc, seq_nx, seq_rt, seq_bk, seq_ct, seq_exc, opt_s, lift_s, map_s, get_0, get_s, put_0, put_s, run_eq, fin_nx, fin_rt, fin_exc, d_un, d_own, f_own, d_non, f_non, er_non, d_bl, f_bl, er_bl, d_int, f_int, er_int, d_str, f_str, er_str, d_lst, f_lst, er_lst, d_tup, f_tup, er_tup, d_dct, f_dct, er_dct, d_scr, f_scr, er_scr, d_ty, f_ty, er_ty, d_cls, f_cls, er_cls, b1_con, b2_con, bL_con, b1_glb, b2_glb, bL_glb, b1_bin, b2_bin, bL_bin, b1_neg, b2_neg, bL_neg, b1_not, b2_not, bL_not, b1_and, b2_and, bL_and, b1_or, b2_or, bL_or, b1_cmp, b2_cmp, bL_cmp, b1_chain, b2_chain, bL_chain, b1_ite, b2_ite, bL_ite, b1_tup, b2_tup, bL_tup, b1_lst, b2_lst, bL_lst, b1_dct, b2_dct, bL_dct, b1_idx, b2_idx, bL_idx, b1_slc, b2_slc, bL_slc, b1_call, b2_call, bL_call, b1_bi, b2_bi, bL_bi, b1_comp, b2_comp, bL_comp, b1_pop, b2_pop, bL_pop, b1_meth, b2_meth, bL_meth, b1_efld, b2_efld, bL_efld, b1_eisi, b2_eisi, bL_eisi, b1_var, b2_var, bL_var, isi_int_non, isi_int_bl, isi_int_int, isi_int_str, isi_int_lst, isi_int_tup, isi_int_dct, isi_bool_non, isi_bool_bl, isi_bool_int, isi_bool_str, isi_bool_lst, isi_bool_tup, isi_bool_dct, isi_str_non, isi_str_bl, isi_str_int, isi_str_str, isi_str_lst, isi_str_tup, isi_str_dct, isi_list_non, isi_list_bl, isi_list_int, isi_list_str, isi_list_lst, isi_list_tup, isi_list_dct, isi_tuple_non, isi_tuple_bl, isi_tuple_int, isi_tuple_str, isi_tuple_lst, isi_tuple_tup, isi_tuple_dct, isi_dict_non, isi_dict_bl, isi_dict_int, isi_dict_str, isi_dict_lst, isi_dict_tup, isi_dict_dct, bf_int, bf_intb, bf_abs, bf_lenl, bf_lent, bf_lens, bf_lend, bf_min2, bf_max2, bf_sum, bf_tup, bf_tupt, bf_lst, bf_lstt, bo_add, bo_sub, bo_mul, bo_mod, bo_fdiv, bo_pow, bo_addl, co_lt, co_le, co_gt, co_ge, co_eqi, co_nei, co_eqs, eq_strs, co_is, co_isnot, ix_l, ix_t, tr_bl, tr_int, at_nat, sm_ni, sm_nn, sm_ti, sm_tt, sm_nt, sm_ns, sm_ts, sm_bb, sm_bn, sm_nl, sm_tl, sm_nb, sm_nd, sm_td, ranged_len, lim_lit, asgs_nil, asgs_cons, pat_1, pat_t, forK_nx, forK_ct, forK_bk, forK_rt, forK_exc, forL_nil, forL_cons, it_l, it_t, it_s, ol_l, ow_, mut_l, mut_d, fr_lst, fr_comp, fr_bin, fr_dct, sk_nx, sk_rt, sk_bk, sk_ct, sk_exc, ik_ok, ik_exc, fx_nil, fx_cons, fy_nx, fy_ct, fy_bk, fy_rt, fy_exc, tk_nx, tk_rt, tk_bk, tk_ct, tk_e0, tk_e1, w_skip, w_seq, w_set, w_setO, w_unpack, ak_, w_app, w_put, ps_l, ps_d, pl_i, w_aug, ag_add, ag_sub, w_expr, rv_fz, rv_own, w_ret_var, w_retN, w_ite, w_for, w_while, w_brk, w_cnt, w_raise, w_try, w_frz, e_con, e_var, e_glb, e_bin, e_neg, e_not, e_and, e_or, e_cmp, e_chain, e_ite, e_tup, e_lst, e_dct, e_idx, e_slc, ck_ret, ck_exc, e_call, e_bi1, e_bi2, e_comp, lx_nil, e_efld, e_eisi, nil_e, sub_n, sub_s, gone_rt, gone_nx, hush_nx, hush_rt, lt_lit, xr_con, xr_glb, xr_bin, xr_neg, xr_not, xr_and, xr_or, xr_cmp, xr_chain, xr_ite, xr_tup, xr_lst, xr_dct, xr_idx, xr_slc, xr_call, xr_bi, xr_comp, xr_pop, xr_efld, xr_eisi, at_k0, at_k1, at_k2, at_k3, at_k4, at_k5, at_k6, at_k7, at_k8, at_k9, at_k10, at_k11, at_k12, at_k13, at_k14, at_k15, at_k16, at_k17, at_k18, at_k19, at_k20, or_s, lx_cons, ly_some, ly_none, tx_, op_nil, op_cons, we_nil, we_cons, sp_nil, sp_cons, rp_nil, rp_cons, rg_0, rg_1, rg_2, rg_3, rg_4, rg_5, bls_n, bls_c, ints_n, ints_c, bf_all, bf_any, bf_gcd, bm_var, bn_, bm_lst, e_meth, my_ixl, mf_ix, xr_meth, bf_isqrt, bf_lr1, bf_lr2, bf_min1, bf_max1, mk_c, xk_c, asg_nil, evL, evC, evP, evI, List.map, List.length_cons, List.length_nil, List.cons_append, List.nil_append, List.replicate, if_true, reduceIte, Nat.sub_self, Nat.reduceAdd, Nat.reduceSub, Nat.reduceLT, Bool.false_eq_true, if_false, Bool.not_false, Bool.not_true, Bool.false_and, Bool.true_and, Option.isNone_some, Option.map_some, Nat.reduceEqDiff, Nat.zero_add, Nat.add_zero, Nat.reduceLeDiff, Int.reduceLT, Int.reduceLE, Int.reduceMod, Int.reduceAdd, Int.reduceSub, Int.reduceNeg, Int.reduceMul, Int.reduceBEq, decide_true, decide_false, bne_self_eq_false, BEq.rfl, and_self, Bool.false_or, Bool.true_or, Bool.or_false, Bool.or_true, Option.bind_some, Int.zero_add, Int.toNat_natCast, Int.cast_ofNat_Int, Int.natCast_zero, Int.natCast_one, Int.reduceToNat, Int.reducePow, List.all_cons, List.all_nil, List.any_cons, List.any_nil, id, Bool.not_not, List.length_map, Bool.and_true, Bool.and_false]
end L

namespace L
open MP
variable {n : Nat}
def FI (g : Int → Option D) : D → Option D
  | .int s => g s
  | _ => none
def FS (g : Int → Int → Option D) : Option D := (ranged 0 36).findSome? (FI fun b => (ranged (-9) 19).findSome? (FI (g b)))
def orN : Option D → D
  | some d => d
  | none => .non
def gP (h x y z : Int) (b s : Int) : Option D := if h * le s * ea b = x ∧ h * le s * ea (b + 9) = y ∧ h * 65 * ea s = z then some (vc h b s) else none
theorem eq_vc (a b c x y z : Int) : cmpop .eq (vc a b c) (vc x y z) = some (decide (a = x ∧ b = y ∧ c = z)) := by
  show some (a == x && (b == y && (c == z && true))) = _
  by_cases h1 : a = x <;> by_cases h2 : b = y <;> by_cases h3 : c = z <;> simp [h1, h2, h3]
theorem ranged_b {d : D} (h : d ∈ ranged 0 36) : ∃ b : Int, d = .int b ∧ okB b = true := by
  obtain ⟨i, hi, rfl⟩ := mem_ranged h
  exact ⟨_, rfl, by unfold okB; simp; omega⟩
theorem ranged_s {d : D} (h : d ∈ ranged (-9) 19) : ∃ s : Int, d = .int s ∧ okS s = true := by
  obtain ⟨i, hi, rfl⟩ := mem_ranged h
  exact ⟨_, rfl, by unfold okS; simp; omega⟩
/-- the inner search of the program -/
theorem inP (h x y z b : Int) (hh : sm 150 h) (hb : okB b = true) (s1 s2 s5 s6 : Sl) : Found (fun e => ∃ s5, e = [.fz (vc x y z), s1, s2, .fz (.int h), .fz (.int b), s5, s6]) ((ranged (-9) 19).findSome? (FI (gP h x y z b)))
    (forX G (callF G (n + 2)) [] false [5] false (.seq (.ite (.tst (.cmp .eq (.call 19 (.cons (.var 3) (.cons (.var 4) (.cons (.var 5) .nil)))) (.var 0)))
(.seq (.ret (.tup (.cons (.var 3) (.cons (.var 4) (.cons (.var 5) .nil)))))
.skip)
.skip)
.skip) (ranged (-9) 19) [.fz (vc x y z), s1, s2, .fz (.int h), .fz (.int b), s5, s6]) :=
  forX_find (fun d hd e he => by
    obtain ⟨s, rfl, hs⟩ := ranged_s hd
    obtain ⟨s5, rfl⟩ := he
    have ct := c_triple (n := n) h b s (hh.mono (by decide)) hb hs
    unfold FI stepX
    by_cases q : h * le s * ea b = x ∧ h * le s * ea (b + 9) = y ∧ h * 65 * ea s = z
    · have e1 : gP h x y z b s = some (vc h b s) := by unfold gP; rw [if_pos q]
      dsimp only
      rw [e1]
      refine ⟨[.fz (vc x y z), s1, s2, .fz (.int h), .fz (.int b), .fz (.int s), s6], ?_⟩
      simp -implicitDefEqProofs only [ct, eq_vc, q, bind_ok, bind_exc, st_ok, st_exc, seq_nx, seq_rt, seq_bk, seq_ct, seq_exc, opt_s, lift_s, map_s, get_0, get_s, put_0, put_s, run_eq, fin_nx, fin_rt, fin_exc, d_un, d_own, f_own, d_non, f_non, er_non, d_bl, f_bl, er_bl, d_int, f_int, er_int, d_str, f_str, er_str, d_lst, f_lst, er_lst, d_tup, f_tup, er_tup, d_dct, f_dct, er_dct, d_scr, f_scr, er_scr, d_ty, f_ty, er_ty, d_cls, f_cls, er_cls, b1_con, b2_con, bL_con, b1_glb, b2_glb, bL_glb, b1_bin, b2_bin, bL_bin, b1_neg, b2_neg, bL_neg, b1_not, b2_not, bL_not, b1_and, b2_and, bL_and, b1_or, b2_or, bL_or, b1_cmp, b2_cmp, bL_cmp, b1_chain, b2_chain, bL_chain, b1_ite, b2_ite, bL_ite, b1_tup, b2_tup, bL_tup, b1_lst, b2_lst, bL_lst, b1_dct, b2_dct, bL_dct, b1_idx, b2_idx, bL_idx, b1_slc, b2_slc, bL_slc, b1_call, b2_call, bL_call, b1_bi, b2_bi, bL_bi, b1_comp, b2_comp, bL_comp, b1_pop, b2_pop, bL_pop, b1_meth, b2_meth, bL_meth, b1_efld, b2_efld, bL_efld, b1_eisi, b2_eisi, bL_eisi, b1_var, b2_var, bL_var, isi_int_non, isi_int_bl, isi_int_int, isi_int_str, isi_int_lst, isi_int_tup, isi_int_dct, isi_bool_non, isi_bool_bl, isi_bool_int, isi_bool_str, isi_bool_lst, isi_bool_tup, isi_bool_dct, isi_str_non, isi_str_bl, isi_str_int, isi_str_str, isi_str_lst, isi_str_tup, isi_str_dct, isi_list_non, isi_list_bl, isi_list_int, isi_list_str, isi_list_lst, isi_list_tup, isi_list_dct, isi_tuple_non, isi_tuple_bl, isi_tuple_int, isi_tuple_str, isi_tuple_lst, isi_tuple_tup, isi_tuple_dct, isi_dict_non, isi_dict_bl, isi_dict_int, isi_dict_str, isi_dict_lst, isi_dict_tup, isi_dict_dct, bf_int, bf_intb, bf_abs, bf_lenl, bf_lent, bf_lens, bf_lend, bf_min2, bf_max2, bf_sum, bf_tup, bf_tupt, bf_lst, bf_lstt, bo_add, bo_sub, bo_mul, bo_mod, bo_fdiv, bo_pow, bo_addl, co_lt, co_le, co_gt, co_ge, co_eqi, co_nei, co_eqs, eq_strs, co_is, co_isnot, ix_l, ix_t, tr_bl, tr_int, at_nat, sm_ni, sm_nn, sm_ti, sm_tt, sm_nt, sm_ns, sm_ts, sm_bb, sm_bn, sm_nl, sm_tl, sm_nb, sm_nd, sm_td, ranged_len, lim_lit, asgs_nil, asgs_cons, pat_1, pat_t, forK_nx, forK_ct, forK_bk, forK_rt, forK_exc, forL_nil, forL_cons, it_l, it_t, it_s, ol_l, ow_, mut_l, mut_d, fr_lst, fr_comp, fr_bin, fr_dct, sk_nx, sk_rt, sk_bk, sk_ct, sk_exc, ik_ok, ik_exc, fx_nil, fx_cons, fy_nx, fy_ct, fy_bk, fy_rt, fy_exc, tk_nx, tk_rt, tk_bk, tk_ct, tk_e0, tk_e1, w_skip, w_seq, w_set, w_setO, w_unpack, ak_, w_app, w_put, ps_l, ps_d, pl_i, w_aug, ag_add, ag_sub, w_expr, rv_fz, rv_own, w_ret_var, w_retN, w_ite, w_for, w_while, w_brk, w_cnt, w_raise, w_try, w_frz, e_con, e_var, e_glb, e_bin, e_neg, e_not, e_and, e_or, e_cmp, e_chain, e_ite, e_tup, e_lst, e_dct, e_idx, e_slc, ck_ret, ck_exc, e_call, e_bi1, e_bi2, e_comp, lx_nil, e_efld, e_eisi, nil_e, sub_n, sub_s, gone_rt, gone_nx, hush_nx, hush_rt, lt_lit, xr_con, xr_glb, xr_bin, xr_neg, xr_not, xr_and, xr_or, xr_cmp, xr_chain, xr_ite, xr_tup, xr_lst, xr_dct, xr_idx, xr_slc, xr_call, xr_bi, xr_comp, xr_pop, xr_efld, xr_eisi, at_k0, at_k1, at_k2, at_k3, at_k4, at_k5, at_k6, at_k7, at_k8, at_k9, at_k10, at_k11, at_k12, at_k13, at_k14, at_k15, at_k16, at_k17, at_k18, at_k19, at_k20, or_s, lx_cons, ly_some, ly_none, tx_, op_nil, op_cons, we_nil, we_cons, sp_nil, sp_cons, rp_nil, rp_cons, rg_0, rg_1, rg_2, rg_3, rg_4, rg_5, bls_n, bls_c, ints_n, ints_c, bf_all, bf_any, bf_gcd, bm_var, bn_, bm_lst, e_meth, my_ixl, mf_ix, xr_meth, bf_isqrt, bf_lr1, bf_lr2, bf_min1, bf_max1, mk_c, xk_c, asg_nil, evL, evC, evP, evI, List.map, List.length_cons, List.length_nil, List.cons_append, List.nil_append, List.replicate, if_true, reduceIte, Nat.sub_self, Nat.reduceAdd, Nat.reduceSub, Nat.reduceLT, Bool.false_eq_true, if_false, Bool.not_false, Bool.not_true, Bool.false_and, Bool.true_and, Option.isNone_some, Option.map_some, Nat.reduceEqDiff, Nat.zero_add, Nat.add_zero, Nat.reduceLeDiff, Int.reduceLT, Int.reduceLE, Int.reduceMod, Int.reduceAdd, Int.reduceSub, Int.reduceNeg, Int.reduceMul, Int.reduceBEq, decide_true, decide_false, bne_self_eq_false, BEq.rfl, and_self, Bool.false_or, Bool.true_or, Bool.or_false, Bool.or_true, Option.bind_some, Int.zero_add, Int.toNat_natCast, Int.cast_ofNat_Int, Int.natCast_zero, Int.natCast_one, Int.reduceToNat, Int.reducePow, List.all_cons, List.all_nil, List.any_cons, List.any_nil, id, Bool.not_not, List.length_map, Bool.and_true, Bool.and_false]
    · have e1 : gP h x y z b s = none := by unfold gP; rw [if_neg q]
      dsimp only
      rw [e1]
      refine ⟨[.fz (vc x y z), s1, s2, .fz (.int h), .fz (.int b), .fz (.int s), s6], ?_, _, rfl⟩
      simp -implicitDefEqProofs only [ct, eq_vc, q, bind_ok, bind_exc, st_ok, st_exc, seq_nx, seq_rt, seq_bk, seq_ct, seq_exc, opt_s, lift_s, map_s, get_0, get_s, put_0, put_s, run_eq, fin_nx, fin_rt, fin_exc, d_un, d_own, f_own, d_non, f_non, er_non, d_bl, f_bl, er_bl, d_int, f_int, er_int, d_str, f_str, er_str, d_lst, f_lst, er_lst, d_tup, f_tup, er_tup, d_dct, f_dct, er_dct, d_scr, f_scr, er_scr, d_ty, f_ty, er_ty, d_cls, f_cls, er_cls, b1_con, b2_con, bL_con, b1_glb, b2_glb, bL_glb, b1_bin, b2_bin, bL_bin, b1_neg, b2_neg, bL_neg, b1_not, b2_not, bL_not, b1_and, b2_and, bL_and, b1_or, b2_or, bL_or, b1_cmp, b2_cmp, bL_cmp, b1_chain, b2_chain, bL_chain, b1_ite, b2_ite, bL_ite, b1_tup, b2_tup, bL_tup, b1_lst, b2_lst, bL_lst, b1_dct, b2_dct, bL_dct, b1_idx, b2_idx, bL_idx, b1_slc, b2_slc, bL_slc, b1_call, b2_call, bL_call, b1_bi, b2_bi, bL_bi, b1_comp, b2_comp, bL_comp, b1_pop, b2_pop, bL_pop, b1_meth, b2_meth, bL_meth, b1_efld, b2_efld, bL_efld, b1_eisi, b2_eisi, bL_eisi, b1_var, b2_var, bL_var, isi_int_non, isi_int_bl, isi_int_int, isi_int_str, isi_int_lst, isi_int_tup, isi_int_dct, isi_bool_non, isi_bool_bl, isi_bool_int, isi_bool_str, isi_bool_lst, isi_bool_tup, isi_bool_dct, isi_str_non, isi_str_bl, isi_str_int, isi_str_str, isi_str_lst, isi_str_tup, isi_str_dct, isi_list_non, isi_list_bl, isi_list_int, isi_list_str, isi_list_lst, isi_list_tup, isi_list_dct, isi_tuple_non, isi_tuple_bl, isi_tuple_int, isi_tuple_str, isi_tuple_lst, isi_tuple_tup, isi_tuple_dct, isi_dict_non, isi_dict_bl, isi_dict_int, isi_dict_str, isi_dict_lst, isi_dict_tup, isi_dict_dct, bf_int, bf_intb, bf_abs, bf_lenl, bf_lent, bf_lens, bf_lend, bf_min2, bf_max2, bf_sum, bf_tup, bf_tupt, bf_lst, bf_lstt, bo_add, bo_sub, bo_mul, bo_mod, bo_fdiv, bo_pow, bo_addl, co_lt, co_le, co_gt, co_ge, co_eqi, co_nei, co_eqs, eq_strs, co_is, co_isnot, ix_l, ix_t, tr_bl, tr_int, at_nat, sm_ni, sm_nn, sm_ti, sm_tt, sm_nt, sm_ns, sm_ts, sm_bb, sm_bn, sm_nl, sm_tl, sm_nb, sm_nd, sm_td, ranged_len, lim_lit, asgs_nil, asgs_cons, pat_1, pat_t, forK_nx, forK_ct, forK_bk, forK_rt, forK_exc, forL_nil, forL_cons, it_l, it_t, it_s, ol_l, ow_, mut_l, mut_d, fr_lst, fr_comp, fr_bin, fr_dct, sk_nx, sk_rt, sk_bk, sk_ct, sk_exc, ik_ok, ik_exc, fx_nil, fx_cons, fy_nx, fy_ct, fy_bk, fy_rt, fy_exc, tk_nx, tk_rt, tk_bk, tk_ct, tk_e0, tk_e1, w_skip, w_seq, w_set, w_setO, w_unpack, ak_, w_app, w_put, ps_l, ps_d, pl_i, w_aug, ag_add, ag_sub, w_expr, rv_fz, rv_own, w_ret_var, w_retN, w_ite, w_for, w_while, w_brk, w_cnt, w_raise, w_try, w_frz, e_con, e_var, e_glb, e_bin, e_neg, e_not, e_and, e_or, e_cmp, e_chain, e_ite, e_tup, e_lst, e_dct, e_idx, e_slc, ck_ret, ck_exc, e_call, e_bi1, e_bi2, e_comp, lx_nil, e_efld, e_eisi, nil_e, sub_n, sub_s, gone_rt, gone_nx, hush_nx, hush_rt, lt_lit, xr_con, xr_glb, xr_bin, xr_neg, xr_not, xr_and, xr_or, xr_cmp, xr_chain, xr_ite, xr_tup, xr_lst, xr_dct, xr_idx, xr_slc, xr_call, xr_bi, xr_comp, xr_pop, xr_efld, xr_eisi, at_k0, at_k1, at_k2, at_k3, at_k4, at_k5, at_k6, at_k7, at_k8, at_k9, at_k10, at_k11, at_k12, at_k13, at_k14, at_k15, at_k16, at_k17, at_k18, at_k19, at_k20, or_s, lx_cons, ly_some, ly_none, tx_, op_nil, op_cons, we_nil, we_cons, sp_nil, sp_cons, rp_nil, rp_cons, rg_0, rg_1, rg_2, rg_3, rg_4, rg_5, bls_n, bls_c, ints_n, ints_c, bf_all, bf_any, bf_gcd, bm_var, bn_, bm_lst, e_meth, my_ixl, mf_ix, xr_meth, bf_isqrt, bf_lr1, bf_lr2, bf_min1, bf_max1, mk_c, xk_c, asg_nil, evL, evC, evP, evI, List.map, List.length_cons, List.length_nil, List.cons_append, List.nil_append, List.replicate, if_true, reduceIte, Nat.sub_self, Nat.reduceAdd, Nat.reduceSub, Nat.reduceLT, Bool.false_eq_true, if_false, Bool.not_false, Bool.not_true, Bool.false_and, Bool.true_and, Option.isNone_some, Option.map_some, Nat.reduceEqDiff, Nat.zero_add, Nat.add_zero, Nat.reduceLeDiff, Int.reduceLT, Int.reduceLE, Int.reduceMod, Int.reduceAdd, Int.reduceSub, Int.reduceNeg, Int.reduceMul, Int.reduceBEq, decide_true, decide_false, bne_self_eq_false, BEq.rfl, and_self, Bool.false_or, Bool.true_or, Bool.or_false, Bool.or_true, Option.bind_some, Int.zero_add, Int.toNat_natCast, Int.cast_ofNat_Int, Int.natCast_zero, Int.natCast_one, Int.reduceToNat, Int.reducePow, List.all_cons, List.all_nil, List.any_cons, List.any_nil, id, Bool.not_not, List.length_map, Bool.and_true, Bool.and_false]) _ ⟨_, rfl⟩
theorem outP (h x y z : Int) (hh : sm 150 h) (s1 s2 s4 s5 s6 : Sl) : Found (fun e => ∃ s4 s5, e = [.fz (vc x y z), s1, s2, .fz (.int h), s4, s5, s6]) (FS (gP h x y z))
    (forX G (callF G (n + 2)) [] false [4] false (.seq (.for_ [5] false (.bi .range2 (.cons (.neg (.glb 2)) (.cons (.bin .add (.glb 2) (.con (.int 1))) .nil)))
(.seq (.ite (.tst (.cmp .eq (.call 19 (.cons (.var 3) (.cons (.var 4) (.cons (.var 5) .nil)))) (.var 0)))
(.seq (.ret (.tup (.cons (.var 3) (.cons (.var 4) (.cons (.var 5) .nil)))))
.skip)
.skip)
.skip))
.skip) (ranged 0 36) [.fz (vc x y z), s1, s2, .fz (.int h), s4, s5, s6]) :=
  forX_find (fun d hd e he => by
    obtain ⟨b, rfl, hb⟩ := ranged_b hd
    obtain ⟨s4, s5, rfl⟩ := he
    have I := inP (n := n) h x y z b hh hb s1 s2 s5 s6
    show Found _ ((ranged (-9) 19).findSome? (FI (gP h x y z b))) _
    unfold stepX
    cases q : (ranged (-9) 19).findSome? (FI (gP h x y z b)) with
    | none =>
      rw [q] at I
      obtain ⟨e', h1, s5', rfl⟩ := I
      refine ⟨[.fz (vc x y z), s1, s2, .fz (.int h), .fz (.int b), s5', s6], ?_, _, _, rfl⟩
      simp -implicitDefEqProofs only [gg_0, gg_1, gg_2, gg_3, gg_4, gg_5, gg_6, gg_7, gg_8, gg_9, gg_10, gg_11, gg_12, gg_13, h1, bind_ok, bind_exc, st_ok, st_exc, seq_nx, seq_rt, seq_bk, seq_ct, seq_exc, opt_s, lift_s, map_s, get_0, get_s, put_0, put_s, run_eq, fin_nx, fin_rt, fin_exc, d_un, d_own, f_own, d_non, f_non, er_non, d_bl, f_bl, er_bl, d_int, f_int, er_int, d_str, f_str, er_str, d_lst, f_lst, er_lst, d_tup, f_tup, er_tup, d_dct, f_dct, er_dct, d_scr, f_scr, er_scr, d_ty, f_ty, er_ty, d_cls, f_cls, er_cls, b1_con, b2_con, bL_con, b1_glb, b2_glb, bL_glb, b1_bin, b2_bin, bL_bin, b1_neg, b2_neg, bL_neg, b1_not, b2_not, bL_not, b1_and, b2_and, bL_and, b1_or, b2_or, bL_or, b1_cmp, b2_cmp, bL_cmp, b1_chain, b2_chain, bL_chain, b1_ite, b2_ite, bL_ite, b1_tup, b2_tup, bL_tup, b1_lst, b2_lst, bL_lst, b1_dct, b2_dct, bL_dct, b1_idx, b2_idx, bL_idx, b1_slc, b2_slc, bL_slc, b1_call, b2_call, bL_call, b1_bi, b2_bi, bL_bi, b1_comp, b2_comp, bL_comp, b1_pop, b2_pop, bL_pop, b1_meth, b2_meth, bL_meth, b1_efld, b2_efld, bL_efld, b1_eisi, b2_eisi, bL_eisi, b1_var, b2_var, bL_var, isi_int_non, isi_int_bl, isi_int_int, isi_int_str, isi_int_lst, isi_int_tup, isi_int_dct, isi_bool_non, isi_bool_bl, isi_bool_int, isi_bool_str, isi_bool_lst, isi_bool_tup, isi_bool_dct, isi_str_non, isi_str_bl, isi_str_int, isi_str_str, isi_str_lst, isi_str_tup, isi_str_dct, isi_list_non, isi_list_bl, isi_list_int, isi_list_str, isi_list_lst, isi_list_tup, isi_list_dct, isi_tuple_non, isi_tuple_bl, isi_tuple_int, isi_tuple_str, isi_tuple_lst, isi_tuple_tup, isi_tuple_dct, isi_dict_non, isi_dict_bl, isi_dict_int, isi_dict_str, isi_dict_lst, isi_dict_tup, isi_dict_dct, bf_int, bf_intb, bf_abs, bf_lenl, bf_lent, bf_lens, bf_lend, bf_min2, bf_max2, bf_sum, bf_tup, bf_tupt, bf_lst, bf_lstt, bo_add, bo_sub, bo_mul, bo_mod, bo_fdiv, bo_pow, bo_addl, co_lt, co_le, co_gt, co_ge, co_eqi, co_nei, co_eqs, eq_strs, co_is, co_isnot, ix_l, ix_t, tr_bl, tr_int, at_nat, sm_ni, sm_nn, sm_ti, sm_tt, sm_nt, sm_ns, sm_ts, sm_bb, sm_bn, sm_nl, sm_tl, sm_nb, sm_nd, sm_td, ranged_len, lim_lit, asgs_nil, asgs_cons, pat_1, pat_t, forK_nx, forK_ct, forK_bk, forK_rt, forK_exc, forL_nil, forL_cons, it_l, it_t, it_s, ol_l, ow_, mut_l, mut_d, fr_lst, fr_comp, fr_bin, fr_dct, sk_nx, sk_rt, sk_bk, sk_ct, sk_exc, ik_ok, ik_exc, fx_nil, fx_cons, fy_nx, fy_ct, fy_bk, fy_rt, fy_exc, tk_nx, tk_rt, tk_bk, tk_ct, tk_e0, tk_e1, w_skip, w_seq, w_set, w_setO, w_unpack, ak_, w_app, w_put, ps_l, ps_d, pl_i, w_aug, ag_add, ag_sub, w_expr, rv_fz, rv_own, w_ret_var, w_retN, w_ite, w_for, w_while, w_brk, w_cnt, w_raise, w_try, w_frz, e_con, e_var, e_glb, e_bin, e_neg, e_not, e_and, e_or, e_cmp, e_chain, e_ite, e_tup, e_lst, e_dct, e_idx, e_slc, ck_ret, ck_exc, e_call, e_bi1, e_bi2, e_comp, lx_nil, e_efld, e_eisi, nil_e, sub_n, sub_s, gone_rt, gone_nx, hush_nx, hush_rt, lt_lit, xr_con, xr_glb, xr_bin, xr_neg, xr_not, xr_and, xr_or, xr_cmp, xr_chain, xr_ite, xr_tup, xr_lst, xr_dct, xr_idx, xr_slc, xr_call, xr_bi, xr_comp, xr_pop, xr_efld, xr_eisi, at_k0, at_k1, at_k2, at_k3, at_k4, at_k5, at_k6, at_k7, at_k8, at_k9, at_k10, at_k11, at_k12, at_k13, at_k14, at_k15, at_k16, at_k17, at_k18, at_k19, at_k20, or_s, lx_cons, ly_some, ly_none, tx_, op_nil, op_cons, we_nil, we_cons, sp_nil, sp_cons, rp_nil, rp_cons, rg_0, rg_1, rg_2, rg_3, rg_4, rg_5, bls_n, bls_c, ints_n, ints_c, bf_all, bf_any, bf_gcd, bm_var, bn_, bm_lst, e_meth, my_ixl, mf_ix, xr_meth, bf_isqrt, bf_lr1, bf_lr2, bf_min1, bf_max1, mk_c, xk_c, asg_nil, evL, evC, evP, evI, List.map, List.length_cons, List.length_nil, List.cons_append, List.nil_append, List.replicate, if_true, reduceIte, Nat.sub_self, Nat.reduceAdd, Nat.reduceSub, Nat.reduceLT, Bool.false_eq_true, if_false, Bool.not_false, Bool.not_true, Bool.false_and, Bool.true_and, Option.isNone_some, Option.map_some, Nat.reduceEqDiff, Nat.zero_add, Nat.add_zero, Nat.reduceLeDiff, Int.reduceLT, Int.reduceLE, Int.reduceMod, Int.reduceAdd, Int.reduceSub, Int.reduceNeg, Int.reduceMul, Int.reduceBEq, decide_true, decide_false, bne_self_eq_false, BEq.rfl, and_self, Bool.false_or, Bool.true_or, Bool.or_false, Bool.or_true, Option.bind_some, Int.zero_add, Int.toNat_natCast, Int.cast_ofNat_Int, Int.natCast_zero, Int.natCast_one, Int.reduceToNat, Int.reducePow, List.all_cons, List.all_nil, List.any_cons, List.any_nil, id, Bool.not_not, List.length_map, Bool.and_true, Bool.and_false]
    | some v =>
      rw [q] at I
      obtain ⟨e', h1⟩ := I
      refine ⟨e', ?_⟩
      simp -implicitDefEqProofs only [gg_0, gg_1, gg_2, gg_3, gg_4, gg_5, gg_6, gg_7, gg_8, gg_9, gg_10, gg_11, gg_12, gg_13, h1, bind_ok, bind_exc, st_ok, st_exc, seq_nx, seq_rt, seq_bk, seq_ct, seq_exc, opt_s, lift_s, map_s, get_0, get_s, put_0, put_s, run_eq, fin_nx, fin_rt, fin_exc, d_un, d_own, f_own, d_non, f_non, er_non, d_bl, f_bl, er_bl, d_int, f_int, er_int, d_str, f_str, er_str, d_lst, f_lst, er_lst, d_tup, f_tup, er_tup, d_dct, f_dct, er_dct, d_scr, f_scr, er_scr, d_ty, f_ty, er_ty, d_cls, f_cls, er_cls, b1_con, b2_con, bL_con, b1_glb, b2_glb, bL_glb, b1_bin, b2_bin, bL_bin, b1_neg, b2_neg, bL_neg, b1_not, b2_not, bL_not, b1_and, b2_and, bL_and, b1_or, b2_or, bL_or, b1_cmp, b2_cmp, bL_cmp, b1_chain, b2_chain, bL_chain, b1_ite, b2_ite, bL_ite, b1_tup, b2_tup, bL_tup, b1_lst, b2_lst, bL_lst, b1_dct, b2_dct, bL_dct, b1_idx, b2_idx, bL_idx, b1_slc, b2_slc, bL_slc, b1_call, b2_call, bL_call, b1_bi, b2_bi, bL_bi, b1_comp, b2_comp, bL_comp, b1_pop, b2_pop, bL_pop, b1_meth, b2_meth, bL_meth, b1_efld, b2_efld, bL_efld, b1_eisi, b2_eisi, bL_eisi, b1_var, b2_var, bL_var, isi_int_non, isi_int_bl, isi_int_int, isi_int_str, isi_int_lst, isi_int_tup, isi_int_dct, isi_bool_non, isi_bool_bl, isi_bool_int, isi_bool_str, isi_bool_lst, isi_bool_tup, isi_bool_dct, isi_str_non, isi_str_bl, isi_str_int, isi_str_str, isi_str_lst, isi_str_tup, isi_str_dct, isi_list_non, isi_list_bl, isi_list_int, isi_list_str, isi_list_lst, isi_list_tup, isi_list_dct, isi_tuple_non, isi_tuple_bl, isi_tuple_int, isi_tuple_str, isi_tuple_lst, isi_tuple_tup, isi_tuple_dct, isi_dict_non, isi_dict_bl, isi_dict_int, isi_dict_str, isi_dict_lst, isi_dict_tup, isi_dict_dct, bf_int, bf_intb, bf_abs, bf_lenl, bf_lent, bf_lens, bf_lend, bf_min2, bf_max2, bf_sum, bf_tup, bf_tupt, bf_lst, bf_lstt, bo_add, bo_sub, bo_mul, bo_mod, bo_fdiv, bo_pow, bo_addl, co_lt, co_le, co_gt, co_ge, co_eqi, co_nei, co_eqs, eq_strs, co_is, co_isnot, ix_l, ix_t, tr_bl, tr_int, at_nat, sm_ni, sm_nn, sm_ti, sm_tt, sm_nt, sm_ns, sm_ts, sm_bb, sm_bn, sm_nl, sm_tl, sm_nb, sm_nd, sm_td, ranged_len, lim_lit, asgs_nil, asgs_cons, pat_1, pat_t, forK_nx, forK_ct, forK_bk, forK_rt, forK_exc, forL_nil, forL_cons, it_l, it_t, it_s, ol_l, ow_, mut_l, mut_d, fr_lst, fr_comp, fr_bin, fr_dct, sk_nx, sk_rt, sk_bk, sk_ct, sk_exc, ik_ok, ik_exc, fx_nil, fx_cons, fy_nx, fy_ct, fy_bk, fy_rt, fy_exc, tk_nx, tk_rt, tk_bk, tk_ct, tk_e0, tk_e1, w_skip, w_seq, w_set, w_setO, w_unpack, ak_, w_app, w_put, ps_l, ps_d, pl_i, w_aug, ag_add, ag_sub, w_expr, rv_fz, rv_own, w_ret_var, w_retN, w_ite, w_for, w_while, w_brk, w_cnt, w_raise, w_try, w_frz, e_con, e_var, e_glb, e_bin, e_neg, e_not, e_and, e_or, e_cmp, e_chain, e_ite, e_tup, e_lst, e_dct, e_idx, e_slc, ck_ret, ck_exc, e_call, e_bi1, e_bi2, e_comp, lx_nil, e_efld, e_eisi, nil_e, sub_n, sub_s, gone_rt, gone_nx, hush_nx, hush_rt, lt_lit, xr_con, xr_glb, xr_bin, xr_neg, xr_not, xr_and, xr_or, xr_cmp, xr_chain, xr_ite, xr_tup, xr_lst, xr_dct, xr_idx, xr_slc, xr_call, xr_bi, xr_comp, xr_pop, xr_efld, xr_eisi, at_k0, at_k1, at_k2, at_k3, at_k4, at_k5, at_k6, at_k7, at_k8, at_k9, at_k10, at_k11, at_k12, at_k13, at_k14, at_k15, at_k16, at_k17, at_k18, at_k19, at_k20, or_s, lx_cons, ly_some, ly_none, tx_, op_nil, op_cons, we_nil, we_cons, sp_nil, sp_cons, rp_nil, rp_cons, rg_0, rg_1, rg_2, rg_3, rg_4, rg_5, bls_n, bls_c, ints_n, ints_c, bf_all, bf_any, bf_gcd, bm_var, bn_, bm_lst, e_meth, my_ixl, mf_ix, xr_meth, bf_isqrt, bf_lr1, bf_lr2, bf_min1, bf_max1, mk_c, xk_c, asg_nil, evL, evC, evP, evI, List.map, List.length_cons, List.length_nil, List.cons_append, List.nil_append, List.replicate, if_true, reduceIte, Nat.sub_self, Nat.reduceAdd, Nat.reduceSub, Nat.reduceLT, Bool.false_eq_true, if_false, Bool.not_false, Bool.not_true, Bool.false_and, Bool.true_and, Option.isNone_some, Option.map_some, Nat.reduceEqDiff, Nat.zero_add, Nat.add_zero, Nat.reduceLeDiff, Int.reduceLT, Int.reduceLE, Int.reduceMod, Int.reduceAdd, Int.reduceSub, Int.reduceNeg, Int.reduceMul, Int.reduceBEq, decide_true, decide_false, bne_self_eq_false, BEq.rfl, and_self, Bool.false_or, Bool.true_or, Bool.or_false, Bool.or_true, Option.bind_some, Int.zero_add, Int.toNat_natCast, Int.cast_ofNat_Int, Int.natCast_zero, Int.natCast_one, Int.reduceToNat, Int.reducePow, List.all_cons, List.all_nil, List.any_cons, List.any_nil, id, Bool.not_not, List.length_map, Bool.and_true, Bool.and_false]) _ ⟨_, _, rfl⟩
theorem c_isvec (a b c : Int) : callF G (n + 2) 2 [vc a b c] = .ret (.bl true) := by
  have c_1 : ∀ {n : Nat} {as : List D}, callF G (n + 1) 2 as = runDef G (callF G n) d_is_vector as := rfl
  simp -implicitDefEqProofs only [c_1, d_is_vector, b_is_vector, c_is_integer_int, bind_ok, bind_exc, st_ok, st_exc, seq_nx, seq_rt, seq_bk, seq_ct, seq_exc, opt_s, lift_s, map_s, get_0, get_s, put_0, put_s, run_eq, fin_nx, fin_rt, fin_exc, d_un, d_own, f_own, d_non, f_non, er_non, d_bl, f_bl, er_bl, d_int, f_int, er_int, d_str, f_str, er_str, d_lst, f_lst, er_lst, d_tup, f_tup, er_tup, d_dct, f_dct, er_dct, d_scr, f_scr, er_scr, d_ty, f_ty, er_ty, d_cls, f_cls, er_cls, b1_con, b2_con, bL_con, b1_glb, b2_glb, bL_glb, b1_bin, b2_bin, bL_bin, b1_neg, b2_neg, bL_neg, b1_not, b2_not, bL_not, b1_and, b2_and, bL_and, b1_or, b2_or, bL_or, b1_cmp, b2_cmp, bL_cmp, b1_chain, b2_chain, bL_chain, b1_ite, b2_ite, bL_ite, b1_tup, b2_tup, bL_tup, b1_lst, b2_lst, bL_lst, b1_dct, b2_dct, bL_dct, b1_idx, b2_idx, bL_idx, b1_slc, b2_slc, bL_slc, b1_call, b2_call, bL_call, b1_bi, b2_bi, bL_bi, b1_comp, b2_comp, bL_comp, b1_pop, b2_pop, bL_pop, b1_meth, b2_meth, bL_meth, b1_efld, b2_efld, bL_efld, b1_eisi, b2_eisi, bL_eisi, b1_var, b2_var, bL_var, isi_int_non, isi_int_bl, isi_int_int, isi_int_str, isi_int_lst, isi_int_tup, isi_int_dct, isi_bool_non, isi_bool_bl, isi_bool_int, isi_bool_str, isi_bool_lst, isi_bool_tup, isi_bool_dct, isi_str_non, isi_str_bl, isi_str_int, isi_str_str, isi_str_lst, isi_str_tup, isi_str_dct, isi_list_non, isi_list_bl, isi_list_int, isi_list_str, isi_list_lst, isi_list_tup, isi_list_dct, isi_tuple_non, isi_tuple_bl, isi_tuple_int, isi_tuple_str, isi_tuple_lst, isi_tuple_tup, isi_tuple_dct, isi_dict_non, isi_dict_bl, isi_dict_int, isi_dict_str, isi_dict_lst, isi_dict_tup, isi_dict_dct, bf_int, bf_intb, bf_abs, bf_lenl, bf_lent, bf_lens, bf_lend, bf_min2, bf_max2, bf_sum, bf_tup, bf_tupt, bf_lst, bf_lstt, bo_add, bo_sub, bo_mul, bo_mod, bo_fdiv, bo_pow, bo_addl, co_lt, co_le, co_gt, co_ge, co_eqi, co_nei, co_eqs, eq_strs, co_is, co_isnot, ix_l, ix_t, tr_bl, tr_int, at_nat, sm_ni, sm_nn, sm_ti, sm_tt, sm_nt, sm_ns, sm_ts, sm_bb, sm_bn, sm_nl, sm_tl, sm_nb, sm_nd, sm_td, ranged_len, lim_lit, asgs_nil, asgs_cons, pat_1, pat_t, forK_nx, forK_ct, forK_bk, forK_rt, forK_exc, forL_nil, forL_cons, it_l, it_t, it_s, ol_l, ow_, mut_l, mut_d, fr_lst, fr_comp, fr_bin, fr_dct, sk_nx, sk_rt, sk_bk, sk_ct, sk_exc, ik_ok, ik_exc, fx_nil, fx_cons, fy_nx, fy_ct, fy_bk, fy_rt, fy_exc, tk_nx, tk_rt, tk_bk, tk_ct, tk_e0, tk_e1, w_skip, w_seq, w_set, w_setO, w_unpack, ak_, w_app, w_put, ps_l, ps_d, pl_i, w_aug, ag_add, ag_sub, w_expr, rv_fz, rv_own, w_ret_var, w_retN, w_ite, w_for, w_while, w_brk, w_cnt, w_raise, w_try, w_frz, e_con, e_var, e_glb, e_bin, e_neg, e_not, e_and, e_or, e_cmp, e_chain, e_ite, e_tup, e_lst, e_dct, e_idx, e_slc, ck_ret, ck_exc, e_call, e_bi1, e_bi2, e_comp, lx_nil, e_efld, e_eisi, nil_e, sub_n, sub_s, gone_rt, gone_nx, hush_nx, hush_rt, lt_lit, xr_con, xr_glb, xr_bin, xr_neg, xr_not, xr_and, xr_or, xr_cmp, xr_chain, xr_ite, xr_tup, xr_lst, xr_dct, xr_idx, xr_slc, xr_call, xr_bi, xr_comp, xr_pop, xr_efld, xr_eisi, at_k0, at_k1, at_k2, at_k3, at_k4, at_k5, at_k6, at_k7, at_k8, at_k9, at_k10, at_k11, at_k12, at_k13, at_k14, at_k15, at_k16, at_k17, at_k18, at_k19, at_k20, or_s, lx_cons, ly_some, ly_none, tx_, op_nil, op_cons, we_nil, we_cons, sp_nil, sp_cons, rp_nil, rp_cons, rg_0, rg_1, rg_2, rg_3, rg_4, rg_5, bls_n, bls_c, ints_n, ints_c, bf_all, bf_any, bf_gcd, bm_var, bn_, bm_lst, e_meth, my_ixl, mf_ix, xr_meth, bf_isqrt, bf_lr1, bf_lr2, bf_min1, bf_max1, mk_c, xk_c, asg_nil, evL, evC, evP, evI, List.map, List.length_cons, List.length_nil, List.cons_append, List.nil_append, List.replicate, if_true, reduceIte, Nat.sub_self, Nat.reduceAdd, Nat.reduceSub, Nat.reduceLT, Bool.false_eq_true, if_false, Bool.not_false, Bool.not_true, Bool.false_and, Bool.true_and, Option.isNone_some, Option.map_some, Nat.reduceEqDiff, Nat.zero_add, Nat.add_zero, Nat.reduceLeDiff, Int.reduceLT, Int.reduceLE, Int.reduceMod, Int.reduceAdd, Int.reduceSub, Int.reduceNeg, Int.reduceMul, Int.reduceBEq, decide_true, decide_false, bne_self_eq_false, BEq.rfl, and_self, Bool.false_or, Bool.true_or, Bool.or_false, Bool.or_true, Option.bind_some, Int.zero_add, Int.toNat_natCast, Int.cast_ofNat_Int, Int.natCast_zero, Int.natCast_one, Int.reduceToNat, Int.reducePow, List.all_cons, List.all_nil, List.any_cons, List.any_nil, id, Bool.not_not, List.length_map, Bool.and_true, Bool.and_false]
theorem c_chkv (a b c : Int) : callF G (n + 3) 3 [vc a b c] = .ret .non := by
  have c_1 : ∀ {n : Nat} {as : List D}, callF G (n + 1) 3 as = runDef G (callF G n) d_check_vector as := rfl
  simp -implicitDefEqProofs only [c_1, d_check_vector, b_check_vector, c_isvec, bind_ok, bind_exc, st_ok, st_exc, seq_nx, seq_rt, seq_bk, seq_ct, seq_exc, opt_s, lift_s, map_s, get_0, get_s, put_0, put_s, run_eq, fin_nx, fin_rt, fin_exc, d_un, d_own, f_own, d_non, f_non, er_non, d_bl, f_bl, er_bl, d_int, f_int, er_int, d_str, f_str, er_str, d_lst, f_lst, er_lst, d_tup, f_tup, er_tup, d_dct, f_dct, er_dct, d_scr, f_scr, er_scr, d_ty, f_ty, er_ty, d_cls, f_cls, er_cls, b1_con, b2_con, bL_con, b1_glb, b2_glb, bL_glb, b1_bin, b2_bin, bL_bin, b1_neg, b2_neg, bL_neg, b1_not, b2_not, bL_not, b1_and, b2_and, bL_and, b1_or, b2_or, bL_or, b1_cmp, b2_cmp, bL_cmp, b1_chain, b2_chain, bL_chain, b1_ite, b2_ite, bL_ite, b1_tup, b2_tup, bL_tup, b1_lst, b2_lst, bL_lst, b1_dct, b2_dct, bL_dct, b1_idx, b2_idx, bL_idx, b1_slc, b2_slc, bL_slc, b1_call, b2_call, bL_call, b1_bi, b2_bi, bL_bi, b1_comp, b2_comp, bL_comp, b1_pop, b2_pop, bL_pop, b1_meth, b2_meth, bL_meth, b1_efld, b2_efld, bL_efld, b1_eisi, b2_eisi, bL_eisi, b1_var, b2_var, bL_var, isi_int_non, isi_int_bl, isi_int_int, isi_int_str, isi_int_lst, isi_int_tup, isi_int_dct, isi_bool_non, isi_bool_bl, isi_bool_int, isi_bool_str, isi_bool_lst, isi_bool_tup, isi_bool_dct, isi_str_non, isi_str_bl, isi_str_int, isi_str_str, isi_str_lst, isi_str_tup, isi_str_dct, isi_list_non, isi_list_bl, isi_list_int, isi_list_str, isi_list_lst, isi_list_tup, isi_list_dct, isi_tuple_non, isi_tuple_bl, isi_tuple_int, isi_tuple_str, isi_tuple_lst, isi_tuple_tup, isi_tuple_dct, isi_dict_non, isi_dict_bl, isi_dict_int, isi_dict_str, isi_dict_lst, isi_dict_tup, isi_dict_dct, bf_int, bf_intb, bf_abs, bf_lenl, bf_lent, bf_lens, bf_lend, bf_min2, bf_max2, bf_sum, bf_tup, bf_tupt, bf_lst, bf_lstt, bo_add, bo_sub, bo_mul, bo_mod, bo_fdiv, bo_pow, bo_addl, co_lt, co_le, co_gt, co_ge, co_eqi, co_nei, co_eqs, eq_strs, co_is, co_isnot, ix_l, ix_t, tr_bl, tr_int, at_nat, sm_ni, sm_nn, sm_ti, sm_tt, sm_nt, sm_ns, sm_ts, sm_bb, sm_bn, sm_nl, sm_tl, sm_nb, sm_nd, sm_td, ranged_len, lim_lit, asgs_nil, asgs_cons, pat_1, pat_t, forK_nx, forK_ct, forK_bk, forK_rt, forK_exc, forL_nil, forL_cons, it_l, it_t, it_s, ol_l, ow_, mut_l, mut_d, fr_lst, fr_comp, fr_bin, fr_dct, sk_nx, sk_rt, sk_bk, sk_ct, sk_exc, ik_ok, ik_exc, fx_nil, fx_cons, fy_nx, fy_ct, fy_bk, fy_rt, fy_exc, tk_nx, tk_rt, tk_bk, tk_ct, tk_e0, tk_e1, w_skip, w_seq, w_set, w_setO, w_unpack, ak_, w_app, w_put, ps_l, ps_d, pl_i, w_aug, ag_add, ag_sub, w_expr, rv_fz, rv_own, w_ret_var, w_retN, w_ite, w_for, w_while, w_brk, w_cnt, w_raise, w_try, w_frz, e_con, e_var, e_glb, e_bin, e_neg, e_not, e_and, e_or, e_cmp, e_chain, e_ite, e_tup, e_lst, e_dct, e_idx, e_slc, ck_ret, ck_exc, e_call, e_bi1, e_bi2, e_comp, lx_nil, e_efld, e_eisi, nil_e, sub_n, sub_s, gone_rt, gone_nx, hush_nx, hush_rt, lt_lit, xr_con, xr_glb, xr_bin, xr_neg, xr_not, xr_and, xr_or, xr_cmp, xr_chain, xr_ite, xr_tup, xr_lst, xr_dct, xr_idx, xr_slc, xr_call, xr_bi, xr_comp, xr_pop, xr_efld, xr_eisi, at_k0, at_k1, at_k2, at_k3, at_k4, at_k5, at_k6, at_k7, at_k8, at_k9, at_k10, at_k11, at_k12, at_k13, at_k14, at_k15, at_k16, at_k17, at_k18, at_k19, at_k20, or_s, lx_cons, ly_some, ly_none, tx_, op_nil, op_cons, we_nil, we_cons, sp_nil, sp_cons, rp_nil, rp_cons, rg_0, rg_1, rg_2, rg_3, rg_4, rg_5, bls_n, bls_c, ints_n, ints_c, bf_all, bf_any, bf_gcd, bm_var, bn_, bm_lst, e_meth, my_ixl, mf_ix, xr_meth, bf_isqrt, bf_lr1, bf_lr2, bf_min1, bf_max1, mk_c, xk_c, asg_nil, evL, evC, evP, evI, List.map, List.length_cons, List.length_nil, List.cons_append, List.nil_append, List.replicate, if_true, reduceIte, Nat.sub_self, Nat.reduceAdd, Nat.reduceSub, Nat.reduceLT, Bool.false_eq_true, if_false, Bool.not_false, Bool.not_true, Bool.false_and, Bool.true_and, Option.isNone_some, Option.map_some, Nat.reduceEqDiff, Nat.zero_add, Nat.add_zero, Nat.reduceLeDiff, Int.reduceLT, Int.reduceLE, Int.reduceMod, Int.reduceAdd, Int.reduceSub, Int.reduceNeg, Int.reduceMul, Int.reduceBEq, decide_true, decide_false, bne_self_eq_false, BEq.rfl, and_self, Bool.false_or, Bool.true_or, Bool.or_false, Bool.or_true, Option.bind_some, Int.zero_add, Int.toNat_natCast, Int.cast_ofNat_Int, Int.natCast_zero, Int.natCast_one, Int.reduceToNat, Int.reducePow, List.all_cons, List.all_nil, List.any_cons, List.any_nil, id, Bool.not_not, List.length_map, Bool.and_true, Bool.and_false]
/-- what triple_of tells -/
def TO (x y z : Int) : D :=
  let q := x * x + (y * y + (z * z + 0))
  let r : Int := (PySem.Float64.isqrt q.toNat : Nat)
  if r * r ≠ q ∨ r % 4225 ≠ 0 then .non else if r / 4225 = 0 then vc 0 0 0 else orN (FS (gP (r / 4225) x y z))
theorem sq_nn (x : Int) : 0 ≤ x * x := by
  rcases Int.le_total 0 x with h | h
  · exact Int.mul_nonneg h h
  · exact Int.mul_nonneg_of_nonpos_of_nonpos h h
theorem isq_le (m : Nat) : PySem.Float64.isqrt m ≤ m := by
  have := (PySem.Float64.isqrt_spec m).1
  exact Nat.le_trans (Nat.le_mul_self _) this
theorem isq_sm {m : Int} (k : Nat) (h0 : 0 ≤ m) (h : sm (k + k) m) : sm k ((PySem.Float64.isqrt m.toNat : Nat) : Int) := by
  have h1 := (PySem.Float64.isqrt_spec m.toNat).1
  unfold sm at *
  rw [Int.natAbs_natCast]
  refine Nat.lt_of_not_le fun q => ?_
  have h2 : 2 ^ k * 2 ^ k ≤ PySem.Float64.isqrt m.toNat * PySem.Float64.isqrt m.toNat := Nat.mul_le_mul q q
  rw [← Nat.pow_add] at h2
  have h3 : m.toNat = m.natAbs := by omega
  omega
theorem c_triple_of (x y z : Int) (hx : sm 140 x) (hy : sm 140 y) (hz : sm 140 z) : callF G (n + 4) 23 [vc x y z] = .ret (TO x y z) := by
  have c_1 : ∀ {n : Nat} {as : List D}, callF G (n + 1) 23 as = runDef G (callF G n) d_triple_of as := rfl
  have m1 := mulS hx hx
  have m2 := mulS hy hy
  have m3 := mulS hz hz
  have s1 := hx.mul hx
  have s2 := hy.mul hy
  have s3 := hz.mul hz
  have p1 : 0 ≤ x * x := sq_nn x
  have p2 : 0 ≤ y * y := sq_nn y
  have p3 : 0 ≤ z * z := sq_nn z
  have h0 : 0 ≤ x * x + (y * y + (z * z + 0)) := by omega
  have hs : sm (141 + 141) (x * x + (y * y + (z * z + 0))) := by unfold sm at *; omega
  have hr := isq_sm 141 h0 hs
  have hl : (x * x + (y * y + (z * z + 0))).toNat.log2 ≤ 13000 := by
    have := log2_le hs
    have e : (x * x + (y * y + (z * z + 0))).toNat = (x * x + (y * y + (z * z + 0))).natAbs := by omega
    rw [e]; omega
  unfold TO
  generalize hq : x * x + (y * y + (z * z + 0)) = q at *
  generalize hrr : ((PySem.Float64.isqrt q.toNat : Nat) : Int) = r at *
  have r0 : 0 ≤ r := by rw [← hrr]; omega
  have m4 := mulS hr hr
  have hh : sm 150 (r / 4225) := by unfold sm at *; omega
  have d1 : divOk 4225 = true := by decide
  have hc : 0 ≤ q ∧ q.toNat.log2 ≤ 13000 := ⟨h0, hl⟩
  by_cases k1 : r * r = q
  · by_cases k2 : r % 4225 = 0
    · by_cases k3 : r / 4225 = 0
      · simp -implicitDefEqProofs only [c_1, d_triple_of, b_triple_of, gg_0, gg_1, gg_2, gg_3, gg_4, gg_5, gg_6, gg_7, gg_8, gg_9, gg_10, gg_11, gg_12, gg_13, c_chkv, m1, m2, m3, List.sum_cons, List.sum_nil, hq, hc, hrr, m4, k1, k2, d1, k3, bind_ok, bind_exc, st_ok, st_exc, seq_nx, seq_rt, seq_bk, seq_ct, seq_exc, opt_s, lift_s, map_s, get_0, get_s, put_0, put_s, run_eq, fin_nx, fin_rt, fin_exc, d_un, d_own, f_own, d_non, f_non, er_non, d_bl, f_bl, er_bl, d_int, f_int, er_int, d_str, f_str, er_str, d_lst, f_lst, er_lst, d_tup, f_tup, er_tup, d_dct, f_dct, er_dct, d_scr, f_scr, er_scr, d_ty, f_ty, er_ty, d_cls, f_cls, er_cls, b1_con, b2_con, bL_con, b1_glb, b2_glb, bL_glb, b1_bin, b2_bin, bL_bin, b1_neg, b2_neg, bL_neg, b1_not, b2_not, bL_not, b1_and, b2_and, bL_and, b1_or, b2_or, bL_or, b1_cmp, b2_cmp, bL_cmp, b1_chain, b2_chain, bL_chain, b1_ite, b2_ite, bL_ite, b1_tup, b2_tup, bL_tup, b1_lst, b2_lst, bL_lst, b1_dct, b2_dct, bL_dct, b1_idx, b2_idx, bL_idx, b1_slc, b2_slc, bL_slc, b1_call, b2_call, bL_call, b1_bi, b2_bi, bL_bi, b1_comp, b2_comp, bL_comp, b1_pop, b2_pop, bL_pop, b1_meth, b2_meth, bL_meth, b1_efld, b2_efld, bL_efld, b1_eisi, b2_eisi, bL_eisi, b1_var, b2_var, bL_var, isi_int_non, isi_int_bl, isi_int_int, isi_int_str, isi_int_lst, isi_int_tup, isi_int_dct, isi_bool_non, isi_bool_bl, isi_bool_int, isi_bool_str, isi_bool_lst, isi_bool_tup, isi_bool_dct, isi_str_non, isi_str_bl, isi_str_int, isi_str_str, isi_str_lst, isi_str_tup, isi_str_dct, isi_list_non, isi_list_bl, isi_list_int, isi_list_str, isi_list_lst, isi_list_tup, isi_list_dct, isi_tuple_non, isi_tuple_bl, isi_tuple_int, isi_tuple_str, isi_tuple_lst, isi_tuple_tup, isi_tuple_dct, isi_dict_non, isi_dict_bl, isi_dict_int, isi_dict_str, isi_dict_lst, isi_dict_tup, isi_dict_dct, bf_int, bf_intb, bf_abs, bf_lenl, bf_lent, bf_lens, bf_lend, bf_min2, bf_max2, bf_sum, bf_tup, bf_tupt, bf_lst, bf_lstt, bo_add, bo_sub, bo_mul, bo_mod, bo_fdiv, bo_pow, bo_addl, co_lt, co_le, co_gt, co_ge, co_eqi, co_nei, co_eqs, eq_strs, co_is, co_isnot, ix_l, ix_t, tr_bl, tr_int, at_nat, sm_ni, sm_nn, sm_ti, sm_tt, sm_nt, sm_ns, sm_ts, sm_bb, sm_bn, sm_nl, sm_tl, sm_nb, sm_nd, sm_td, ranged_len, lim_lit, asgs_nil, asgs_cons, pat_1, pat_t, forK_nx, forK_ct, forK_bk, forK_rt, forK_exc, forL_nil, forL_cons, it_l, it_t, it_s, ol_l, ow_, mut_l, mut_d, fr_lst, fr_comp, fr_bin, fr_dct, sk_nx, sk_rt, sk_bk, sk_ct, sk_exc, ik_ok, ik_exc, fx_nil, fx_cons, fy_nx, fy_ct, fy_bk, fy_rt, fy_exc, tk_nx, tk_rt, tk_bk, tk_ct, tk_e0, tk_e1, w_skip, w_seq, w_set, w_setO, w_unpack, ak_, w_app, w_put, ps_l, ps_d, pl_i, w_aug, ag_add, ag_sub, w_expr, rv_fz, rv_own, w_ret_var, w_retN, w_ite, w_for, w_while, w_brk, w_cnt, w_raise, w_try, w_frz, e_con, e_var, e_glb, e_bin, e_neg, e_not, e_and, e_or, e_cmp, e_chain, e_ite, e_tup, e_lst, e_dct, e_idx, e_slc, ck_ret, ck_exc, e_call, e_bi1, e_bi2, e_comp, lx_nil, e_efld, e_eisi, nil_e, sub_n, sub_s, gone_rt, gone_nx, hush_nx, hush_rt, lt_lit, xr_con, xr_glb, xr_bin, xr_neg, xr_not, xr_and, xr_or, xr_cmp, xr_chain, xr_ite, xr_tup, xr_lst, xr_dct, xr_idx, xr_slc, xr_call, xr_bi, xr_comp, xr_pop, xr_efld, xr_eisi, at_k0, at_k1, at_k2, at_k3, at_k4, at_k5, at_k6, at_k7, at_k8, at_k9, at_k10, at_k11, at_k12, at_k13, at_k14, at_k15, at_k16, at_k17, at_k18, at_k19, at_k20, or_s, lx_cons, ly_some, ly_none, tx_, op_nil, op_cons, we_nil, we_cons, sp_nil, sp_cons, rp_nil, rp_cons, rg_0, rg_1, rg_2, rg_3, rg_4, rg_5, bls_n, bls_c, ints_n, ints_c, bf_all, bf_any, bf_gcd, bm_var, bn_, bm_lst, e_meth, my_ixl, mf_ix, xr_meth, bf_isqrt, bf_lr1, bf_lr2, bf_min1, bf_max1, mk_c, xk_c, asg_nil, evL, evC, evP, evI, List.map, List.length_cons, List.length_nil, List.cons_append, List.nil_append, List.replicate, if_true, reduceIte, Nat.sub_self, Nat.reduceAdd, Nat.reduceSub, Nat.reduceLT, Bool.false_eq_true, if_false, Bool.not_false, Bool.not_true, Bool.false_and, Bool.true_and, Option.isNone_some, Option.map_some, Nat.reduceEqDiff, Nat.zero_add, Nat.add_zero, Nat.reduceLeDiff, Int.reduceLT, Int.reduceLE, Int.reduceMod, Int.reduceAdd, Int.reduceSub, Int.reduceNeg, Int.reduceMul, Int.reduceBEq, decide_true, decide_false, bne_self_eq_false, BEq.rfl, and_self, Bool.false_or, Bool.true_or, Bool.or_false, Bool.or_true, Option.bind_some, Int.zero_add, Int.toNat_natCast, Int.cast_ofNat_Int, Int.natCast_zero, Int.natCast_one, Int.reduceToNat, Int.reducePow, List.all_cons, List.all_nil, List.any_cons, List.any_nil, id, Bool.not_not, List.length_map, Bool.and_true, Bool.and_false]
        simp
      · have k3' : (r / 4225 == 0) = false := by simpa using k3
        have O := outP (n := n + 1) (r / 4225) x y z hh (.fz (.int q)) (.fz (.int r)) .un .un .un
        cases hf : FS (gP (r / 4225) x y z) with
        | none =>
          rw [hf] at O
          obtain ⟨e', h1, s4, s5, rfl⟩ := O
          simp -implicitDefEqProofs only [c_1, d_triple_of, b_triple_of, gg_0, gg_1, gg_2, gg_3, gg_4, gg_5, gg_6, gg_7, gg_8, gg_9, gg_10, gg_11, gg_12, gg_13, c_chkv, m1, m2, m3, List.sum_cons, List.sum_nil, hq, hc, hrr, m4, k1, k2, d1, k3', h1, bind_ok, bind_exc, st_ok, st_exc, seq_nx, seq_rt, seq_bk, seq_ct, seq_exc, opt_s, lift_s, map_s, get_0, get_s, put_0, put_s, run_eq, fin_nx, fin_rt, fin_exc, d_un, d_own, f_own, d_non, f_non, er_non, d_bl, f_bl, er_bl, d_int, f_int, er_int, d_str, f_str, er_str, d_lst, f_lst, er_lst, d_tup, f_tup, er_tup, d_dct, f_dct, er_dct, d_scr, f_scr, er_scr, d_ty, f_ty, er_ty, d_cls, f_cls, er_cls, b1_con, b2_con, bL_con, b1_glb, b2_glb, bL_glb, b1_bin, b2_bin, bL_bin, b1_neg, b2_neg, bL_neg, b1_not, b2_not, bL_not, b1_and, b2_and, bL_and, b1_or, b2_or, bL_or, b1_cmp, b2_cmp, bL_cmp, b1_chain, b2_chain, bL_chain, b1_ite, b2_ite, bL_ite, b1_tup, b2_tup, bL_tup, b1_lst, b2_lst, bL_lst, b1_dct, b2_dct, bL_dct, b1_idx, b2_idx, bL_idx, b1_slc, b2_slc, bL_slc, b1_call, b2_call, bL_call, b1_bi, b2_bi, bL_bi, b1_comp, b2_comp, bL_comp, b1_pop, b2_pop, bL_pop, b1_meth, b2_meth, bL_meth, b1_efld, b2_efld, bL_efld, b1_eisi, b2_eisi, bL_eisi, b1_var, b2_var, bL_var, isi_int_non, isi_int_bl, isi_int_int, isi_int_str, isi_int_lst, isi_int_tup, isi_int_dct, isi_bool_non, isi_bool_bl, isi_bool_int, isi_bool_str, isi_bool_lst, isi_bool_tup, isi_bool_dct, isi_str_non, isi_str_bl, isi_str_int, isi_str_str, isi_str_lst, isi_str_tup, isi_str_dct, isi_list_non, isi_list_bl, isi_list_int, isi_list_str, isi_list_lst, isi_list_tup, isi_list_dct, isi_tuple_non, isi_tuple_bl, isi_tuple_int, isi_tuple_str, isi_tuple_lst, isi_tuple_tup, isi_tuple_dct, isi_dict_non, isi_dict_bl, isi_dict_int, isi_dict_str, isi_dict_lst, isi_dict_tup, isi_dict_dct, bf_int, bf_intb, bf_abs, bf_lenl, bf_lent, bf_lens, bf_lend, bf_min2, bf_max2, bf_sum, bf_tup, bf_tupt, bf_lst, bf_lstt, bo_add, bo_sub, bo_mul, bo_mod, bo_fdiv, bo_pow, bo_addl, co_lt, co_le, co_gt, co_ge, co_eqi, co_nei, co_eqs, eq_strs, co_is, co_isnot, ix_l, ix_t, tr_bl, tr_int, at_nat, sm_ni, sm_nn, sm_ti, sm_tt, sm_nt, sm_ns, sm_ts, sm_bb, sm_bn, sm_nl, sm_tl, sm_nb, sm_nd, sm_td, ranged_len, lim_lit, asgs_nil, asgs_cons, pat_1, pat_t, forK_nx, forK_ct, forK_bk, forK_rt, forK_exc, forL_nil, forL_cons, it_l, it_t, it_s, ol_l, ow_, mut_l, mut_d, fr_lst, fr_comp, fr_bin, fr_dct, sk_nx, sk_rt, sk_bk, sk_ct, sk_exc, ik_ok, ik_exc, fx_nil, fx_cons, fy_nx, fy_ct, fy_bk, fy_rt, fy_exc, tk_nx, tk_rt, tk_bk, tk_ct, tk_e0, tk_e1, w_skip, w_seq, w_set, w_setO, w_unpack, ak_, w_app, w_put, ps_l, ps_d, pl_i, w_aug, ag_add, ag_sub, w_expr, rv_fz, rv_own, w_ret_var, w_retN, w_ite, w_for, w_while, w_brk, w_cnt, w_raise, w_try, w_frz, e_con, e_var, e_glb, e_bin, e_neg, e_not, e_and, e_or, e_cmp, e_chain, e_ite, e_tup, e_lst, e_dct, e_idx, e_slc, ck_ret, ck_exc, e_call, e_bi1, e_bi2, e_comp, lx_nil, e_efld, e_eisi, nil_e, sub_n, sub_s, gone_rt, gone_nx, hush_nx, hush_rt, lt_lit, xr_con, xr_glb, xr_bin, xr_neg, xr_not, xr_and, xr_or, xr_cmp, xr_chain, xr_ite, xr_tup, xr_lst, xr_dct, xr_idx, xr_slc, xr_call, xr_bi, xr_comp, xr_pop, xr_efld, xr_eisi, at_k0, at_k1, at_k2, at_k3, at_k4, at_k5, at_k6, at_k7, at_k8, at_k9, at_k10, at_k11, at_k12, at_k13, at_k14, at_k15, at_k16, at_k17, at_k18, at_k19, at_k20, or_s, lx_cons, ly_some, ly_none, tx_, op_nil, op_cons, we_nil, we_cons, sp_nil, sp_cons, rp_nil, rp_cons, rg_0, rg_1, rg_2, rg_3, rg_4, rg_5, bls_n, bls_c, ints_n, ints_c, bf_all, bf_any, bf_gcd, bm_var, bn_, bm_lst, e_meth, my_ixl, mf_ix, xr_meth, bf_isqrt, bf_lr1, bf_lr2, bf_min1, bf_max1, mk_c, xk_c, asg_nil, evL, evC, evP, evI, List.map, List.length_cons, List.length_nil, List.cons_append, List.nil_append, List.replicate, if_true, reduceIte, Nat.sub_self, Nat.reduceAdd, Nat.reduceSub, Nat.reduceLT, Bool.false_eq_true, if_false, Bool.not_false, Bool.not_true, Bool.false_and, Bool.true_and, Option.isNone_some, Option.map_some, Nat.reduceEqDiff, Nat.zero_add, Nat.add_zero, Nat.reduceLeDiff, Int.reduceLT, Int.reduceLE, Int.reduceMod, Int.reduceAdd, Int.reduceSub, Int.reduceNeg, Int.reduceMul, Int.reduceBEq, decide_true, decide_false, bne_self_eq_false, BEq.rfl, and_self, Bool.false_or, Bool.true_or, Bool.or_false, Bool.or_true, Option.bind_some, Int.zero_add, Int.toNat_natCast, Int.cast_ofNat_Int, Int.natCast_zero, Int.natCast_one, Int.reduceToNat, Int.reducePow, List.all_cons, List.all_nil, List.any_cons, List.any_nil, id, Bool.not_not, List.length_map, Bool.and_true, Bool.and_false]
          simp [k3, orN, hf]
        | some v =>
          rw [hf] at O
          obtain ⟨e', h1⟩ := O
          simp -implicitDefEqProofs only [c_1, d_triple_of, b_triple_of, gg_0, gg_1, gg_2, gg_3, gg_4, gg_5, gg_6, gg_7, gg_8, gg_9, gg_10, gg_11, gg_12, gg_13, c_chkv, m1, m2, m3, List.sum_cons, List.sum_nil, hq, hc, hrr, m4, k1, k2, d1, k3', h1, bind_ok, bind_exc, st_ok, st_exc, seq_nx, seq_rt, seq_bk, seq_ct, seq_exc, opt_s, lift_s, map_s, get_0, get_s, put_0, put_s, run_eq, fin_nx, fin_rt, fin_exc, d_un, d_own, f_own, d_non, f_non, er_non, d_bl, f_bl, er_bl, d_int, f_int, er_int, d_str, f_str, er_str, d_lst, f_lst, er_lst, d_tup, f_tup, er_tup, d_dct, f_dct, er_dct, d_scr, f_scr, er_scr, d_ty, f_ty, er_ty, d_cls, f_cls, er_cls, b1_con, b2_con, bL_con, b1_glb, b2_glb, bL_glb, b1_bin, b2_bin, bL_bin, b1_neg, b2_neg, bL_neg, b1_not, b2_not, bL_not, b1_and, b2_and, bL_and, b1_or, b2_or, bL_or, b1_cmp, b2_cmp, bL_cmp, b1_chain, b2_chain, bL_chain, b1_ite, b2_ite, bL_ite, b1_tup, b2_tup, bL_tup, b1_lst, b2_lst, bL_lst, b1_dct, b2_dct, bL_dct, b1_idx, b2_idx, bL_idx, b1_slc, b2_slc, bL_slc, b1_call, b2_call, bL_call, b1_bi, b2_bi, bL_bi, b1_comp, b2_comp, bL_comp, b1_pop, b2_pop, bL_pop, b1_meth, b2_meth, bL_meth, b1_efld, b2_efld, bL_efld, b1_eisi, b2_eisi, bL_eisi, b1_var, b2_var, bL_var, isi_int_non, isi_int_bl, isi_int_int, isi_int_str, isi_int_lst, isi_int_tup, isi_int_dct, isi_bool_non, isi_bool_bl, isi_bool_int, isi_bool_str, isi_bool_lst, isi_bool_tup, isi_bool_dct, isi_str_non, isi_str_bl, isi_str_int, isi_str_str, isi_str_lst, isi_str_tup, isi_str_dct, isi_list_non, isi_list_bl, isi_list_int, isi_list_str, isi_list_lst, isi_list_tup, isi_list_dct, isi_tuple_non, isi_tuple_bl, isi_tuple_int, isi_tuple_str, isi_tuple_lst, isi_tuple_tup, isi_tuple_dct, isi_dict_non, isi_dict_bl, isi_dict_int, isi_dict_str, isi_dict_lst, isi_dict_tup, isi_dict_dct, bf_int, bf_intb, bf_abs, bf_lenl, bf_lent, bf_lens, bf_lend, bf_min2, bf_max2, bf_sum, bf_tup, bf_tupt, bf_lst, bf_lstt, bo_add, bo_sub, bo_mul, bo_mod, bo_fdiv, bo_pow, bo_addl, co_lt, co_le, co_gt, co_ge, co_eqi, co_nei, co_eqs, eq_strs, co_is, co_isnot, ix_l, ix_t, tr_bl, tr_int, at_nat, sm_ni, sm_nn, sm_ti, sm_tt, sm_nt, sm_ns, sm_ts, sm_bb, sm_bn, sm_nl, sm_tl, sm_nb, sm_nd, sm_td, ranged_len, lim_lit, asgs_nil, asgs_cons, pat_1, pat_t, forK_nx, forK_ct, forK_bk, forK_rt, forK_exc, forL_nil, forL_cons, it_l, it_t, it_s, ol_l, ow_, mut_l, mut_d, fr_lst, fr_comp, fr_bin, fr_dct, sk_nx, sk_rt, sk_bk, sk_ct, sk_exc, ik_ok, ik_exc, fx_nil, fx_cons, fy_nx, fy_ct, fy_bk, fy_rt, fy_exc, tk_nx, tk_rt, tk_bk, tk_ct, tk_e0, tk_e1, w_skip, w_seq, w_set, w_setO, w_unpack, ak_, w_app, w_put, ps_l, ps_d, pl_i, w_aug, ag_add, ag_sub, w_expr, rv_fz, rv_own, w_ret_var, w_retN, w_ite, w_for, w_while, w_brk, w_cnt, w_raise, w_try, w_frz, e_con, e_var, e_glb, e_bin, e_neg, e_not, e_and, e_or, e_cmp, e_chain, e_ite, e_tup, e_lst, e_dct, e_idx, e_slc, ck_ret, ck_exc, e_call, e_bi1, e_bi2, e_comp, lx_nil, e_efld, e_eisi, nil_e, sub_n, sub_s, gone_rt, gone_nx, hush_nx, hush_rt, lt_lit, xr_con, xr_glb, xr_bin, xr_neg, xr_not, xr_and, xr_or, xr_cmp, xr_chain, xr_ite, xr_tup, xr_lst, xr_dct, xr_idx, xr_slc, xr_call, xr_bi, xr_comp, xr_pop, xr_efld, xr_eisi, at_k0, at_k1, at_k2, at_k3, at_k4, at_k5, at_k6, at_k7, at_k8, at_k9, at_k10, at_k11, at_k12, at_k13, at_k14, at_k15, at_k16, at_k17, at_k18, at_k19, at_k20, or_s, lx_cons, ly_some, ly_none, tx_, op_nil, op_cons, we_nil, we_cons, sp_nil, sp_cons, rp_nil, rp_cons, rg_0, rg_1, rg_2, rg_3, rg_4, rg_5, bls_n, bls_c, ints_n, ints_c, bf_all, bf_any, bf_gcd, bm_var, bn_, bm_lst, e_meth, my_ixl, mf_ix, xr_meth, bf_isqrt, bf_lr1, bf_lr2, bf_min1, bf_max1, mk_c, xk_c, asg_nil, evL, evC, evP, evI, List.map, List.length_cons, List.length_nil, List.cons_append, List.nil_append, List.replicate, if_true, reduceIte, Nat.sub_self, Nat.reduceAdd, Nat.reduceSub, Nat.reduceLT, Bool.false_eq_true, if_false, Bool.not_false, Bool.not_true, Bool.false_and, Bool.true_and, Option.isNone_some, Option.map_some, Nat.reduceEqDiff, Nat.zero_add, Nat.add_zero, Nat.reduceLeDiff, Int.reduceLT, Int.reduceLE, Int.reduceMod, Int.reduceAdd, Int.reduceSub, Int.reduceNeg, Int.reduceMul, Int.reduceBEq, decide_true, decide_false, bne_self_eq_false, BEq.rfl, and_self, Bool.false_or, Bool.true_or, Bool.or_false, Bool.or_true, Option.bind_some, Int.zero_add, Int.toNat_natCast, Int.cast_ofNat_Int, Int.natCast_zero, Int.natCast_one, Int.reduceToNat, Int.reducePow, List.all_cons, List.all_nil, List.any_cons, List.any_nil, id, Bool.not_not, List.length_map, Bool.and_true, Bool.and_false]
          simp [k3, orN, hf]
    · have k2' : (r % 4225 == 0) = false := by simpa using k2
      simp -implicitDefEqProofs only [c_1, d_triple_of, b_triple_of, gg_0, gg_1, gg_2, gg_3, gg_4, gg_5, gg_6, gg_7, gg_8, gg_9, gg_10, gg_11, gg_12, gg_13, c_chkv, m1, m2, m3, List.sum_cons, List.sum_nil, hq, hc, hrr, m4, k1, k2', d1, bind_ok, bind_exc, st_ok, st_exc, seq_nx, seq_rt, seq_bk, seq_ct, seq_exc, opt_s, lift_s, map_s, get_0, get_s, put_0, put_s, run_eq, fin_nx, fin_rt, fin_exc, d_un, d_own, f_own, d_non, f_non, er_non, d_bl, f_bl, er_bl, d_int, f_int, er_int, d_str, f_str, er_str, d_lst, f_lst, er_lst, d_tup, f_tup, er_tup, d_dct, f_dct, er_dct, d_scr, f_scr, er_scr, d_ty, f_ty, er_ty, d_cls, f_cls, er_cls, b1_con, b2_con, bL_con, b1_glb, b2_glb, bL_glb, b1_bin, b2_bin, bL_bin, b1_neg, b2_neg, bL_neg, b1_not, b2_not, bL_not, b1_and, b2_and, bL_and, b1_or, b2_or, bL_or, b1_cmp, b2_cmp, bL_cmp, b1_chain, b2_chain, bL_chain, b1_ite, b2_ite, bL_ite, b1_tup, b2_tup, bL_tup, b1_lst, b2_lst, bL_lst, b1_dct, b2_dct, bL_dct, b1_idx, b2_idx, bL_idx, b1_slc, b2_slc, bL_slc, b1_call, b2_call, bL_call, b1_bi, b2_bi, bL_bi, b1_comp, b2_comp, bL_comp, b1_pop, b2_pop, bL_pop, b1_meth, b2_meth, bL_meth, b1_efld, b2_efld, bL_efld, b1_eisi, b2_eisi, bL_eisi, b1_var, b2_var, bL_var, isi_int_non, isi_int_bl, isi_int_int, isi_int_str, isi_int_lst, isi_int_tup, isi_int_dct, isi_bool_non, isi_bool_bl, isi_bool_int, isi_bool_str, isi_bool_lst, isi_bool_tup, isi_bool_dct, isi_str_non, isi_str_bl, isi_str_int, isi_str_str, isi_str_lst, isi_str_tup, isi_str_dct, isi_list_non, isi_list_bl, isi_list_int, isi_list_str, isi_list_lst, isi_list_tup, isi_list_dct, isi_tuple_non, isi_tuple_bl, isi_tuple_int, isi_tuple_str, isi_tuple_lst, isi_tuple_tup, isi_tuple_dct, isi_dict_non, isi_dict_bl, isi_dict_int, isi_dict_str, isi_dict_lst, isi_dict_tup, isi_dict_dct, bf_int, bf_intb, bf_abs, bf_lenl, bf_lent, bf_lens, bf_lend, bf_min2, bf_max2, bf_sum, bf_tup, bf_tupt, bf_lst, bf_lstt, bo_add, bo_sub, bo_mul, bo_mod, bo_fdiv, bo_pow, bo_addl, co_lt, co_le, co_gt, co_ge, co_eqi, co_nei, co_eqs, eq_strs, co_is, co_isnot, ix_l, ix_t, tr_bl, tr_int, at_nat, sm_ni, sm_nn, sm_ti, sm_tt, sm_nt, sm_ns, sm_ts, sm_bb, sm_bn, sm_nl, sm_tl, sm_nb, sm_nd, sm_td, ranged_len, lim_lit, asgs_nil, asgs_cons, pat_1, pat_t, forK_nx, forK_ct, forK_bk, forK_rt, forK_exc, forL_nil, forL_cons, it_l, it_t, it_s, ol_l, ow_, mut_l, mut_d, fr_lst, fr_comp, fr_bin, fr_dct, sk_nx, sk_rt, sk_bk, sk_ct, sk_exc, ik_ok, ik_exc, fx_nil, fx_cons, fy_nx, fy_ct, fy_bk, fy_rt, fy_exc, tk_nx, tk_rt, tk_bk, tk_ct, tk_e0, tk_e1, w_skip, w_seq, w_set, w_setO, w_unpack, ak_, w_app, w_put, ps_l, ps_d, pl_i, w_aug, ag_add, ag_sub, w_expr, rv_fz, rv_own, w_ret_var, w_retN, w_ite, w_for, w_while, w_brk, w_cnt, w_raise, w_try, w_frz, e_con, e_var, e_glb, e_bin, e_neg, e_not, e_and, e_or, e_cmp, e_chain, e_ite, e_tup, e_lst, e_dct, e_idx, e_slc, ck_ret, ck_exc, e_call, e_bi1, e_bi2, e_comp, lx_nil, e_efld, e_eisi, nil_e, sub_n, sub_s, gone_rt, gone_nx, hush_nx, hush_rt, lt_lit, xr_con, xr_glb, xr_bin, xr_neg, xr_not, xr_and, xr_or, xr_cmp, xr_chain, xr_ite, xr_tup, xr_lst, xr_dct, xr_idx, xr_slc, xr_call, xr_bi, xr_comp, xr_pop, xr_efld, xr_eisi, at_k0, at_k1, at_k2, at_k3, at_k4, at_k5, at_k6, at_k7, at_k8, at_k9, at_k10, at_k11, at_k12, at_k13, at_k14, at_k15, at_k16, at_k17, at_k18, at_k19, at_k20, or_s, lx_cons, ly_some, ly_none, tx_, op_nil, op_cons, we_nil, we_cons, sp_nil, sp_cons, rp_nil, rp_cons, rg_0, rg_1, rg_2, rg_3, rg_4, rg_5, bls_n, bls_c, ints_n, ints_c, bf_all, bf_any, bf_gcd, bm_var, bn_, bm_lst, e_meth, my_ixl, mf_ix, xr_meth, bf_isqrt, bf_lr1, bf_lr2, bf_min1, bf_max1, mk_c, xk_c, asg_nil, evL, evC, evP, evI, List.map, List.length_cons, List.length_nil, List.cons_append, List.nil_append, List.replicate, if_true, reduceIte, Nat.sub_self, Nat.reduceAdd, Nat.reduceSub, Nat.reduceLT, Bool.false_eq_true, if_false, Bool.not_false, Bool.not_true, Bool.false_and, Bool.true_and, Option.isNone_some, Option.map_some, Nat.reduceEqDiff, Nat.zero_add, Nat.add_zero, Nat.reduceLeDiff, Int.reduceLT, Int.reduceLE, Int.reduceMod, Int.reduceAdd, Int.reduceSub, Int.reduceNeg, Int.reduceMul, Int.reduceBEq, decide_true, decide_false, bne_self_eq_false, BEq.rfl, and_self, Bool.false_or, Bool.true_or, Bool.or_false, Bool.or_true, Option.bind_some, Int.zero_add, Int.toNat_natCast, Int.cast_ofNat_Int, Int.natCast_zero, Int.natCast_one, Int.reduceToNat, Int.reducePow, List.all_cons, List.all_nil, List.any_cons, List.any_nil, id, Bool.not_not, List.length_map, Bool.and_true, Bool.and_false]
      simp [k2]
  · have k1' : (r * r == q) = false := by simpa using k1
    simp -implicitDefEqProofs only [c_1, d_triple_of, b_triple_of, gg_0, gg_1, gg_2, gg_3, gg_4, gg_5, gg_6, gg_7, gg_8, gg_9, gg_10, gg_11, gg_12, gg_13, c_chkv, m1, m2, m3, List.sum_cons, List.sum_nil, hq, hc, hrr, m4, k1', d1, bind_ok, bind_exc, st_ok, st_exc, seq_nx, seq_rt, seq_bk, seq_ct, seq_exc, opt_s, lift_s, map_s, get_0, get_s, put_0, put_s, run_eq, fin_nx, fin_rt, fin_exc, d_un, d_own, f_own, d_non, f_non, er_non, d_bl, f_bl, er_bl, d_int, f_int, er_int, d_str, f_str, er_str, d_lst, f_lst, er_lst, d_tup, f_tup, er_tup, d_dct, f_dct, er_dct, d_scr, f_scr, er_scr, d_ty, f_ty, er_ty, d_cls, f_cls, er_cls, b1_con, b2_con, bL_con, b1_glb, b2_glb, bL_glb, b1_bin, b2_bin, bL_bin, b1_neg, b2_neg, bL_neg, b1_not, b2_not, bL_not, b1_and, b2_and, bL_and, b1_or, b2_or, bL_or, b1_cmp, b2_cmp, bL_cmp, b1_chain, b2_chain, bL_chain, b1_ite, b2_ite, bL_ite, b1_tup, b2_tup, bL_tup, b1_lst, b2_lst, bL_lst, b1_dct, b2_dct, bL_dct, b1_idx, b2_idx, bL_idx, b1_slc, b2_slc, bL_slc, b1_call, b2_call, bL_call, b1_bi, b2_bi, bL_bi, b1_comp, b2_comp, bL_comp, b1_pop, b2_pop, bL_pop, b1_meth, b2_meth, bL_meth, b1_efld, b2_efld, bL_efld, b1_eisi, b2_eisi, bL_eisi, b1_var, b2_var, bL_var, isi_int_non, isi_int_bl, isi_int_int, isi_int_str, isi_int_lst, isi_int_tup, isi_int_dct, isi_bool_non, isi_bool_bl, isi_bool_int, isi_bool_str, isi_bool_lst, isi_bool_tup, isi_bool_dct, isi_str_non, isi_str_bl, isi_str_int, isi_str_str, isi_str_lst, isi_str_tup, isi_str_dct, isi_list_non, isi_list_bl, isi_list_int, isi_list_str, isi_list_lst, isi_list_tup, isi_list_dct, isi_tuple_non, isi_tuple_bl, isi_tuple_int, isi_tuple_str, isi_tuple_lst, isi_tuple_tup, isi_tuple_dct, isi_dict_non, isi_dict_bl, isi_dict_int, isi_dict_str, isi_dict_lst, isi_dict_tup, isi_dict_dct, bf_int, bf_intb, bf_abs, bf_lenl, bf_lent, bf_lens, bf_lend, bf_min2, bf_max2, bf_sum, bf_tup, bf_tupt, bf_lst, bf_lstt, bo_add, bo_sub, bo_mul, bo_mod, bo_fdiv, bo_pow, bo_addl, co_lt, co_le, co_gt, co_ge, co_eqi, co_nei, co_eqs, eq_strs, co_is, co_isnot, ix_l, ix_t, tr_bl, tr_int, at_nat, sm_ni, sm_nn, sm_ti, sm_tt, sm_nt, sm_ns, sm_ts, sm_bb, sm_bn, sm_nl, sm_tl, sm_nb, sm_nd, sm_td, ranged_len, lim_lit, asgs_nil, asgs_cons, pat_1, pat_t, forK_nx, forK_ct, forK_bk, forK_rt, forK_exc, forL_nil, forL_cons, it_l, it_t, it_s, ol_l, ow_, mut_l, mut_d, fr_lst, fr_comp, fr_bin, fr_dct, sk_nx, sk_rt, sk_bk, sk_ct, sk_exc, ik_ok, ik_exc, fx_nil, fx_cons, fy_nx, fy_ct, fy_bk, fy_rt, fy_exc, tk_nx, tk_rt, tk_bk, tk_ct, tk_e0, tk_e1, w_skip, w_seq, w_set, w_setO, w_unpack, ak_, w_app, w_put, ps_l, ps_d, pl_i, w_aug, ag_add, ag_sub, w_expr, rv_fz, rv_own, w_ret_var, w_retN, w_ite, w_for, w_while, w_brk, w_cnt, w_raise, w_try, w_frz, e_con, e_var, e_glb, e_bin, e_neg, e_not, e_and, e_or, e_cmp, e_chain, e_ite, e_tup, e_lst, e_dct, e_idx, e_slc, ck_ret, ck_exc, e_call, e_bi1, e_bi2, e_comp, lx_nil, e_efld, e_eisi, nil_e, sub_n, sub_s, gone_rt, gone_nx, hush_nx, hush_rt, lt_lit, xr_con, xr_glb, xr_bin, xr_neg, xr_not, xr_and, xr_or, xr_cmp, xr_chain, xr_ite, xr_tup, xr_lst, xr_dct, xr_idx, xr_slc, xr_call, xr_bi, xr_comp, xr_pop, xr_efld, xr_eisi, at_k0, at_k1, at_k2, at_k3, at_k4, at_k5, at_k6, at_k7, at_k8, at_k9, at_k10, at_k11, at_k12, at_k13, at_k14, at_k15, at_k16, at_k17, at_k18, at_k19, at_k20, or_s, lx_cons, ly_some, ly_none, tx_, op_nil, op_cons, we_nil, we_cons, sp_nil, sp_cons, rp_nil, rp_cons, rg_0, rg_1, rg_2, rg_3, rg_4, rg_5, bls_n, bls_c, ints_n, ints_c, bf_all, bf_any, bf_gcd, bm_var, bn_, bm_lst, e_meth, my_ixl, mf_ix, xr_meth, bf_isqrt, bf_lr1, bf_lr2, bf_min1, bf_max1, mk_c, xk_c, asg_nil, evL, evC, evP, evI, List.map, List.length_cons, List.length_nil, List.cons_append, List.nil_append, List.replicate, if_true, reduceIte, Nat.sub_self, Nat.reduceAdd, Nat.reduceSub, Nat.reduceLT, Bool.false_eq_true, if_false, Bool.not_false, Bool.not_true, Bool.false_and, Bool.true_and, Option.isNone_some, Option.map_some, Nat.reduceEqDiff, Nat.zero_add, Nat.add_zero, Nat.reduceLeDiff, Int.reduceLT, Int.reduceLE, Int.reduceMod, Int.reduceAdd, Int.reduceSub, Int.reduceNeg, Int.reduceMul, Int.reduceBEq, decide_true, decide_false, bne_self_eq_false, BEq.rfl, and_self, Bool.false_or, Bool.true_or, Bool.or_false, Bool.or_true, Option.bind_some, Int.zero_add, Int.toNat_natCast, Int.cast_ofNat_Int, Int.natCast_zero, Int.natCast_one, Int.reduceToNat, Int.reducePow, List.all_cons, List.all_nil, List.any_cons, List.any_nil, id, Bool.not_not, List.length_map, Bool.and_true, Bool.and_false]
    simp [k1]
end L

namespace L
open MP
variable {n : Nat}
theorem fdiv_ok {i j : Int} (h0 : j ≠ 0) (h : sm 14 j) : binop .fdiv (.int i) (.int j) = some (.int (i.fdiv j)) := by
  have hl := log2_le h
  rcases Int.lt_or_gt_of_ne h0 with h1 | h1
  · have e1 : divOk j = false := by unfold divOk; rw [decide_eq_false (by omega)]; rfl
    have e2 : divNo j = true := by unfold divNo; rw [decide_eq_true h1, decide_eq_true (by omega)]; rfl
    show (if divOk j = true then some (D.int (i / j)) else if divNo j = true then some (.int (i.fdiv j)) else none) = _
    rw [e1, e2]; rfl
  · have e1 : divOk j = true := by unfold divOk; rw [decide_eq_true (by omega), decide_eq_true (by omega)]; rfl
    show (if divOk j = true then some (D.int (i / j)) else if divNo j = true then some (.int (i.fdiv j)) else none) = _
    rw [e1, if_pos rfl, Int.fdiv_eq_ediv_of_nonneg i (by omega)]
theorem fdiv_sm {i j : Int} (k : Nat) (h0 : j ≠ 0) (h : sm k i) : sm (k + 1) (i.fdiv j) := by
  unfold sm at *
  have h1 : (i.fdiv j).natAbs ≤ i.natAbs + 1 := by
    rw [Int.fdiv_eq_ediv]
    have := Int.natAbs_ediv_le_natAbs i j
    split <;> omega
  have : 0 < 2 ^ k := Nat.pow_pos (by decide)
  rw [Nat.pow_succ]
  omega
/-- a turn of the axes' loop -/
def lh (x y z u v w a d : Int) : Int := if 0 < a.fdiv d ∧ a.fdiv d * u = x ∧ a.fdiv d * v = y ∧ a.fdiv d * w = z then a.fdiv d else 0
def LHu (x y z u v w : Int) : Int := if u ≠ 0 then lh x y z u v w x u else if v ≠ 0 then lh x y z u v w y v else if w ≠ 0 then lh x y z u v w z w else 0
def LH (x y z b s : Int) : Int := LHu x y z (1 * le s * ea b) (1 * le s * ea (b + 9)) (1 * 65 * ea s)
theorem c_hands (x y z b s : Int) (hx : sm 140 x) (hy : sm 140 y) (hz : sm 140 z) : callF G (n + 3) 29 [vc x y z, .int b, .int s] = .ret (.int (LH x y z b s)) := by
  have c_1 : ∀ {n : Nat} {as : List D}, callF G (n + 1) 29 as = runDef G (callF G n) d__law_hands as := rfl
  have cv := c_law_vector (n := n) 1 b s (lit _ _)
  unfold LH
  have su : sm 14 (1 * le s * ea b) := by have := (le_sm s).mul (ea_sm b); rw [Int.one_mul]; exact this
  have sv : sm 14 (1 * le s * ea (b + 9)) := by have := (le_sm s).mul (ea_sm (b + 9)); rw [Int.one_mul]; exact this
  have sw : sm 14 (1 * 65 * ea s) := by have := (lit 65 7).mul (ea_sm s); exact this
  generalize 1 * le s * ea b = u at *
  generalize 1 * le s * ea (b + 9) = v at *
  generalize 1 * 65 * ea s = w at *
  unfold LHu
  have key : ∀ a d, d ≠ 0 → sm 14 d → sm 140 a → binop .fdiv (.int a) (.int d) = some (.int (a.fdiv d)) ∧ mulOk (a.fdiv d) u = true ∧ mulOk (a.fdiv d) v = true ∧ mulOk (a.fdiv d) w = true := fun a d h0 h1 h2 => by
    have q := fdiv_sm 140 h0 h2
    exact ⟨fdiv_ok h0 h1, mulS q su, mulS q sv, mulS q sw⟩
  by_cases h1 : u = 0
  · have e1 : (u == 0) = true := by simpa using h1
    by_cases h2 : v = 0
    · have e2 : (v == 0) = true := by simpa using h2
      by_cases h3 : w = 0
      · have e3 : (w == 0) = true := by simpa using h3
        simp -implicitDefEqProofs only [c_1, d__law_hands, b__law_hands, cv, e1, e2, e3, bind_ok, bind_exc, st_ok, st_exc, seq_nx, seq_rt, seq_bk, seq_ct, seq_exc, opt_s, lift_s, map_s, get_0, get_s, put_0, put_s, run_eq, fin_nx, fin_rt, fin_exc, d_un, d_own, f_own, d_non, f_non, er_non, d_bl, f_bl, er_bl, d_int, f_int, er_int, d_str, f_str, er_str, d_lst, f_lst, er_lst, d_tup, f_tup, er_tup, d_dct, f_dct, er_dct, d_scr, f_scr, er_scr, d_ty, f_ty, er_ty, d_cls, f_cls, er_cls, b1_con, b2_con, bL_con, b1_glb, b2_glb, bL_glb, b1_bin, b2_bin, bL_bin, b1_neg, b2_neg, bL_neg, b1_not, b2_not, bL_not, b1_and, b2_and, bL_and, b1_or, b2_or, bL_or, b1_cmp, b2_cmp, bL_cmp, b1_chain, b2_chain, bL_chain, b1_ite, b2_ite, bL_ite, b1_tup, b2_tup, bL_tup, b1_lst, b2_lst, bL_lst, b1_dct, b2_dct, bL_dct, b1_idx, b2_idx, bL_idx, b1_slc, b2_slc, bL_slc, b1_call, b2_call, bL_call, b1_bi, b2_bi, bL_bi, b1_comp, b2_comp, bL_comp, b1_pop, b2_pop, bL_pop, b1_meth, b2_meth, bL_meth, b1_efld, b2_efld, bL_efld, b1_eisi, b2_eisi, bL_eisi, b1_var, b2_var, bL_var, isi_int_non, isi_int_bl, isi_int_int, isi_int_str, isi_int_lst, isi_int_tup, isi_int_dct, isi_bool_non, isi_bool_bl, isi_bool_int, isi_bool_str, isi_bool_lst, isi_bool_tup, isi_bool_dct, isi_str_non, isi_str_bl, isi_str_int, isi_str_str, isi_str_lst, isi_str_tup, isi_str_dct, isi_list_non, isi_list_bl, isi_list_int, isi_list_str, isi_list_lst, isi_list_tup, isi_list_dct, isi_tuple_non, isi_tuple_bl, isi_tuple_int, isi_tuple_str, isi_tuple_lst, isi_tuple_tup, isi_tuple_dct, isi_dict_non, isi_dict_bl, isi_dict_int, isi_dict_str, isi_dict_lst, isi_dict_tup, isi_dict_dct, bf_int, bf_intb, bf_abs, bf_lenl, bf_lent, bf_lens, bf_lend, bf_min2, bf_max2, bf_sum, bf_tup, bf_tupt, bf_lst, bf_lstt, bo_add, bo_sub, bo_mul, bo_mod, bo_fdiv, bo_pow, bo_addl, co_lt, co_le, co_gt, co_ge, co_eqi, co_nei, co_eqs, eq_strs, co_is, co_isnot, ix_l, ix_t, tr_bl, tr_int, at_nat, sm_ni, sm_nn, sm_ti, sm_tt, sm_nt, sm_ns, sm_ts, sm_bb, sm_bn, sm_nl, sm_tl, sm_nb, sm_nd, sm_td, ranged_len, lim_lit, asgs_nil, asgs_cons, pat_1, pat_t, forK_nx, forK_ct, forK_bk, forK_rt, forK_exc, forL_nil, forL_cons, it_l, it_t, it_s, ol_l, ow_, mut_l, mut_d, fr_lst, fr_comp, fr_bin, fr_dct, sk_nx, sk_rt, sk_bk, sk_ct, sk_exc, ik_ok, ik_exc, fx_nil, fx_cons, fy_nx, fy_ct, fy_bk, fy_rt, fy_exc, tk_nx, tk_rt, tk_bk, tk_ct, tk_e0, tk_e1, w_skip, w_seq, w_set, w_setO, w_unpack, ak_, w_app, w_put, ps_l, ps_d, pl_i, w_aug, ag_add, ag_sub, w_expr, rv_fz, rv_own, w_ret_var, w_retN, w_ite, w_for, w_while, w_brk, w_cnt, w_raise, w_try, w_frz, e_con, e_var, e_glb, e_bin, e_neg, e_not, e_and, e_or, e_cmp, e_chain, e_ite, e_tup, e_lst, e_dct, e_idx, e_slc, ck_ret, ck_exc, e_call, e_bi1, e_bi2, e_comp, lx_nil, e_efld, e_eisi, nil_e, sub_n, sub_s, gone_rt, gone_nx, hush_nx, hush_rt, lt_lit, xr_con, xr_glb, xr_bin, xr_neg, xr_not, xr_and, xr_or, xr_cmp, xr_chain, xr_ite, xr_tup, xr_lst, xr_dct, xr_idx, xr_slc, xr_call, xr_bi, xr_comp, xr_pop, xr_efld, xr_eisi, at_k0, at_k1, at_k2, at_k3, at_k4, at_k5, at_k6, at_k7, at_k8, at_k9, at_k10, at_k11, at_k12, at_k13, at_k14, at_k15, at_k16, at_k17, at_k18, at_k19, at_k20, or_s, lx_cons, ly_some, ly_none, tx_, op_nil, op_cons, we_nil, we_cons, sp_nil, sp_cons, rp_nil, rp_cons, rg_0, rg_1, rg_2, rg_3, rg_4, rg_5, bls_n, bls_c, ints_n, ints_c, bf_all, bf_any, bf_gcd, bm_var, bn_, bm_lst, e_meth, my_ixl, mf_ix, xr_meth, bf_isqrt, bf_lr1, bf_lr2, bf_min1, bf_max1, mk_c, xk_c, asg_nil, evL, evC, evP, evI, List.map, List.length_cons, List.length_nil, List.cons_append, List.nil_append, List.replicate, if_true, reduceIte, Nat.sub_self, Nat.reduceAdd, Nat.reduceSub, Nat.reduceLT, Bool.false_eq_true, if_false, Bool.not_false, Bool.not_true, Bool.false_and, Bool.true_and, Option.isNone_some, Option.map_some, Nat.reduceEqDiff, Nat.zero_add, Nat.add_zero, Nat.reduceLeDiff, Int.reduceLT, Int.reduceLE, Int.reduceMod, Int.reduceAdd, Int.reduceSub, Int.reduceNeg, Int.reduceMul, Int.reduceBEq, decide_true, decide_false, bne_self_eq_false, BEq.rfl, and_self, Bool.false_or, Bool.true_or, Bool.or_false, Bool.or_true, Option.bind_some, Int.zero_add, Int.toNat_natCast, Int.cast_ofNat_Int, Int.natCast_zero, Int.natCast_one, Int.reduceToNat, Int.reducePow, List.all_cons, List.all_nil, List.any_cons, List.any_nil, id, Bool.not_not, List.length_map, Bool.and_true, Bool.and_false]
        simp [h1, h2, h3]
      · have e3 : (w == 0) = false := by simpa using h3
        obtain ⟨k1, k2, k3, k4⟩ := key z w h3 sw hz
        unfold lh
        by_cases g1 : 0 < z.fdiv w <;> by_cases g2 : (z.fdiv w * u = x ∧ z.fdiv w * v = y ∧ z.fdiv w * w = z) <;> simp -implicitDefEqProofs only [c_1, d__law_hands, b__law_hands, cv, e1, e2, e3, k1, k2, k3, k4, eq_vc, g1, g2, gt_iff_lt, bind_ok, bind_exc, st_ok, st_exc, seq_nx, seq_rt, seq_bk, seq_ct, seq_exc, opt_s, lift_s, map_s, get_0, get_s, put_0, put_s, run_eq, fin_nx, fin_rt, fin_exc, d_un, d_own, f_own, d_non, f_non, er_non, d_bl, f_bl, er_bl, d_int, f_int, er_int, d_str, f_str, er_str, d_lst, f_lst, er_lst, d_tup, f_tup, er_tup, d_dct, f_dct, er_dct, d_scr, f_scr, er_scr, d_ty, f_ty, er_ty, d_cls, f_cls, er_cls, b1_con, b2_con, bL_con, b1_glb, b2_glb, bL_glb, b1_bin, b2_bin, bL_bin, b1_neg, b2_neg, bL_neg, b1_not, b2_not, bL_not, b1_and, b2_and, bL_and, b1_or, b2_or, bL_or, b1_cmp, b2_cmp, bL_cmp, b1_chain, b2_chain, bL_chain, b1_ite, b2_ite, bL_ite, b1_tup, b2_tup, bL_tup, b1_lst, b2_lst, bL_lst, b1_dct, b2_dct, bL_dct, b1_idx, b2_idx, bL_idx, b1_slc, b2_slc, bL_slc, b1_call, b2_call, bL_call, b1_bi, b2_bi, bL_bi, b1_comp, b2_comp, bL_comp, b1_pop, b2_pop, bL_pop, b1_meth, b2_meth, bL_meth, b1_efld, b2_efld, bL_efld, b1_eisi, b2_eisi, bL_eisi, b1_var, b2_var, bL_var, isi_int_non, isi_int_bl, isi_int_int, isi_int_str, isi_int_lst, isi_int_tup, isi_int_dct, isi_bool_non, isi_bool_bl, isi_bool_int, isi_bool_str, isi_bool_lst, isi_bool_tup, isi_bool_dct, isi_str_non, isi_str_bl, isi_str_int, isi_str_str, isi_str_lst, isi_str_tup, isi_str_dct, isi_list_non, isi_list_bl, isi_list_int, isi_list_str, isi_list_lst, isi_list_tup, isi_list_dct, isi_tuple_non, isi_tuple_bl, isi_tuple_int, isi_tuple_str, isi_tuple_lst, isi_tuple_tup, isi_tuple_dct, isi_dict_non, isi_dict_bl, isi_dict_int, isi_dict_str, isi_dict_lst, isi_dict_tup, isi_dict_dct, bf_int, bf_intb, bf_abs, bf_lenl, bf_lent, bf_lens, bf_lend, bf_min2, bf_max2, bf_sum, bf_tup, bf_tupt, bf_lst, bf_lstt, bo_add, bo_sub, bo_mul, bo_mod, bo_fdiv, bo_pow, bo_addl, co_lt, co_le, co_gt, co_ge, co_eqi, co_nei, co_eqs, eq_strs, co_is, co_isnot, ix_l, ix_t, tr_bl, tr_int, at_nat, sm_ni, sm_nn, sm_ti, sm_tt, sm_nt, sm_ns, sm_ts, sm_bb, sm_bn, sm_nl, sm_tl, sm_nb, sm_nd, sm_td, ranged_len, lim_lit, asgs_nil, asgs_cons, pat_1, pat_t, forK_nx, forK_ct, forK_bk, forK_rt, forK_exc, forL_nil, forL_cons, it_l, it_t, it_s, ol_l, ow_, mut_l, mut_d, fr_lst, fr_comp, fr_bin, fr_dct, sk_nx, sk_rt, sk_bk, sk_ct, sk_exc, ik_ok, ik_exc, fx_nil, fx_cons, fy_nx, fy_ct, fy_bk, fy_rt, fy_exc, tk_nx, tk_rt, tk_bk, tk_ct, tk_e0, tk_e1, w_skip, w_seq, w_set, w_setO, w_unpack, ak_, w_app, w_put, ps_l, ps_d, pl_i, w_aug, ag_add, ag_sub, w_expr, rv_fz, rv_own, w_ret_var, w_retN, w_ite, w_for, w_while, w_brk, w_cnt, w_raise, w_try, w_frz, e_con, e_var, e_glb, e_bin, e_neg, e_not, e_and, e_or, e_cmp, e_chain, e_ite, e_tup, e_lst, e_dct, e_idx, e_slc, ck_ret, ck_exc, e_call, e_bi1, e_bi2, e_comp, lx_nil, e_efld, e_eisi, nil_e, sub_n, sub_s, gone_rt, gone_nx, hush_nx, hush_rt, lt_lit, xr_con, xr_glb, xr_bin, xr_neg, xr_not, xr_and, xr_or, xr_cmp, xr_chain, xr_ite, xr_tup, xr_lst, xr_dct, xr_idx, xr_slc, xr_call, xr_bi, xr_comp, xr_pop, xr_efld, xr_eisi, at_k0, at_k1, at_k2, at_k3, at_k4, at_k5, at_k6, at_k7, at_k8, at_k9, at_k10, at_k11, at_k12, at_k13, at_k14, at_k15, at_k16, at_k17, at_k18, at_k19, at_k20, or_s, lx_cons, ly_some, ly_none, tx_, op_nil, op_cons, we_nil, we_cons, sp_nil, sp_cons, rp_nil, rp_cons, rg_0, rg_1, rg_2, rg_3, rg_4, rg_5, bls_n, bls_c, ints_n, ints_c, bf_all, bf_any, bf_gcd, bm_var, bn_, bm_lst, e_meth, my_ixl, mf_ix, xr_meth, bf_isqrt, bf_lr1, bf_lr2, bf_min1, bf_max1, mk_c, xk_c, asg_nil, evL, evC, evP, evI, List.map, List.length_cons, List.length_nil, List.cons_append, List.nil_append, List.replicate, if_true, reduceIte, Nat.sub_self, Nat.reduceAdd, Nat.reduceSub, Nat.reduceLT, Bool.false_eq_true, if_false, Bool.not_false, Bool.not_true, Bool.false_and, Bool.true_and, Option.isNone_some, Option.map_some, Nat.reduceEqDiff, Nat.zero_add, Nat.add_zero, Nat.reduceLeDiff, Int.reduceLT, Int.reduceLE, Int.reduceMod, Int.reduceAdd, Int.reduceSub, Int.reduceNeg, Int.reduceMul, Int.reduceBEq, decide_true, decide_false, bne_self_eq_false, BEq.rfl, and_self, Bool.false_or, Bool.true_or, Bool.or_false, Bool.or_true, Option.bind_some, Int.zero_add, Int.toNat_natCast, Int.cast_ofNat_Int, Int.natCast_zero, Int.natCast_one, Int.reduceToNat, Int.reducePow, List.all_cons, List.all_nil, List.any_cons, List.any_nil, id, Bool.not_not, List.length_map, Bool.and_true, Bool.and_false] <;> simp [h1, h2, h3]
    · have e2 : (v == 0) = false := by simpa using h2
      obtain ⟨k1, k2, k3, k4⟩ := key y v h2 sv hy
      unfold lh
      by_cases g1 : 0 < y.fdiv v <;> by_cases g2 : (y.fdiv v * u = x ∧ y.fdiv v * v = y ∧ y.fdiv v * w = z) <;> simp -implicitDefEqProofs only [c_1, d__law_hands, b__law_hands, cv, e1, e2, k1, k2, k3, k4, eq_vc, g1, g2, gt_iff_lt, bind_ok, bind_exc, st_ok, st_exc, seq_nx, seq_rt, seq_bk, seq_ct, seq_exc, opt_s, lift_s, map_s, get_0, get_s, put_0, put_s, run_eq, fin_nx, fin_rt, fin_exc, d_un, d_own, f_own, d_non, f_non, er_non, d_bl, f_bl, er_bl, d_int, f_int, er_int, d_str, f_str, er_str, d_lst, f_lst, er_lst, d_tup, f_tup, er_tup, d_dct, f_dct, er_dct, d_scr, f_scr, er_scr, d_ty, f_ty, er_ty, d_cls, f_cls, er_cls, b1_con, b2_con, bL_con, b1_glb, b2_glb, bL_glb, b1_bin, b2_bin, bL_bin, b1_neg, b2_neg, bL_neg, b1_not, b2_not, bL_not, b1_and, b2_and, bL_and, b1_or, b2_or, bL_or, b1_cmp, b2_cmp, bL_cmp, b1_chain, b2_chain, bL_chain, b1_ite, b2_ite, bL_ite, b1_tup, b2_tup, bL_tup, b1_lst, b2_lst, bL_lst, b1_dct, b2_dct, bL_dct, b1_idx, b2_idx, bL_idx, b1_slc, b2_slc, bL_slc, b1_call, b2_call, bL_call, b1_bi, b2_bi, bL_bi, b1_comp, b2_comp, bL_comp, b1_pop, b2_pop, bL_pop, b1_meth, b2_meth, bL_meth, b1_efld, b2_efld, bL_efld, b1_eisi, b2_eisi, bL_eisi, b1_var, b2_var, bL_var, isi_int_non, isi_int_bl, isi_int_int, isi_int_str, isi_int_lst, isi_int_tup, isi_int_dct, isi_bool_non, isi_bool_bl, isi_bool_int, isi_bool_str, isi_bool_lst, isi_bool_tup, isi_bool_dct, isi_str_non, isi_str_bl, isi_str_int, isi_str_str, isi_str_lst, isi_str_tup, isi_str_dct, isi_list_non, isi_list_bl, isi_list_int, isi_list_str, isi_list_lst, isi_list_tup, isi_list_dct, isi_tuple_non, isi_tuple_bl, isi_tuple_int, isi_tuple_str, isi_tuple_lst, isi_tuple_tup, isi_tuple_dct, isi_dict_non, isi_dict_bl, isi_dict_int, isi_dict_str, isi_dict_lst, isi_dict_tup, isi_dict_dct, bf_int, bf_intb, bf_abs, bf_lenl, bf_lent, bf_lens, bf_lend, bf_min2, bf_max2, bf_sum, bf_tup, bf_tupt, bf_lst, bf_lstt, bo_add, bo_sub, bo_mul, bo_mod, bo_fdiv, bo_pow, bo_addl, co_lt, co_le, co_gt, co_ge, co_eqi, co_nei, co_eqs, eq_strs, co_is, co_isnot, ix_l, ix_t, tr_bl, tr_int, at_nat, sm_ni, sm_nn, sm_ti, sm_tt, sm_nt, sm_ns, sm_ts, sm_bb, sm_bn, sm_nl, sm_tl, sm_nb, sm_nd, sm_td, ranged_len, lim_lit, asgs_nil, asgs_cons, pat_1, pat_t, forK_nx, forK_ct, forK_bk, forK_rt, forK_exc, forL_nil, forL_cons, it_l, it_t, it_s, ol_l, ow_, mut_l, mut_d, fr_lst, fr_comp, fr_bin, fr_dct, sk_nx, sk_rt, sk_bk, sk_ct, sk_exc, ik_ok, ik_exc, fx_nil, fx_cons, fy_nx, fy_ct, fy_bk, fy_rt, fy_exc, tk_nx, tk_rt, tk_bk, tk_ct, tk_e0, tk_e1, w_skip, w_seq, w_set, w_setO, w_unpack, ak_, w_app, w_put, ps_l, ps_d, pl_i, w_aug, ag_add, ag_sub, w_expr, rv_fz, rv_own, w_ret_var, w_retN, w_ite, w_for, w_while, w_brk, w_cnt, w_raise, w_try, w_frz, e_con, e_var, e_glb, e_bin, e_neg, e_not, e_and, e_or, e_cmp, e_chain, e_ite, e_tup, e_lst, e_dct, e_idx, e_slc, ck_ret, ck_exc, e_call, e_bi1, e_bi2, e_comp, lx_nil, e_efld, e_eisi, nil_e, sub_n, sub_s, gone_rt, gone_nx, hush_nx, hush_rt, lt_lit, xr_con, xr_glb, xr_bin, xr_neg, xr_not, xr_and, xr_or, xr_cmp, xr_chain, xr_ite, xr_tup, xr_lst, xr_dct, xr_idx, xr_slc, xr_call, xr_bi, xr_comp, xr_pop, xr_efld, xr_eisi, at_k0, at_k1, at_k2, at_k3, at_k4, at_k5, at_k6, at_k7, at_k8, at_k9, at_k10, at_k11, at_k12, at_k13, at_k14, at_k15, at_k16, at_k17, at_k18, at_k19, at_k20, or_s, lx_cons, ly_some, ly_none, tx_, op_nil, op_cons, we_nil, we_cons, sp_nil, sp_cons, rp_nil, rp_cons, rg_0, rg_1, rg_2, rg_3, rg_4, rg_5, bls_n, bls_c, ints_n, ints_c, bf_all, bf_any, bf_gcd, bm_var, bn_, bm_lst, e_meth, my_ixl, mf_ix, xr_meth, bf_isqrt, bf_lr1, bf_lr2, bf_min1, bf_max1, mk_c, xk_c, asg_nil, evL, evC, evP, evI, List.map, List.length_cons, List.length_nil, List.cons_append, List.nil_append, List.replicate, if_true, reduceIte, Nat.sub_self, Nat.reduceAdd, Nat.reduceSub, Nat.reduceLT, Bool.false_eq_true, if_false, Bool.not_false, Bool.not_true, Bool.false_and, Bool.true_and, Option.isNone_some, Option.map_some, Nat.reduceEqDiff, Nat.zero_add, Nat.add_zero, Nat.reduceLeDiff, Int.reduceLT, Int.reduceLE, Int.reduceMod, Int.reduceAdd, Int.reduceSub, Int.reduceNeg, Int.reduceMul, Int.reduceBEq, decide_true, decide_false, bne_self_eq_false, BEq.rfl, and_self, Bool.false_or, Bool.true_or, Bool.or_false, Bool.or_true, Option.bind_some, Int.zero_add, Int.toNat_natCast, Int.cast_ofNat_Int, Int.natCast_zero, Int.natCast_one, Int.reduceToNat, Int.reducePow, List.all_cons, List.all_nil, List.any_cons, List.any_nil, id, Bool.not_not, List.length_map, Bool.and_true, Bool.and_false] <;> simp [h1, h2]
  · have e1 : (u == 0) = false := by simpa using h1
    obtain ⟨k1, k2, k3, k4⟩ := key x u h1 su hx
    unfold lh
    by_cases g1 : 0 < x.fdiv u <;> by_cases g2 : (x.fdiv u * u = x ∧ x.fdiv u * v = y ∧ x.fdiv u * w = z) <;> simp -implicitDefEqProofs only [c_1, d__law_hands, b__law_hands, cv, e1, k1, k2, k3, k4, eq_vc, g1, g2, gt_iff_lt, bind_ok, bind_exc, st_ok, st_exc, seq_nx, seq_rt, seq_bk, seq_ct, seq_exc, opt_s, lift_s, map_s, get_0, get_s, put_0, put_s, run_eq, fin_nx, fin_rt, fin_exc, d_un, d_own, f_own, d_non, f_non, er_non, d_bl, f_bl, er_bl, d_int, f_int, er_int, d_str, f_str, er_str, d_lst, f_lst, er_lst, d_tup, f_tup, er_tup, d_dct, f_dct, er_dct, d_scr, f_scr, er_scr, d_ty, f_ty, er_ty, d_cls, f_cls, er_cls, b1_con, b2_con, bL_con, b1_glb, b2_glb, bL_glb, b1_bin, b2_bin, bL_bin, b1_neg, b2_neg, bL_neg, b1_not, b2_not, bL_not, b1_and, b2_and, bL_and, b1_or, b2_or, bL_or, b1_cmp, b2_cmp, bL_cmp, b1_chain, b2_chain, bL_chain, b1_ite, b2_ite, bL_ite, b1_tup, b2_tup, bL_tup, b1_lst, b2_lst, bL_lst, b1_dct, b2_dct, bL_dct, b1_idx, b2_idx, bL_idx, b1_slc, b2_slc, bL_slc, b1_call, b2_call, bL_call, b1_bi, b2_bi, bL_bi, b1_comp, b2_comp, bL_comp, b1_pop, b2_pop, bL_pop, b1_meth, b2_meth, bL_meth, b1_efld, b2_efld, bL_efld, b1_eisi, b2_eisi, bL_eisi, b1_var, b2_var, bL_var, isi_int_non, isi_int_bl, isi_int_int, isi_int_str, isi_int_lst, isi_int_tup, isi_int_dct, isi_bool_non, isi_bool_bl, isi_bool_int, isi_bool_str, isi_bool_lst, isi_bool_tup, isi_bool_dct, isi_str_non, isi_str_bl, isi_str_int, isi_str_str, isi_str_lst, isi_str_tup, isi_str_dct, isi_list_non, isi_list_bl, isi_list_int, isi_list_str, isi_list_lst, isi_list_tup, isi_list_dct, isi_tuple_non, isi_tuple_bl, isi_tuple_int, isi_tuple_str, isi_tuple_lst, isi_tuple_tup, isi_tuple_dct, isi_dict_non, isi_dict_bl, isi_dict_int, isi_dict_str, isi_dict_lst, isi_dict_tup, isi_dict_dct, bf_int, bf_intb, bf_abs, bf_lenl, bf_lent, bf_lens, bf_lend, bf_min2, bf_max2, bf_sum, bf_tup, bf_tupt, bf_lst, bf_lstt, bo_add, bo_sub, bo_mul, bo_mod, bo_fdiv, bo_pow, bo_addl, co_lt, co_le, co_gt, co_ge, co_eqi, co_nei, co_eqs, eq_strs, co_is, co_isnot, ix_l, ix_t, tr_bl, tr_int, at_nat, sm_ni, sm_nn, sm_ti, sm_tt, sm_nt, sm_ns, sm_ts, sm_bb, sm_bn, sm_nl, sm_tl, sm_nb, sm_nd, sm_td, ranged_len, lim_lit, asgs_nil, asgs_cons, pat_1, pat_t, forK_nx, forK_ct, forK_bk, forK_rt, forK_exc, forL_nil, forL_cons, it_l, it_t, it_s, ol_l, ow_, mut_l, mut_d, fr_lst, fr_comp, fr_bin, fr_dct, sk_nx, sk_rt, sk_bk, sk_ct, sk_exc, ik_ok, ik_exc, fx_nil, fx_cons, fy_nx, fy_ct, fy_bk, fy_rt, fy_exc, tk_nx, tk_rt, tk_bk, tk_ct, tk_e0, tk_e1, w_skip, w_seq, w_set, w_setO, w_unpack, ak_, w_app, w_put, ps_l, ps_d, pl_i, w_aug, ag_add, ag_sub, w_expr, rv_fz, rv_own, w_ret_var, w_retN, w_ite, w_for, w_while, w_brk, w_cnt, w_raise, w_try, w_frz, e_con, e_var, e_glb, e_bin, e_neg, e_not, e_and, e_or, e_cmp, e_chain, e_ite, e_tup, e_lst, e_dct, e_idx, e_slc, ck_ret, ck_exc, e_call, e_bi1, e_bi2, e_comp, lx_nil, e_efld, e_eisi, nil_e, sub_n, sub_s, gone_rt, gone_nx, hush_nx, hush_rt, lt_lit, xr_con, xr_glb, xr_bin, xr_neg, xr_not, xr_and, xr_or, xr_cmp, xr_chain, xr_ite, xr_tup, xr_lst, xr_dct, xr_idx, xr_slc, xr_call, xr_bi, xr_comp, xr_pop, xr_efld, xr_eisi, at_k0, at_k1, at_k2, at_k3, at_k4, at_k5, at_k6, at_k7, at_k8, at_k9, at_k10, at_k11, at_k12, at_k13, at_k14, at_k15, at_k16, at_k17, at_k18, at_k19, at_k20, or_s, lx_cons, ly_some, ly_none, tx_, op_nil, op_cons, we_nil, we_cons, sp_nil, sp_cons, rp_nil, rp_cons, rg_0, rg_1, rg_2, rg_3, rg_4, rg_5, bls_n, bls_c, ints_n, ints_c, bf_all, bf_any, bf_gcd, bm_var, bn_, bm_lst, e_meth, my_ixl, mf_ix, xr_meth, bf_isqrt, bf_lr1, bf_lr2, bf_min1, bf_max1, mk_c, xk_c, asg_nil, evL, evC, evP, evI, List.map, List.length_cons, List.length_nil, List.cons_append, List.nil_append, List.replicate, if_true, reduceIte, Nat.sub_self, Nat.reduceAdd, Nat.reduceSub, Nat.reduceLT, Bool.false_eq_true, if_false, Bool.not_false, Bool.not_true, Bool.false_and, Bool.true_and, Option.isNone_some, Option.map_some, Nat.reduceEqDiff, Nat.zero_add, Nat.add_zero, Nat.reduceLeDiff, Int.reduceLT, Int.reduceLE, Int.reduceMod, Int.reduceAdd, Int.reduceSub, Int.reduceNeg, Int.reduceMul, Int.reduceBEq, decide_true, decide_false, bne_self_eq_false, BEq.rfl, and_self, Bool.false_or, Bool.true_or, Bool.or_false, Bool.or_true, Option.bind_some, Int.zero_add, Int.toNat_natCast, Int.cast_ofNat_Int, Int.natCast_zero, Int.natCast_one, Int.reduceToNat, Int.reducePow, List.all_cons, List.all_nil, List.any_cons, List.any_nil, id, Bool.not_not, List.length_map, Bool.and_true, Bool.and_false] <;> simp [h1]
end L

namespace L
open MP
variable {n : Nat}
def gL (x y z b s : Int) : Option D := if 0 < LH x y z b s then some (vc (LH x y z b s) b s) else none
theorem inL (x y z b : Int) (hx : sm 140 x) (hy : sm 140 y) (hz : sm 140 z) (s2 s3 : Sl) : Found (fun e => ∃ s2 s3, e = [.fz (vc x y z), .fz (.int b), s2, s3]) ((ranged (-9) 19).findSome? (FI (gL x y z b)))
    (forX G (callF G (n + 3)) [] false [2] false (.seq (.set 3 (.call 29 (.cons (.var 0) (.cons (.var 1) (.cons (.var 2) .nil)))))
(.seq (.ite (.tst (.cmp .gt (.var 3) (.con (.int 0))))
(.seq (.ret (.tup (.cons (.var 3) (.cons (.var 1) (.cons (.var 2) .nil)))))
.skip)
.skip)
.skip)) (ranged (-9) 19) [.fz (vc x y z), .fz (.int b), s2, s3]) :=
  forX_find (fun d hd e he => by
    obtain ⟨s, rfl, hs⟩ := ranged_s hd
    obtain ⟨s2, s3, rfl⟩ := he
    have ct := c_hands (n := n) x y z b s hx hy hz
    unfold FI stepX
    by_cases q : 0 < LH x y z b s
    · have e1 : gL x y z b s = some (vc (LH x y z b s) b s) := by unfold gL; rw [if_pos q]
      dsimp only
      rw [e1]
      refine ⟨[.fz (vc x y z), .fz (.int b), .fz (.int s), .fz (.int (LH x y z b s))], ?_⟩
      simp -implicitDefEqProofs only [ct, gt_iff_lt, q, bind_ok, bind_exc, st_ok, st_exc, seq_nx, seq_rt, seq_bk, seq_ct, seq_exc, opt_s, lift_s, map_s, get_0, get_s, put_0, put_s, run_eq, fin_nx, fin_rt, fin_exc, d_un, d_own, f_own, d_non, f_non, er_non, d_bl, f_bl, er_bl, d_int, f_int, er_int, d_str, f_str, er_str, d_lst, f_lst, er_lst, d_tup, f_tup, er_tup, d_dct, f_dct, er_dct, d_scr, f_scr, er_scr, d_ty, f_ty, er_ty, d_cls, f_cls, er_cls, b1_con, b2_con, bL_con, b1_glb, b2_glb, bL_glb, b1_bin, b2_bin, bL_bin, b1_neg, b2_neg, bL_neg, b1_not, b2_not, bL_not, b1_and, b2_and, bL_and, b1_or, b2_or, bL_or, b1_cmp, b2_cmp, bL_cmp, b1_chain, b2_chain, bL_chain, b1_ite, b2_ite, bL_ite, b1_tup, b2_tup, bL_tup, b1_lst, b2_lst, bL_lst, b1_dct, b2_dct, bL_dct, b1_idx, b2_idx, bL_idx, b1_slc, b2_slc, bL_slc, b1_call, b2_call, bL_call, b1_bi, b2_bi, bL_bi, b1_comp, b2_comp, bL_comp, b1_pop, b2_pop, bL_pop, b1_meth, b2_meth, bL_meth, b1_efld, b2_efld, bL_efld, b1_eisi, b2_eisi, bL_eisi, b1_var, b2_var, bL_var, isi_int_non, isi_int_bl, isi_int_int, isi_int_str, isi_int_lst, isi_int_tup, isi_int_dct, isi_bool_non, isi_bool_bl, isi_bool_int, isi_bool_str, isi_bool_lst, isi_bool_tup, isi_bool_dct, isi_str_non, isi_str_bl, isi_str_int, isi_str_str, isi_str_lst, isi_str_tup, isi_str_dct, isi_list_non, isi_list_bl, isi_list_int, isi_list_str, isi_list_lst, isi_list_tup, isi_list_dct, isi_tuple_non, isi_tuple_bl, isi_tuple_int, isi_tuple_str, isi_tuple_lst, isi_tuple_tup, isi_tuple_dct, isi_dict_non, isi_dict_bl, isi_dict_int, isi_dict_str, isi_dict_lst, isi_dict_tup, isi_dict_dct, bf_int, bf_intb, bf_abs, bf_lenl, bf_lent, bf_lens, bf_lend, bf_min2, bf_max2, bf_sum, bf_tup, bf_tupt, bf_lst, bf_lstt, bo_add, bo_sub, bo_mul, bo_mod, bo_fdiv, bo_pow, bo_addl, co_lt, co_le, co_gt, co_ge, co_eqi, co_nei, co_eqs, eq_strs, co_is, co_isnot, ix_l, ix_t, tr_bl, tr_int, at_nat, sm_ni, sm_nn, sm_ti, sm_tt, sm_nt, sm_ns, sm_ts, sm_bb, sm_bn, sm_nl, sm_tl, sm_nb, sm_nd, sm_td, ranged_len, lim_lit, asgs_nil, asgs_cons, pat_1, pat_t, forK_nx, forK_ct, forK_bk, forK_rt, forK_exc, forL_nil, forL_cons, it_l, it_t, it_s, ol_l, ow_, mut_l, mut_d, fr_lst, fr_comp, fr_bin, fr_dct, sk_nx, sk_rt, sk_bk, sk_ct, sk_exc, ik_ok, ik_exc, fx_nil, fx_cons, fy_nx, fy_ct, fy_bk, fy_rt, fy_exc, tk_nx, tk_rt, tk_bk, tk_ct, tk_e0, tk_e1, w_skip, w_seq, w_set, w_setO, w_unpack, ak_, w_app, w_put, ps_l, ps_d, pl_i, w_aug, ag_add, ag_sub, w_expr, rv_fz, rv_own, w_ret_var, w_retN, w_ite, w_for, w_while, w_brk, w_cnt, w_raise, w_try, w_frz, e_con, e_var, e_glb, e_bin, e_neg, e_not, e_and, e_or, e_cmp, e_chain, e_ite, e_tup, e_lst, e_dct, e_idx, e_slc, ck_ret, ck_exc, e_call, e_bi1, e_bi2, e_comp, lx_nil, e_efld, e_eisi, nil_e, sub_n, sub_s, gone_rt, gone_nx, hush_nx, hush_rt, lt_lit, xr_con, xr_glb, xr_bin, xr_neg, xr_not, xr_and, xr_or, xr_cmp, xr_chain, xr_ite, xr_tup, xr_lst, xr_dct, xr_idx, xr_slc, xr_call, xr_bi, xr_comp, xr_pop, xr_efld, xr_eisi, at_k0, at_k1, at_k2, at_k3, at_k4, at_k5, at_k6, at_k7, at_k8, at_k9, at_k10, at_k11, at_k12, at_k13, at_k14, at_k15, at_k16, at_k17, at_k18, at_k19, at_k20, or_s, lx_cons, ly_some, ly_none, tx_, op_nil, op_cons, we_nil, we_cons, sp_nil, sp_cons, rp_nil, rp_cons, rg_0, rg_1, rg_2, rg_3, rg_4, rg_5, bls_n, bls_c, ints_n, ints_c, bf_all, bf_any, bf_gcd, bm_var, bn_, bm_lst, e_meth, my_ixl, mf_ix, xr_meth, bf_isqrt, bf_lr1, bf_lr2, bf_min1, bf_max1, mk_c, xk_c, asg_nil, evL, evC, evP, evI, List.map, List.length_cons, List.length_nil, List.cons_append, List.nil_append, List.replicate, if_true, reduceIte, Nat.sub_self, Nat.reduceAdd, Nat.reduceSub, Nat.reduceLT, Bool.false_eq_true, if_false, Bool.not_false, Bool.not_true, Bool.false_and, Bool.true_and, Option.isNone_some, Option.map_some, Nat.reduceEqDiff, Nat.zero_add, Nat.add_zero, Nat.reduceLeDiff, Int.reduceLT, Int.reduceLE, Int.reduceMod, Int.reduceAdd, Int.reduceSub, Int.reduceNeg, Int.reduceMul, Int.reduceBEq, decide_true, decide_false, bne_self_eq_false, BEq.rfl, and_self, Bool.false_or, Bool.true_or, Bool.or_false, Bool.or_true, Option.bind_some, Int.zero_add, Int.toNat_natCast, Int.cast_ofNat_Int, Int.natCast_zero, Int.natCast_one, Int.reduceToNat, Int.reducePow, List.all_cons, List.all_nil, List.any_cons, List.any_nil, id, Bool.not_not, List.length_map, Bool.and_true, Bool.and_false]
    · have e1 : gL x y z b s = none := by unfold gL; rw [if_neg q]
      dsimp only
      rw [e1]
      refine ⟨[.fz (vc x y z), .fz (.int b), .fz (.int s), .fz (.int (LH x y z b s))], ?_, _, _, rfl⟩
      simp -implicitDefEqProofs only [ct, gt_iff_lt, q, bind_ok, bind_exc, st_ok, st_exc, seq_nx, seq_rt, seq_bk, seq_ct, seq_exc, opt_s, lift_s, map_s, get_0, get_s, put_0, put_s, run_eq, fin_nx, fin_rt, fin_exc, d_un, d_own, f_own, d_non, f_non, er_non, d_bl, f_bl, er_bl, d_int, f_int, er_int, d_str, f_str, er_str, d_lst, f_lst, er_lst, d_tup, f_tup, er_tup, d_dct, f_dct, er_dct, d_scr, f_scr, er_scr, d_ty, f_ty, er_ty, d_cls, f_cls, er_cls, b1_con, b2_con, bL_con, b1_glb, b2_glb, bL_glb, b1_bin, b2_bin, bL_bin, b1_neg, b2_neg, bL_neg, b1_not, b2_not, bL_not, b1_and, b2_and, bL_and, b1_or, b2_or, bL_or, b1_cmp, b2_cmp, bL_cmp, b1_chain, b2_chain, bL_chain, b1_ite, b2_ite, bL_ite, b1_tup, b2_tup, bL_tup, b1_lst, b2_lst, bL_lst, b1_dct, b2_dct, bL_dct, b1_idx, b2_idx, bL_idx, b1_slc, b2_slc, bL_slc, b1_call, b2_call, bL_call, b1_bi, b2_bi, bL_bi, b1_comp, b2_comp, bL_comp, b1_pop, b2_pop, bL_pop, b1_meth, b2_meth, bL_meth, b1_efld, b2_efld, bL_efld, b1_eisi, b2_eisi, bL_eisi, b1_var, b2_var, bL_var, isi_int_non, isi_int_bl, isi_int_int, isi_int_str, isi_int_lst, isi_int_tup, isi_int_dct, isi_bool_non, isi_bool_bl, isi_bool_int, isi_bool_str, isi_bool_lst, isi_bool_tup, isi_bool_dct, isi_str_non, isi_str_bl, isi_str_int, isi_str_str, isi_str_lst, isi_str_tup, isi_str_dct, isi_list_non, isi_list_bl, isi_list_int, isi_list_str, isi_list_lst, isi_list_tup, isi_list_dct, isi_tuple_non, isi_tuple_bl, isi_tuple_int, isi_tuple_str, isi_tuple_lst, isi_tuple_tup, isi_tuple_dct, isi_dict_non, isi_dict_bl, isi_dict_int, isi_dict_str, isi_dict_lst, isi_dict_tup, isi_dict_dct, bf_int, bf_intb, bf_abs, bf_lenl, bf_lent, bf_lens, bf_lend, bf_min2, bf_max2, bf_sum, bf_tup, bf_tupt, bf_lst, bf_lstt, bo_add, bo_sub, bo_mul, bo_mod, bo_fdiv, bo_pow, bo_addl, co_lt, co_le, co_gt, co_ge, co_eqi, co_nei, co_eqs, eq_strs, co_is, co_isnot, ix_l, ix_t, tr_bl, tr_int, at_nat, sm_ni, sm_nn, sm_ti, sm_tt, sm_nt, sm_ns, sm_ts, sm_bb, sm_bn, sm_nl, sm_tl, sm_nb, sm_nd, sm_td, ranged_len, lim_lit, asgs_nil, asgs_cons, pat_1, pat_t, forK_nx, forK_ct, forK_bk, forK_rt, forK_exc, forL_nil, forL_cons, it_l, it_t, it_s, ol_l, ow_, mut_l, mut_d, fr_lst, fr_comp, fr_bin, fr_dct, sk_nx, sk_rt, sk_bk, sk_ct, sk_exc, ik_ok, ik_exc, fx_nil, fx_cons, fy_nx, fy_ct, fy_bk, fy_rt, fy_exc, tk_nx, tk_rt, tk_bk, tk_ct, tk_e0, tk_e1, w_skip, w_seq, w_set, w_setO, w_unpack, ak_, w_app, w_put, ps_l, ps_d, pl_i, w_aug, ag_add, ag_sub, w_expr, rv_fz, rv_own, w_ret_var, w_retN, w_ite, w_for, w_while, w_brk, w_cnt, w_raise, w_try, w_frz, e_con, e_var, e_glb, e_bin, e_neg, e_not, e_and, e_or, e_cmp, e_chain, e_ite, e_tup, e_lst, e_dct, e_idx, e_slc, ck_ret, ck_exc, e_call, e_bi1, e_bi2, e_comp, lx_nil, e_efld, e_eisi, nil_e, sub_n, sub_s, gone_rt, gone_nx, hush_nx, hush_rt, lt_lit, xr_con, xr_glb, xr_bin, xr_neg, xr_not, xr_and, xr_or, xr_cmp, xr_chain, xr_ite, xr_tup, xr_lst, xr_dct, xr_idx, xr_slc, xr_call, xr_bi, xr_comp, xr_pop, xr_efld, xr_eisi, at_k0, at_k1, at_k2, at_k3, at_k4, at_k5, at_k6, at_k7, at_k8, at_k9, at_k10, at_k11, at_k12, at_k13, at_k14, at_k15, at_k16, at_k17, at_k18, at_k19, at_k20, or_s, lx_cons, ly_some, ly_none, tx_, op_nil, op_cons, we_nil, we_cons, sp_nil, sp_cons, rp_nil, rp_cons, rg_0, rg_1, rg_2, rg_3, rg_4, rg_5, bls_n, bls_c, ints_n, ints_c, bf_all, bf_any, bf_gcd, bm_var, bn_, bm_lst, e_meth, my_ixl, mf_ix, xr_meth, bf_isqrt, bf_lr1, bf_lr2, bf_min1, bf_max1, mk_c, xk_c, asg_nil, evL, evC, evP, evI, List.map, List.length_cons, List.length_nil, List.cons_append, List.nil_append, List.replicate, if_true, reduceIte, Nat.sub_self, Nat.reduceAdd, Nat.reduceSub, Nat.reduceLT, Bool.false_eq_true, if_false, Bool.not_false, Bool.not_true, Bool.false_and, Bool.true_and, Option.isNone_some, Option.map_some, Nat.reduceEqDiff, Nat.zero_add, Nat.add_zero, Nat.reduceLeDiff, Int.reduceLT, Int.reduceLE, Int.reduceMod, Int.reduceAdd, Int.reduceSub, Int.reduceNeg, Int.reduceMul, Int.reduceBEq, decide_true, decide_false, bne_self_eq_false, BEq.rfl, and_self, Bool.false_or, Bool.true_or, Bool.or_false, Bool.or_true, Option.bind_some, Int.zero_add, Int.toNat_natCast, Int.cast_ofNat_Int, Int.natCast_zero, Int.natCast_one, Int.reduceToNat, Int.reducePow, List.all_cons, List.all_nil, List.any_cons, List.any_nil, id, Bool.not_not, List.length_map, Bool.and_true, Bool.and_false]) _ ⟨_, _, rfl⟩
theorem outL (x y z : Int) (hx : sm 140 x) (hy : sm 140 y) (hz : sm 140 z) (s1 s2 s3 : Sl) : Found (fun e => ∃ s1 s2 s3, e = [.fz (vc x y z), s1, s2, s3]) (FS (gL x y z))
    (forX G (callF G (n + 3)) [] false [1] false (.seq (.for_ [2] false (.bi .range2 (.cons (.neg (.con (.int 9))) (.cons (.con (.int 10)) .nil)))
(.seq (.set 3 (.call 29 (.cons (.var 0) (.cons (.var 1) (.cons (.var 2) .nil)))))
(.seq (.ite (.tst (.cmp .gt (.var 3) (.con (.int 0))))
(.seq (.ret (.tup (.cons (.var 3) (.cons (.var 1) (.cons (.var 2) .nil)))))
.skip)
.skip)
.skip)))
.skip) (ranged 0 36) [.fz (vc x y z), s1, s2, s3]) :=
  forX_find (fun d hd e he => by
    obtain ⟨b, rfl, hb⟩ := ranged_b hd
    obtain ⟨s1, s2, s3, rfl⟩ := he
    have I := inL (n := n) x y z b hx hy hz s2 s3
    show Found _ ((ranged (-9) 19).findSome? (FI (gL x y z b))) _
    unfold stepX
    cases q : (ranged (-9) 19).findSome? (FI (gL x y z b)) with
    | none =>
      rw [q] at I
      obtain ⟨e', h1, s2', s3', rfl⟩ := I
      refine ⟨[.fz (vc x y z), .fz (.int b), s2', s3'], ?_, _, _, _, rfl⟩
      simp -implicitDefEqProofs only [h1, bind_ok, bind_exc, st_ok, st_exc, seq_nx, seq_rt, seq_bk, seq_ct, seq_exc, opt_s, lift_s, map_s, get_0, get_s, put_0, put_s, run_eq, fin_nx, fin_rt, fin_exc, d_un, d_own, f_own, d_non, f_non, er_non, d_bl, f_bl, er_bl, d_int, f_int, er_int, d_str, f_str, er_str, d_lst, f_lst, er_lst, d_tup, f_tup, er_tup, d_dct, f_dct, er_dct, d_scr, f_scr, er_scr, d_ty, f_ty, er_ty, d_cls, f_cls, er_cls, b1_con, b2_con, bL_con, b1_glb, b2_glb, bL_glb, b1_bin, b2_bin, bL_bin, b1_neg, b2_neg, bL_neg, b1_not, b2_not, bL_not, b1_and, b2_and, bL_and, b1_or, b2_or, bL_or, b1_cmp, b2_cmp, bL_cmp, b1_chain, b2_chain, bL_chain, b1_ite, b2_ite, bL_ite, b1_tup, b2_tup, bL_tup, b1_lst, b2_lst, bL_lst, b1_dct, b2_dct, bL_dct, b1_idx, b2_idx, bL_idx, b1_slc, b2_slc, bL_slc, b1_call, b2_call, bL_call, b1_bi, b2_bi, bL_bi, b1_comp, b2_comp, bL_comp, b1_pop, b2_pop, bL_pop, b1_meth, b2_meth, bL_meth, b1_efld, b2_efld, bL_efld, b1_eisi, b2_eisi, bL_eisi, b1_var, b2_var, bL_var, isi_int_non, isi_int_bl, isi_int_int, isi_int_str, isi_int_lst, isi_int_tup, isi_int_dct, isi_bool_non, isi_bool_bl, isi_bool_int, isi_bool_str, isi_bool_lst, isi_bool_tup, isi_bool_dct, isi_str_non, isi_str_bl, isi_str_int, isi_str_str, isi_str_lst, isi_str_tup, isi_str_dct, isi_list_non, isi_list_bl, isi_list_int, isi_list_str, isi_list_lst, isi_list_tup, isi_list_dct, isi_tuple_non, isi_tuple_bl, isi_tuple_int, isi_tuple_str, isi_tuple_lst, isi_tuple_tup, isi_tuple_dct, isi_dict_non, isi_dict_bl, isi_dict_int, isi_dict_str, isi_dict_lst, isi_dict_tup, isi_dict_dct, bf_int, bf_intb, bf_abs, bf_lenl, bf_lent, bf_lens, bf_lend, bf_min2, bf_max2, bf_sum, bf_tup, bf_tupt, bf_lst, bf_lstt, bo_add, bo_sub, bo_mul, bo_mod, bo_fdiv, bo_pow, bo_addl, co_lt, co_le, co_gt, co_ge, co_eqi, co_nei, co_eqs, eq_strs, co_is, co_isnot, ix_l, ix_t, tr_bl, tr_int, at_nat, sm_ni, sm_nn, sm_ti, sm_tt, sm_nt, sm_ns, sm_ts, sm_bb, sm_bn, sm_nl, sm_tl, sm_nb, sm_nd, sm_td, ranged_len, lim_lit, asgs_nil, asgs_cons, pat_1, pat_t, forK_nx, forK_ct, forK_bk, forK_rt, forK_exc, forL_nil, forL_cons, it_l, it_t, it_s, ol_l, ow_, mut_l, mut_d, fr_lst, fr_comp, fr_bin, fr_dct, sk_nx, sk_rt, sk_bk, sk_ct, sk_exc, ik_ok, ik_exc, fx_nil, fx_cons, fy_nx, fy_ct, fy_bk, fy_rt, fy_exc, tk_nx, tk_rt, tk_bk, tk_ct, tk_e0, tk_e1, w_skip, w_seq, w_set, w_setO, w_unpack, ak_, w_app, w_put, ps_l, ps_d, pl_i, w_aug, ag_add, ag_sub, w_expr, rv_fz, rv_own, w_ret_var, w_retN, w_ite, w_for, w_while, w_brk, w_cnt, w_raise, w_try, w_frz, e_con, e_var, e_glb, e_bin, e_neg, e_not, e_and, e_or, e_cmp, e_chain, e_ite, e_tup, e_lst, e_dct, e_idx, e_slc, ck_ret, ck_exc, e_call, e_bi1, e_bi2, e_comp, lx_nil, e_efld, e_eisi, nil_e, sub_n, sub_s, gone_rt, gone_nx, hush_nx, hush_rt, lt_lit, xr_con, xr_glb, xr_bin, xr_neg, xr_not, xr_and, xr_or, xr_cmp, xr_chain, xr_ite, xr_tup, xr_lst, xr_dct, xr_idx, xr_slc, xr_call, xr_bi, xr_comp, xr_pop, xr_efld, xr_eisi, at_k0, at_k1, at_k2, at_k3, at_k4, at_k5, at_k6, at_k7, at_k8, at_k9, at_k10, at_k11, at_k12, at_k13, at_k14, at_k15, at_k16, at_k17, at_k18, at_k19, at_k20, or_s, lx_cons, ly_some, ly_none, tx_, op_nil, op_cons, we_nil, we_cons, sp_nil, sp_cons, rp_nil, rp_cons, rg_0, rg_1, rg_2, rg_3, rg_4, rg_5, bls_n, bls_c, ints_n, ints_c, bf_all, bf_any, bf_gcd, bm_var, bn_, bm_lst, e_meth, my_ixl, mf_ix, xr_meth, bf_isqrt, bf_lr1, bf_lr2, bf_min1, bf_max1, mk_c, xk_c, asg_nil, evL, evC, evP, evI, List.map, List.length_cons, List.length_nil, List.cons_append, List.nil_append, List.replicate, if_true, reduceIte, Nat.sub_self, Nat.reduceAdd, Nat.reduceSub, Nat.reduceLT, Bool.false_eq_true, if_false, Bool.not_false, Bool.not_true, Bool.false_and, Bool.true_and, Option.isNone_some, Option.map_some, Nat.reduceEqDiff, Nat.zero_add, Nat.add_zero, Nat.reduceLeDiff, Int.reduceLT, Int.reduceLE, Int.reduceMod, Int.reduceAdd, Int.reduceSub, Int.reduceNeg, Int.reduceMul, Int.reduceBEq, decide_true, decide_false, bne_self_eq_false, BEq.rfl, and_self, Bool.false_or, Bool.true_or, Bool.or_false, Bool.or_true, Option.bind_some, Int.zero_add, Int.toNat_natCast, Int.cast_ofNat_Int, Int.natCast_zero, Int.natCast_one, Int.reduceToNat, Int.reducePow, List.all_cons, List.all_nil, List.any_cons, List.any_nil, id, Bool.not_not, List.length_map, Bool.and_true, Bool.and_false]
    | some v =>
      rw [q] at I
      obtain ⟨e', h1⟩ := I
      refine ⟨e', ?_⟩
      simp -implicitDefEqProofs only [h1, bind_ok, bind_exc, st_ok, st_exc, seq_nx, seq_rt, seq_bk, seq_ct, seq_exc, opt_s, lift_s, map_s, get_0, get_s, put_0, put_s, run_eq, fin_nx, fin_rt, fin_exc, d_un, d_own, f_own, d_non, f_non, er_non, d_bl, f_bl, er_bl, d_int, f_int, er_int, d_str, f_str, er_str, d_lst, f_lst, er_lst, d_tup, f_tup, er_tup, d_dct, f_dct, er_dct, d_scr, f_scr, er_scr, d_ty, f_ty, er_ty, d_cls, f_cls, er_cls, b1_con, b2_con, bL_con, b1_glb, b2_glb, bL_glb, b1_bin, b2_bin, bL_bin, b1_neg, b2_neg, bL_neg, b1_not, b2_not, bL_not, b1_and, b2_and, bL_and, b1_or, b2_or, bL_or, b1_cmp, b2_cmp, bL_cmp, b1_chain, b2_chain, bL_chain, b1_ite, b2_ite, bL_ite, b1_tup, b2_tup, bL_tup, b1_lst, b2_lst, bL_lst, b1_dct, b2_dct, bL_dct, b1_idx, b2_idx, bL_idx, b1_slc, b2_slc, bL_slc, b1_call, b2_call, bL_call, b1_bi, b2_bi, bL_bi, b1_comp, b2_comp, bL_comp, b1_pop, b2_pop, bL_pop, b1_meth, b2_meth, bL_meth, b1_efld, b2_efld, bL_efld, b1_eisi, b2_eisi, bL_eisi, b1_var, b2_var, bL_var, isi_int_non, isi_int_bl, isi_int_int, isi_int_str, isi_int_lst, isi_int_tup, isi_int_dct, isi_bool_non, isi_bool_bl, isi_bool_int, isi_bool_str, isi_bool_lst, isi_bool_tup, isi_bool_dct, isi_str_non, isi_str_bl, isi_str_int, isi_str_str, isi_str_lst, isi_str_tup, isi_str_dct, isi_list_non, isi_list_bl, isi_list_int, isi_list_str, isi_list_lst, isi_list_tup, isi_list_dct, isi_tuple_non, isi_tuple_bl, isi_tuple_int, isi_tuple_str, isi_tuple_lst, isi_tuple_tup, isi_tuple_dct, isi_dict_non, isi_dict_bl, isi_dict_int, isi_dict_str, isi_dict_lst, isi_dict_tup, isi_dict_dct, bf_int, bf_intb, bf_abs, bf_lenl, bf_lent, bf_lens, bf_lend, bf_min2, bf_max2, bf_sum, bf_tup, bf_tupt, bf_lst, bf_lstt, bo_add, bo_sub, bo_mul, bo_mod, bo_fdiv, bo_pow, bo_addl, co_lt, co_le, co_gt, co_ge, co_eqi, co_nei, co_eqs, eq_strs, co_is, co_isnot, ix_l, ix_t, tr_bl, tr_int, at_nat, sm_ni, sm_nn, sm_ti, sm_tt, sm_nt, sm_ns, sm_ts, sm_bb, sm_bn, sm_nl, sm_tl, sm_nb, sm_nd, sm_td, ranged_len, lim_lit, asgs_nil, asgs_cons, pat_1, pat_t, forK_nx, forK_ct, forK_bk, forK_rt, forK_exc, forL_nil, forL_cons, it_l, it_t, it_s, ol_l, ow_, mut_l, mut_d, fr_lst, fr_comp, fr_bin, fr_dct, sk_nx, sk_rt, sk_bk, sk_ct, sk_exc, ik_ok, ik_exc, fx_nil, fx_cons, fy_nx, fy_ct, fy_bk, fy_rt, fy_exc, tk_nx, tk_rt, tk_bk, tk_ct, tk_e0, tk_e1, w_skip, w_seq, w_set, w_setO, w_unpack, ak_, w_app, w_put, ps_l, ps_d, pl_i, w_aug, ag_add, ag_sub, w_expr, rv_fz, rv_own, w_ret_var, w_retN, w_ite, w_for, w_while, w_brk, w_cnt, w_raise, w_try, w_frz, e_con, e_var, e_glb, e_bin, e_neg, e_not, e_and, e_or, e_cmp, e_chain, e_ite, e_tup, e_lst, e_dct, e_idx, e_slc, ck_ret, ck_exc, e_call, e_bi1, e_bi2, e_comp, lx_nil, e_efld, e_eisi, nil_e, sub_n, sub_s, gone_rt, gone_nx, hush_nx, hush_rt, lt_lit, xr_con, xr_glb, xr_bin, xr_neg, xr_not, xr_and, xr_or, xr_cmp, xr_chain, xr_ite, xr_tup, xr_lst, xr_dct, xr_idx, xr_slc, xr_call, xr_bi, xr_comp, xr_pop, xr_efld, xr_eisi, at_k0, at_k1, at_k2, at_k3, at_k4, at_k5, at_k6, at_k7, at_k8, at_k9, at_k10, at_k11, at_k12, at_k13, at_k14, at_k15, at_k16, at_k17, at_k18, at_k19, at_k20, or_s, lx_cons, ly_some, ly_none, tx_, op_nil, op_cons, we_nil, we_cons, sp_nil, sp_cons, rp_nil, rp_cons, rg_0, rg_1, rg_2, rg_3, rg_4, rg_5, bls_n, bls_c, ints_n, ints_c, bf_all, bf_any, bf_gcd, bm_var, bn_, bm_lst, e_meth, my_ixl, mf_ix, xr_meth, bf_isqrt, bf_lr1, bf_lr2, bf_min1, bf_max1, mk_c, xk_c, asg_nil, evL, evC, evP, evI, List.map, List.length_cons, List.length_nil, List.cons_append, List.nil_append, List.replicate, if_true, reduceIte, Nat.sub_self, Nat.reduceAdd, Nat.reduceSub, Nat.reduceLT, Bool.false_eq_true, if_false, Bool.not_false, Bool.not_true, Bool.false_and, Bool.true_and, Option.isNone_some, Option.map_some, Nat.reduceEqDiff, Nat.zero_add, Nat.add_zero, Nat.reduceLeDiff, Int.reduceLT, Int.reduceLE, Int.reduceMod, Int.reduceAdd, Int.reduceSub, Int.reduceNeg, Int.reduceMul, Int.reduceBEq, decide_true, decide_false, bne_self_eq_false, BEq.rfl, and_self, Bool.false_or, Bool.true_or, Bool.or_false, Bool.or_true, Option.bind_some, Int.zero_add, Int.toNat_natCast, Int.cast_ofNat_Int, Int.natCast_zero, Int.natCast_one, Int.reduceToNat, Int.reducePow, List.all_cons, List.all_nil, List.any_cons, List.any_nil, id, Bool.not_not, List.length_map, Bool.and_true, Bool.and_false]) _ ⟨_, _, _, rfl⟩
def LT (x y z : Int) : D := if x = 0 ∧ y = 0 ∧ z = 0 then vc 0 0 0 else orN (FS (gL x y z))
theorem c_law_triple (x y z : Int) (hx : sm 140 x) (hy : sm 140 y) (hz : sm 140 z) : callF G (n + 4) 30 [vc x y z] = .ret (LT x y z) := by
  have c_1 : ∀ {n : Nat} {as : List D}, callF G (n + 1) 30 as = runDef G (callF G n) d__law_triple as := rfl
  unfold LT
  by_cases k : x = 0 ∧ y = 0 ∧ z = 0
  · simp -implicitDefEqProofs only [c_1, d__law_triple, b__law_triple, eq_vc, k, bind_ok, bind_exc, st_ok, st_exc, seq_nx, seq_rt, seq_bk, seq_ct, seq_exc, opt_s, lift_s, map_s, get_0, get_s, put_0, put_s, run_eq, fin_nx, fin_rt, fin_exc, d_un, d_own, f_own, d_non, f_non, er_non, d_bl, f_bl, er_bl, d_int, f_int, er_int, d_str, f_str, er_str, d_lst, f_lst, er_lst, d_tup, f_tup, er_tup, d_dct, f_dct, er_dct, d_scr, f_scr, er_scr, d_ty, f_ty, er_ty, d_cls, f_cls, er_cls, b1_con, b2_con, bL_con, b1_glb, b2_glb, bL_glb, b1_bin, b2_bin, bL_bin, b1_neg, b2_neg, bL_neg, b1_not, b2_not, bL_not, b1_and, b2_and, bL_and, b1_or, b2_or, bL_or, b1_cmp, b2_cmp, bL_cmp, b1_chain, b2_chain, bL_chain, b1_ite, b2_ite, bL_ite, b1_tup, b2_tup, bL_tup, b1_lst, b2_lst, bL_lst, b1_dct, b2_dct, bL_dct, b1_idx, b2_idx, bL_idx, b1_slc, b2_slc, bL_slc, b1_call, b2_call, bL_call, b1_bi, b2_bi, bL_bi, b1_comp, b2_comp, bL_comp, b1_pop, b2_pop, bL_pop, b1_meth, b2_meth, bL_meth, b1_efld, b2_efld, bL_efld, b1_eisi, b2_eisi, bL_eisi, b1_var, b2_var, bL_var, isi_int_non, isi_int_bl, isi_int_int, isi_int_str, isi_int_lst, isi_int_tup, isi_int_dct, isi_bool_non, isi_bool_bl, isi_bool_int, isi_bool_str, isi_bool_lst, isi_bool_tup, isi_bool_dct, isi_str_non, isi_str_bl, isi_str_int, isi_str_str, isi_str_lst, isi_str_tup, isi_str_dct, isi_list_non, isi_list_bl, isi_list_int, isi_list_str, isi_list_lst, isi_list_tup, isi_list_dct, isi_tuple_non, isi_tuple_bl, isi_tuple_int, isi_tuple_str, isi_tuple_lst, isi_tuple_tup, isi_tuple_dct, isi_dict_non, isi_dict_bl, isi_dict_int, isi_dict_str, isi_dict_lst, isi_dict_tup, isi_dict_dct, bf_int, bf_intb, bf_abs, bf_lenl, bf_lent, bf_lens, bf_lend, bf_min2, bf_max2, bf_sum, bf_tup, bf_tupt, bf_lst, bf_lstt, bo_add, bo_sub, bo_mul, bo_mod, bo_fdiv, bo_pow, bo_addl, co_lt, co_le, co_gt, co_ge, co_eqi, co_nei, co_eqs, eq_strs, co_is, co_isnot, ix_l, ix_t, tr_bl, tr_int, at_nat, sm_ni, sm_nn, sm_ti, sm_tt, sm_nt, sm_ns, sm_ts, sm_bb, sm_bn, sm_nl, sm_tl, sm_nb, sm_nd, sm_td, ranged_len, lim_lit, asgs_nil, asgs_cons, pat_1, pat_t, forK_nx, forK_ct, forK_bk, forK_rt, forK_exc, forL_nil, forL_cons, it_l, it_t, it_s, ol_l, ow_, mut_l, mut_d, fr_lst, fr_comp, fr_bin, fr_dct, sk_nx, sk_rt, sk_bk, sk_ct, sk_exc, ik_ok, ik_exc, fx_nil, fx_cons, fy_nx, fy_ct, fy_bk, fy_rt, fy_exc, tk_nx, tk_rt, tk_bk, tk_ct, tk_e0, tk_e1, w_skip, w_seq, w_set, w_setO, w_unpack, ak_, w_app, w_put, ps_l, ps_d, pl_i, w_aug, ag_add, ag_sub, w_expr, rv_fz, rv_own, w_ret_var, w_retN, w_ite, w_for, w_while, w_brk, w_cnt, w_raise, w_try, w_frz, e_con, e_var, e_glb, e_bin, e_neg, e_not, e_and, e_or, e_cmp, e_chain, e_ite, e_tup, e_lst, e_dct, e_idx, e_slc, ck_ret, ck_exc, e_call, e_bi1, e_bi2, e_comp, lx_nil, e_efld, e_eisi, nil_e, sub_n, sub_s, gone_rt, gone_nx, hush_nx, hush_rt, lt_lit, xr_con, xr_glb, xr_bin, xr_neg, xr_not, xr_and, xr_or, xr_cmp, xr_chain, xr_ite, xr_tup, xr_lst, xr_dct, xr_idx, xr_slc, xr_call, xr_bi, xr_comp, xr_pop, xr_efld, xr_eisi, at_k0, at_k1, at_k2, at_k3, at_k4, at_k5, at_k6, at_k7, at_k8, at_k9, at_k10, at_k11, at_k12, at_k13, at_k14, at_k15, at_k16, at_k17, at_k18, at_k19, at_k20, or_s, lx_cons, ly_some, ly_none, tx_, op_nil, op_cons, we_nil, we_cons, sp_nil, sp_cons, rp_nil, rp_cons, rg_0, rg_1, rg_2, rg_3, rg_4, rg_5, bls_n, bls_c, ints_n, ints_c, bf_all, bf_any, bf_gcd, bm_var, bn_, bm_lst, e_meth, my_ixl, mf_ix, xr_meth, bf_isqrt, bf_lr1, bf_lr2, bf_min1, bf_max1, mk_c, xk_c, asg_nil, evL, evC, evP, evI, List.map, List.length_cons, List.length_nil, List.cons_append, List.nil_append, List.replicate, if_true, reduceIte, Nat.sub_self, Nat.reduceAdd, Nat.reduceSub, Nat.reduceLT, Bool.false_eq_true, if_false, Bool.not_false, Bool.not_true, Bool.false_and, Bool.true_and, Option.isNone_some, Option.map_some, Nat.reduceEqDiff, Nat.zero_add, Nat.add_zero, Nat.reduceLeDiff, Int.reduceLT, Int.reduceLE, Int.reduceMod, Int.reduceAdd, Int.reduceSub, Int.reduceNeg, Int.reduceMul, Int.reduceBEq, decide_true, decide_false, bne_self_eq_false, BEq.rfl, and_self, Bool.false_or, Bool.true_or, Bool.or_false, Bool.or_true, Option.bind_some, Int.zero_add, Int.toNat_natCast, Int.cast_ofNat_Int, Int.natCast_zero, Int.natCast_one, Int.reduceToNat, Int.reducePow, List.all_cons, List.all_nil, List.any_cons, List.any_nil, id, Bool.not_not, List.length_map, Bool.and_true, Bool.and_false]
  · have O := outL (n := n) x y z hx hy hz .un .un .un
    cases hf : FS (gL x y z) with
    | none =>
      rw [hf] at O
      obtain ⟨e', h1, s1, s2, s3, rfl⟩ := O
      simp -implicitDefEqProofs only [c_1, d__law_triple, b__law_triple, eq_vc, k, h1, orN, bind_ok, bind_exc, st_ok, st_exc, seq_nx, seq_rt, seq_bk, seq_ct, seq_exc, opt_s, lift_s, map_s, get_0, get_s, put_0, put_s, run_eq, fin_nx, fin_rt, fin_exc, d_un, d_own, f_own, d_non, f_non, er_non, d_bl, f_bl, er_bl, d_int, f_int, er_int, d_str, f_str, er_str, d_lst, f_lst, er_lst, d_tup, f_tup, er_tup, d_dct, f_dct, er_dct, d_scr, f_scr, er_scr, d_ty, f_ty, er_ty, d_cls, f_cls, er_cls, b1_con, b2_con, bL_con, b1_glb, b2_glb, bL_glb, b1_bin, b2_bin, bL_bin, b1_neg, b2_neg, bL_neg, b1_not, b2_not, bL_not, b1_and, b2_and, bL_and, b1_or, b2_or, bL_or, b1_cmp, b2_cmp, bL_cmp, b1_chain, b2_chain, bL_chain, b1_ite, b2_ite, bL_ite, b1_tup, b2_tup, bL_tup, b1_lst, b2_lst, bL_lst, b1_dct, b2_dct, bL_dct, b1_idx, b2_idx, bL_idx, b1_slc, b2_slc, bL_slc, b1_call, b2_call, bL_call, b1_bi, b2_bi, bL_bi, b1_comp, b2_comp, bL_comp, b1_pop, b2_pop, bL_pop, b1_meth, b2_meth, bL_meth, b1_efld, b2_efld, bL_efld, b1_eisi, b2_eisi, bL_eisi, b1_var, b2_var, bL_var, isi_int_non, isi_int_bl, isi_int_int, isi_int_str, isi_int_lst, isi_int_tup, isi_int_dct, isi_bool_non, isi_bool_bl, isi_bool_int, isi_bool_str, isi_bool_lst, isi_bool_tup, isi_bool_dct, isi_str_non, isi_str_bl, isi_str_int, isi_str_str, isi_str_lst, isi_str_tup, isi_str_dct, isi_list_non, isi_list_bl, isi_list_int, isi_list_str, isi_list_lst, isi_list_tup, isi_list_dct, isi_tuple_non, isi_tuple_bl, isi_tuple_int, isi_tuple_str, isi_tuple_lst, isi_tuple_tup, isi_tuple_dct, isi_dict_non, isi_dict_bl, isi_dict_int, isi_dict_str, isi_dict_lst, isi_dict_tup, isi_dict_dct, bf_int, bf_intb, bf_abs, bf_lenl, bf_lent, bf_lens, bf_lend, bf_min2, bf_max2, bf_sum, bf_tup, bf_tupt, bf_lst, bf_lstt, bo_add, bo_sub, bo_mul, bo_mod, bo_fdiv, bo_pow, bo_addl, co_lt, co_le, co_gt, co_ge, co_eqi, co_nei, co_eqs, eq_strs, co_is, co_isnot, ix_l, ix_t, tr_bl, tr_int, at_nat, sm_ni, sm_nn, sm_ti, sm_tt, sm_nt, sm_ns, sm_ts, sm_bb, sm_bn, sm_nl, sm_tl, sm_nb, sm_nd, sm_td, ranged_len, lim_lit, asgs_nil, asgs_cons, pat_1, pat_t, forK_nx, forK_ct, forK_bk, forK_rt, forK_exc, forL_nil, forL_cons, it_l, it_t, it_s, ol_l, ow_, mut_l, mut_d, fr_lst, fr_comp, fr_bin, fr_dct, sk_nx, sk_rt, sk_bk, sk_ct, sk_exc, ik_ok, ik_exc, fx_nil, fx_cons, fy_nx, fy_ct, fy_bk, fy_rt, fy_exc, tk_nx, tk_rt, tk_bk, tk_ct, tk_e0, tk_e1, w_skip, w_seq, w_set, w_setO, w_unpack, ak_, w_app, w_put, ps_l, ps_d, pl_i, w_aug, ag_add, ag_sub, w_expr, rv_fz, rv_own, w_ret_var, w_retN, w_ite, w_for, w_while, w_brk, w_cnt, w_raise, w_try, w_frz, e_con, e_var, e_glb, e_bin, e_neg, e_not, e_and, e_or, e_cmp, e_chain, e_ite, e_tup, e_lst, e_dct, e_idx, e_slc, ck_ret, ck_exc, e_call, e_bi1, e_bi2, e_comp, lx_nil, e_efld, e_eisi, nil_e, sub_n, sub_s, gone_rt, gone_nx, hush_nx, hush_rt, lt_lit, xr_con, xr_glb, xr_bin, xr_neg, xr_not, xr_and, xr_or, xr_cmp, xr_chain, xr_ite, xr_tup, xr_lst, xr_dct, xr_idx, xr_slc, xr_call, xr_bi, xr_comp, xr_pop, xr_efld, xr_eisi, at_k0, at_k1, at_k2, at_k3, at_k4, at_k5, at_k6, at_k7, at_k8, at_k9, at_k10, at_k11, at_k12, at_k13, at_k14, at_k15, at_k16, at_k17, at_k18, at_k19, at_k20, or_s, lx_cons, ly_some, ly_none, tx_, op_nil, op_cons, we_nil, we_cons, sp_nil, sp_cons, rp_nil, rp_cons, rg_0, rg_1, rg_2, rg_3, rg_4, rg_5, bls_n, bls_c, ints_n, ints_c, bf_all, bf_any, bf_gcd, bm_var, bn_, bm_lst, e_meth, my_ixl, mf_ix, xr_meth, bf_isqrt, bf_lr1, bf_lr2, bf_min1, bf_max1, mk_c, xk_c, asg_nil, evL, evC, evP, evI, List.map, List.length_cons, List.length_nil, List.cons_append, List.nil_append, List.replicate, if_true, reduceIte, Nat.sub_self, Nat.reduceAdd, Nat.reduceSub, Nat.reduceLT, Bool.false_eq_true, if_false, Bool.not_false, Bool.not_true, Bool.false_and, Bool.true_and, Option.isNone_some, Option.map_some, Nat.reduceEqDiff, Nat.zero_add, Nat.add_zero, Nat.reduceLeDiff, Int.reduceLT, Int.reduceLE, Int.reduceMod, Int.reduceAdd, Int.reduceSub, Int.reduceNeg, Int.reduceMul, Int.reduceBEq, decide_true, decide_false, bne_self_eq_false, BEq.rfl, and_self, Bool.false_or, Bool.true_or, Bool.or_false, Bool.or_true, Option.bind_some, Int.zero_add, Int.toNat_natCast, Int.cast_ofNat_Int, Int.natCast_zero, Int.natCast_one, Int.reduceToNat, Int.reducePow, List.all_cons, List.all_nil, List.any_cons, List.any_nil, id, Bool.not_not, List.length_map, Bool.and_true, Bool.and_false]
    | some v =>
      rw [hf] at O
      obtain ⟨e', h1⟩ := O
      simp -implicitDefEqProofs only [c_1, d__law_triple, b__law_triple, eq_vc, k, h1, orN, bind_ok, bind_exc, st_ok, st_exc, seq_nx, seq_rt, seq_bk, seq_ct, seq_exc, opt_s, lift_s, map_s, get_0, get_s, put_0, put_s, run_eq, fin_nx, fin_rt, fin_exc, d_un, d_own, f_own, d_non, f_non, er_non, d_bl, f_bl, er_bl, d_int, f_int, er_int, d_str, f_str, er_str, d_lst, f_lst, er_lst, d_tup, f_tup, er_tup, d_dct, f_dct, er_dct, d_scr, f_scr, er_scr, d_ty, f_ty, er_ty, d_cls, f_cls, er_cls, b1_con, b2_con, bL_con, b1_glb, b2_glb, bL_glb, b1_bin, b2_bin, bL_bin, b1_neg, b2_neg, bL_neg, b1_not, b2_not, bL_not, b1_and, b2_and, bL_and, b1_or, b2_or, bL_or, b1_cmp, b2_cmp, bL_cmp, b1_chain, b2_chain, bL_chain, b1_ite, b2_ite, bL_ite, b1_tup, b2_tup, bL_tup, b1_lst, b2_lst, bL_lst, b1_dct, b2_dct, bL_dct, b1_idx, b2_idx, bL_idx, b1_slc, b2_slc, bL_slc, b1_call, b2_call, bL_call, b1_bi, b2_bi, bL_bi, b1_comp, b2_comp, bL_comp, b1_pop, b2_pop, bL_pop, b1_meth, b2_meth, bL_meth, b1_efld, b2_efld, bL_efld, b1_eisi, b2_eisi, bL_eisi, b1_var, b2_var, bL_var, isi_int_non, isi_int_bl, isi_int_int, isi_int_str, isi_int_lst, isi_int_tup, isi_int_dct, isi_bool_non, isi_bool_bl, isi_bool_int, isi_bool_str, isi_bool_lst, isi_bool_tup, isi_bool_dct, isi_str_non, isi_str_bl, isi_str_int, isi_str_str, isi_str_lst, isi_str_tup, isi_str_dct, isi_list_non, isi_list_bl, isi_list_int, isi_list_str, isi_list_lst, isi_list_tup, isi_list_dct, isi_tuple_non, isi_tuple_bl, isi_tuple_int, isi_tuple_str, isi_tuple_lst, isi_tuple_tup, isi_tuple_dct, isi_dict_non, isi_dict_bl, isi_dict_int, isi_dict_str, isi_dict_lst, isi_dict_tup, isi_dict_dct, bf_int, bf_intb, bf_abs, bf_lenl, bf_lent, bf_lens, bf_lend, bf_min2, bf_max2, bf_sum, bf_tup, bf_tupt, bf_lst, bf_lstt, bo_add, bo_sub, bo_mul, bo_mod, bo_fdiv, bo_pow, bo_addl, co_lt, co_le, co_gt, co_ge, co_eqi, co_nei, co_eqs, eq_strs, co_is, co_isnot, ix_l, ix_t, tr_bl, tr_int, at_nat, sm_ni, sm_nn, sm_ti, sm_tt, sm_nt, sm_ns, sm_ts, sm_bb, sm_bn, sm_nl, sm_tl, sm_nb, sm_nd, sm_td, ranged_len, lim_lit, asgs_nil, asgs_cons, pat_1, pat_t, forK_nx, forK_ct, forK_bk, forK_rt, forK_exc, forL_nil, forL_cons, it_l, it_t, it_s, ol_l, ow_, mut_l, mut_d, fr_lst, fr_comp, fr_bin, fr_dct, sk_nx, sk_rt, sk_bk, sk_ct, sk_exc, ik_ok, ik_exc, fx_nil, fx_cons, fy_nx, fy_ct, fy_bk, fy_rt, fy_exc, tk_nx, tk_rt, tk_bk, tk_ct, tk_e0, tk_e1, w_skip, w_seq, w_set, w_setO, w_unpack, ak_, w_app, w_put, ps_l, ps_d, pl_i, w_aug, ag_add, ag_sub, w_expr, rv_fz, rv_own, w_ret_var, w_retN, w_ite, w_for, w_while, w_brk, w_cnt, w_raise, w_try, w_frz, e_con, e_var, e_glb, e_bin, e_neg, e_not, e_and, e_or, e_cmp, e_chain, e_ite, e_tup, e_lst, e_dct, e_idx, e_slc, ck_ret, ck_exc, e_call, e_bi1, e_bi2, e_comp, lx_nil, e_efld, e_eisi, nil_e, sub_n, sub_s, gone_rt, gone_nx, hush_nx, hush_rt, lt_lit, xr_con, xr_glb, xr_bin, xr_neg, xr_not, xr_and, xr_or, xr_cmp, xr_chain, xr_ite, xr_tup, xr_lst, xr_dct, xr_idx, xr_slc, xr_call, xr_bi, xr_comp, xr_pop, xr_efld, xr_eisi, at_k0, at_k1, at_k2, at_k3, at_k4, at_k5, at_k6, at_k7, at_k8, at_k9, at_k10, at_k11, at_k12, at_k13, at_k14, at_k15, at_k16, at_k17, at_k18, at_k19, at_k20, or_s, lx_cons, ly_some, ly_none, tx_, op_nil, op_cons, we_nil, we_cons, sp_nil, sp_cons, rp_nil, rp_cons, rg_0, rg_1, rg_2, rg_3, rg_4, rg_5, bls_n, bls_c, ints_n, ints_c, bf_all, bf_any, bf_gcd, bm_var, bn_, bm_lst, e_meth, my_ixl, mf_ix, xr_meth, bf_isqrt, bf_lr1, bf_lr2, bf_min1, bf_max1, mk_c, xk_c, asg_nil, evL, evC, evP, evI, List.map, List.length_cons, List.length_nil, List.cons_append, List.nil_append, List.replicate, if_true, reduceIte, Nat.sub_self, Nat.reduceAdd, Nat.reduceSub, Nat.reduceLT, Bool.false_eq_true, if_false, Bool.not_false, Bool.not_true, Bool.false_and, Bool.true_and, Option.isNone_some, Option.map_some, Nat.reduceEqDiff, Nat.zero_add, Nat.add_zero, Nat.reduceLeDiff, Int.reduceLT, Int.reduceLE, Int.reduceMod, Int.reduceAdd, Int.reduceSub, Int.reduceNeg, Int.reduceMul, Int.reduceBEq, decide_true, decide_false, bne_self_eq_false, BEq.rfl, and_self, Bool.false_or, Bool.true_or, Bool.or_false, Bool.or_true, Option.bind_some, Int.zero_add, Int.toNat_natCast, Int.cast_ofNat_Int, Int.natCast_zero, Int.natCast_one, Int.reduceToNat, Int.reducePow, List.all_cons, List.all_nil, List.any_cons, List.any_nil, id, Bool.not_not, List.length_map, Bool.and_true, Bool.and_false]
theorem circ (b : Int) : ea b * ea b + ea (b + 9) * ea (b + 9) = 4225 := by
  have k : ∀ k < 36, E.getD k 0 * E.getD k 0 + E.getD ((k + 9) % 36) 0 * E.getD ((k + 9) % 36) 0 = 4225 := by decide
  have h := k (b % 36).toNat (by omega)
  unfold ea
  have e : ((b + 9) % 36).toNat = ((b % 36).toNat + 9) % 36 := by omega
  rw [e]; exact h
theorem circS (s : Int) (h : okS s = true) : le s * le s + ea s * ea s = 4225 := by
  obtain ⟨k, hk, rfl⟩ := lowS s h
  have : ∀ k < 19, le ((k : Nat) - 9) * le ((k : Nat) - 9) + ea ((k : Nat) - 9) * ea ((k : Nat) - 9) = 4225 := by decide
  exact this k hk
theorem norm (h b s : Int) (hs : okS s = true) : (h * le s * ea b) * (h * le s * ea b) + ((h * le s * ea (b + 9)) * (h * le s * ea (b + 9)) + ((h * 65 * ea s) * (h * 65 * ea s) + 0)) = (4225 * h) * (4225 * h) := by
  have h1 := circ b
  have h2 := circS s hs
  grind
theorem isq_sq (m : Nat) : PySem.Float64.isqrt (m * m) = m := by
  obtain ⟨h1, h2⟩ := PySem.Float64.isqrt_spec (m * m)
  have a1 : PySem.Float64.isqrt (m * m) ≤ m := Nat.le_of_not_lt fun q => by
    have := Nat.mul_lt_mul'' q q
    omega
  have a2 : m ≤ PySem.Float64.isqrt (m * m) := Nat.le_of_not_lt fun q => by
    have := Nat.mul_le_mul (Nat.succ_le_of_lt q) (Nat.succ_le_of_lt q)
    have e : (PySem.Float64.isqrt (m * m) + 1) * (PySem.Float64.isqrt (m * m) + 1) ≤ m * m := this
    omega
  omega
theorem isq_int {h : Int} (h0 : 0 ≤ h) : ((PySem.Float64.isqrt ((4225 * h) * (4225 * h)).toNat : Nat) : Int) = 4225 * h := by
  obtain ⟨m, rfl⟩ := Int.eq_ofNat_of_zero_le h0
  have e : ((4225 * (m : Int)) * (4225 * (m : Int))).toNat = (4225 * m) * (4225 * m) := by
    have : (4225 * (m : Int)) * (4225 * (m : Int)) = (((4225 * m) * (4225 * m) : Nat) : Int) := by simp
    rw [this]; rfl
  rw [e, isq_sq]; simp
theorem sq0 {x y z : Int} (h : x * x + (y * y + (z * z + 0)) = 0) : x = 0 ∧ y = 0 ∧ z = 0 := by
  have p1 := sq_nn x
  have p2 := sq_nn y
  have p3 := sq_nn z
  have a1 : x * x = 0 := by omega
  have a2 : y * y = 0 := by omega
  have a3 : z * z = 0 := by omega
  have k : ∀ t : Int, t * t = 0 → t = 0 := fun t h => (Int.mul_eq_zero.mp h).elim id id
  exact ⟨k x a1, k y a2, k z a3⟩
/-- the hands that the law finds -/
theorem lh_pos {x y z u v w a d : Int} (h : 0 < lh x y z u v w a d) : x = lh x y z u v w a d * u ∧ y = lh x y z u v w a d * v ∧ z = lh x y z u v w a d * w := by
  unfold lh at *
  split at h
  · rename_i q
    rw [if_pos q]
    exact ⟨q.2.1.symm, q.2.2.1.symm, q.2.2.2.symm⟩
  · omega
theorem LHu_pos {x y z u v w : Int} (h : 0 < LHu x y z u v w) : x = LHu x y z u v w * u ∧ y = LHu x y z u v w * v ∧ z = LHu x y z u v w * w := by
  unfold LHu at *
  split at h
  · rename_i q; rw [if_pos q]; exact lh_pos h
  · rename_i q; rw [if_neg q]
    split at h
    · rename_i q; rw [if_pos q]; exact lh_pos h
    · rename_i q; rw [if_neg q]
      split at h
      · rename_i q; rw [if_pos q]; exact lh_pos h
      · omega
theorem LHu_of {h u v w : Int} (h0 : 0 < h) (hu : ¬ (u = 0 ∧ v = 0 ∧ w = 0)) : LHu (h * u) (h * v) (h * w) u v w = h := by
  unfold LHu
  have k : ∀ d, d ≠ 0 → (h * d).fdiv d = h := fun d hd => Int.mul_fdiv_cancel h hd
  split
  · rename_i q; unfold lh; rw [k u q, if_pos ⟨h0, rfl, rfl, rfl⟩]
  · split
    · rename_i q; unfold lh; rw [k v q, if_pos ⟨h0, rfl, rfl, rfl⟩]
    · split
      · rename_i q; unfold lh; rw [k w q, if_pos ⟨h0, rfl, rfl, rfl⟩]
      · rename_i q1 q2 q3
        exact absurd ⟨by omega, by omega, by omega⟩ hu
theorem LH_pos {x y z b s : Int} (h : 0 < LH x y z b s) : x = LH x y z b s * le s * ea b ∧ y = LH x y z b s * le s * ea (b + 9) ∧ z = LH x y z b s * 65 * ea s := by
  obtain ⟨h1, h2, h3⟩ := LHu_pos h
  have g : ∀ t a b : Int, t * (1 * a * b) = t * a * b := fun t a b => by grind
  exact ⟨h1.trans (g _ _ _), h2.trans (g _ _ _), h3.trans (g _ _ _)⟩
theorem LH_of {h b s : Int} (h0 : 0 < h) (hs : okS s = true) : LH (h * le s * ea b) (h * le s * ea (b + 9)) (h * 65 * ea s) b s = h := by
  unfold LH
  have e1 : h * le s * ea b = h * (1 * le s * ea b) := by rw [Int.one_mul, Int.mul_assoc]
  have e2 : h * le s * ea (b + 9) = h * (1 * le s * ea (b + 9)) := by rw [Int.one_mul, Int.mul_assoc]
  have e3 : h * 65 * ea s = h * (1 * 65 * ea s) := by rw [Int.one_mul, Int.mul_assoc]
  rw [e1, e2, e3]
  refine LHu_of h0 fun ⟨q1, q2, q3⟩ => ?_
  have nn := norm 1 b s hs
  rw [q1, q2, q3] at nn
  omega
theorem FS_congr {g g' : Int → Int → Option D} (h : ∀ b s, okB b = true → okS s = true → g b s = g' b s) : FS g = FS g' := by
  unfold FS
  have key : ∀ (l : List D) (f f' : D → Option D), (∀ d ∈ l, f d = f' d) → l.findSome? f = l.findSome? f' := fun l => by
    induction l with
    | nil => intro f f' _; rfl
    | cons d l ih =>
      intro f f' hf
      rw [List.findSome?_cons, List.findSome?_cons, hf d List.mem_cons_self, ih f f' fun d' hd => hf d' (List.mem_cons_of_mem _ hd)]
  refine key _ _ _ fun d hd => ?_
  obtain ⟨b, rfl, hb⟩ := ranged_b hd
  exact key _ _ _ fun d hd => by
    obtain ⟨s, rfl, hs⟩ := ranged_s hd
    exact h b s hb hs
theorem FS_none : FS (fun _ _ => none) = none := by decide +kernel
/-- a vector of a triple -/
def Hit (x y z h b s : Int) : Prop := 0 < h ∧ okS s = true ∧ x = h * le s * ea b ∧ y = h * le s * ea (b + 9) ∧ z = h * 65 * ea s
theorem Hit.root {x y z h b s : Int} (q : Hit x y z h b s) : ((PySem.Float64.isqrt (x * x + (y * y + (z * z + 0))).toNat : Nat) : Int) = 4225 * h ∧ x * x + (y * y + (z * z + 0)) = (4225 * h) * (4225 * h) := by
  obtain ⟨h0, hs, rfl, rfl, rfl⟩ := q
  have e := norm h b s hs
  rw [e]
  exact ⟨isq_int (by omega), rfl⟩
theorem same_told (x y z : Int) : TO x y z = LT x y z := by
  unfold TO LT
  by_cases k0 : x = 0 ∧ y = 0 ∧ z = 0
  · obtain ⟨rfl, rfl, rfl⟩ := k0
    rfl
  rw [if_neg k0]
  by_cases hit : ∃ h b s, Hit x y z h b s
  · obtain ⟨h, b, s, q⟩ := hit
    obtain ⟨r1, r2⟩ := q.root
    have h0 := q.1
    dsimp only
    rw [r1, r2, if_neg (by rw [not_or]; exact ⟨by simp, by omega⟩), if_neg (by omega), show 4225 * h / 4225 = h by omega]
    congr 1
    refine FS_congr fun b' s' hb' hs' => ?_
    unfold gP gL
    by_cases t : h * le s' * ea b' = x ∧ h * le s' * ea (b' + 9) = y ∧ h * 65 * ea s' = z
    · have e := LH_of (b := b') h0 hs'
      rw [t.1, t.2.1, t.2.2] at e
      rw [if_pos t, e, if_pos h0]
    · rw [if_neg t]
      by_cases p : 0 < LH x y z b' s'
      · exfalso
        obtain ⟨p1, p2, p3⟩ := LH_pos p
        have q' : Hit x y z (LH x y z b' s') b' s' := ⟨p, hs', p1, p2, p3⟩
        have r1' := q'.root.1
        rw [r1] at r1'
        have e : LH x y z b' s' = h := by omega
        rw [e] at p1 p2 p3
        exact t ⟨p1.symm, p2.symm, p3.symm⟩
      · rw [if_neg p]
  · have e1 : FS (gL x y z) = none := by
      rw [← FS_none]
      refine FS_congr fun b s _ hs => ?_
      unfold gL
      rw [if_neg fun p => ?_]
      obtain ⟨p1, p2, p3⟩ := LH_pos p
      exact hit ⟨_, b, s, p, hs, p1, p2, p3⟩
    rw [e1]
    dsimp only
    generalize hr : ((PySem.Float64.isqrt (x * x + (y * y + (z * z + 0))).toNat : Nat) : Int) = r
    have r0 : 0 ≤ r := by rw [← hr]; omega
    split
    · rfl
    · rename_i c
      rw [not_or] at c
      have c1 : r * r = x * x + (y * y + (z * z + 0)) := by simpa using c.1
      have c2 : r % 4225 = 0 := by simpa using c.2
      split
      · rename_i c3
        exfalso
        have : r = 0 := by omega
        rw [this] at c1
        exact k0 (sq0 c1.symm)
      · rename_i c3
        have e2 : FS (gP (r / 4225) x y z) = none := by
          rw [← FS_none]
          refine FS_congr fun b s _ hs => ?_
          unfold gP
          rw [if_neg fun t => ?_]
          exact hit ⟨r / 4225, b, s, by omega, hs, t.1.symm, t.2.1.symm, t.2.2.symm⟩
        rw [e2]
end L

namespace L
open MP
variable {n : Nat}
theorem ranged_at {lo : Int} {k i : Nat} (hl : i < (ranged lo k).length) : (ranged lo k)[i] = .int (lo + (i : Int)) := by simp [ranged]
theorem find_first {lo : Int} {k : Nat} {f : D → Option D} {x : Int} {d : D} (h0 : lo ≤ x) (h1 : x < lo + (k : Int)) (hx : f (.int x) = some d) (hb : ∀ y, lo ≤ y → y < x → f (.int y) = none) : (ranged lo k).findSome? f = some d := by
  rw [List.findSome?_eq_some_iff]
  obtain ⟨i, hi, rfl⟩ : ∃ i : Nat, i < k ∧ x = lo + (i : Int) := ⟨(x - lo).toNat, by omega, by omega⟩
  refine ⟨(ranged lo k).take i, .int (lo + (i : Int)), (ranged lo k).drop (i + 1), ?_, hx, fun y hy => ?_⟩
  · have hl : i < (ranged lo k).length := by rw [ranged_len]; exact hi
    have e : (ranged lo k)[i] = .int (lo + (i : Int)) := ranged_at hl
    rw [← e, List.getElem_cons_drop hl, List.take_append_drop]
  · obtain ⟨j, hj, rfl⟩ := List.mem_take_iff_getElem.mp hy
    rw [ranged_at]
    exact hb _ (by omega) (by omega)
theorem FS_first {g : Int → Int → Option D} {b s : Int} {d : D} (hb : okB b = true) (hs : okS s = true) (hit : g b s = some d) (before : ∀ b' s', okB b' = true → okS s' = true → (b' < b ∨ (b' = b ∧ s' < s)) → g b' s' = none) : FS g = some d := by
  unfold okB at hb
  unfold okS at hs
  simp only [Bool.and_eq_true, decide_eq_true_eq] at hb hs
  have hB : ∀ y : Int, 0 ≤ y → y ≤ 35 → okB y = true := fun y h1 h2 => by unfold okB; simp [h1, h2]
  have hS : ∀ y : Int, -9 ≤ y → y ≤ 9 → okS y = true := fun y h1 h2 => by unfold okS; simp [h1, h2]
  unfold FS
  refine find_first (x := b) hb.1 (by omega) ?_ fun y h1 h2 => ?_
  · show (ranged (-9) 19).findSome? (FI (g b)) = some d
    exact find_first (x := s) hs.1 (by omega) hit fun z h3 h4 => before b z (hB b hb.1 hb.2) (hS z h3 (by omega)) (.inr ⟨rfl, h4⟩)
  · show (ranged (-9) 19).findSome? (FI (g y)) = none
    rw [List.findSome?_eq_none_iff]
    intro z hz
    obtain ⟨s', rfl, hs'⟩ := ranged_s hz
    exact before y s' (hB y h1 (by omega)) hs' (.inl h2)
theorem inj_s (s s' : Int) (h : okS s = true) (h' : okS s' = true) (e : ea s' = ea s) : s' = s := by
  obtain ⟨k, hk, rfl⟩ := lowS s h
  obtain ⟨k', hk', rfl⟩ := lowS s' h'
  have : ∀ k < 19, ∀ k' < 19, ea ((k' : Nat) - 9) = ea ((k : Nat) - 9) → k' = k := by decide
  rw [this k hk k' hk' e]
theorem inj_b (b b' : Int) (h : okB b = true) (h' : okB b' = true) (e : ea b' = ea b) (e2 : ea (b' + 9) = ea (b + 9)) : b' = b := by
  obtain ⟨k, hk, rfl⟩ := low b h
  obtain ⟨k', hk', rfl⟩ := low b' h'
  have : ∀ k < 36, ∀ k' < 36, ea (k' : Nat) = ea (k : Nat) → ea ((k' : Nat) + 9) = ea ((k : Nat) + 9) → k' = k := by decide +kernel
  rw [this k hk k' hk' e e2]
theorem le_ne (s : Int) (h : okS s = true) (h1 : s ≠ 9) (h2 : s ≠ -9) : le s ≠ 0 := by
  obtain ⟨k, hk, rfl⟩ := lowS s h
  have : ∀ k < 19, k ≠ 18 → k ≠ 0 → le ((k : Nat) - 9) ≠ 0 := by decide
  exact this k hk (by omega) (by omega)
theorem le_9 (s : Int) (h : s = 9 ∨ s = -9) : le s = 0 := by rcases h with rfl | rfl <;> decide
def lst (h b s : Int) : D := if h = 0 then vc 0 0 0 else if s = 9 ∨ s = -9 then vc h 0 s else vc h b s
theorem TO_hit (h b s : Int) (h0 : 0 ≤ h) (hb : okB b = true) (hs : okS s = true) : TO (h * le s * ea b) (h * le s * ea (b + 9)) (h * 65 * ea s) = lst h b s := by
  unfold lst
  by_cases k0 : h = 0
  · subst k0
    rw [if_pos rfl]
    simp only [Int.zero_mul]
    rfl
  rw [if_neg k0]
  have q : Hit (h * le s * ea b) (h * le s * ea (b + 9)) (h * 65 * ea s) h b s := ⟨by omega, hs, rfl, rfl, rfl⟩
  obtain ⟨r1, r2⟩ := q.root
  unfold TO
  dsimp only
  rw [r1, r2, if_neg (by rw [not_or]; exact ⟨by simp, by omega⟩), if_neg (by omega), show 4225 * h / 4225 = h by omega]
  have c1 : ∀ u v : Int, h * 65 * u = h * 65 * v → u = v := fun u v e => Int.eq_of_mul_eq_mul_left (by omega) e
  have c2 : ∀ u v : Int, le s ≠ 0 → h * le s * u = h * le s * v → u = v := fun u v hl e => Int.eq_of_mul_eq_mul_left (by
    intro z
    rcases Int.mul_eq_zero.mp z with z | z
    · exact k0 z
    · exact hl z) e
  by_cases k9 : s = 9 ∨ s = -9
  · rw [if_pos k9]
    have hl := le_9 s k9
    have e : FS (gP h (h * le s * ea b) (h * le s * ea (b + 9)) (h * 65 * ea s)) = some (vc h 0 s) := by
      refine FS_first (b := 0) (by decide) hs ?_ fun b' s' hb' hs' lt => ?_
      · unfold gP
        rw [hl, if_pos ⟨by simp, by simp, rfl⟩]
      · unfold gP
        rw [if_neg fun t => ?_]
        have es := inj_s s s' hs hs' (c1 _ _ t.2.2)
        unfold okB at hb'
        simp only [Bool.and_eq_true, decide_eq_true_eq] at hb'
        omega
    rw [e]; rfl
  · rw [if_neg k9]
    have hl := le_ne s hs (fun z => k9 (.inl z)) (fun z => k9 (.inr z))
    have e : FS (gP h (h * le s * ea b) (h * le s * ea (b + 9)) (h * 65 * ea s)) = some (vc h b s) := by
      refine FS_first hb hs ?_ fun b' s' hb' hs' lt => ?_
      · unfold gP
        rw [if_pos ⟨rfl, rfl, rfl⟩]
      · unfold gP
        rw [if_neg fun t => ?_]
        have es := inj_s s s' hs hs' (c1 _ _ t.2.2)
        subst es
        have eb := inj_b b b' hb hb' (c2 _ _ hl t.1) (c2 _ _ hl t.2.1)
        omega
    rw [e]; rfl
theorem c_least (h b s : Int) : callF G (n + 1) 32 [.int h, .int b, .int s] = .ret (lst h (b % 36) s) := by
  have c_1 : ∀ {n : Nat} {as : List D}, callF G (n + 1) 32 as = runDef G (callF G n) d__law_least as := rfl
  unfold lst
  have a9 : ((if s < 0 then -s else s) = 9) ↔ (s = 9 ∨ s = -9) := by split <;> omega
  by_cases k0 : h = 0
  · subst k0
    simp -implicitDefEqProofs only [c_1, d__law_least, b__law_least, bind_ok, bind_exc, st_ok, st_exc, seq_nx, seq_rt, seq_bk, seq_ct, seq_exc, opt_s, lift_s, map_s, get_0, get_s, put_0, put_s, run_eq, fin_nx, fin_rt, fin_exc, d_un, d_own, f_own, d_non, f_non, er_non, d_bl, f_bl, er_bl, d_int, f_int, er_int, d_str, f_str, er_str, d_lst, f_lst, er_lst, d_tup, f_tup, er_tup, d_dct, f_dct, er_dct, d_scr, f_scr, er_scr, d_ty, f_ty, er_ty, d_cls, f_cls, er_cls, b1_con, b2_con, bL_con, b1_glb, b2_glb, bL_glb, b1_bin, b2_bin, bL_bin, b1_neg, b2_neg, bL_neg, b1_not, b2_not, bL_not, b1_and, b2_and, bL_and, b1_or, b2_or, bL_or, b1_cmp, b2_cmp, bL_cmp, b1_chain, b2_chain, bL_chain, b1_ite, b2_ite, bL_ite, b1_tup, b2_tup, bL_tup, b1_lst, b2_lst, bL_lst, b1_dct, b2_dct, bL_dct, b1_idx, b2_idx, bL_idx, b1_slc, b2_slc, bL_slc, b1_call, b2_call, bL_call, b1_bi, b2_bi, bL_bi, b1_comp, b2_comp, bL_comp, b1_pop, b2_pop, bL_pop, b1_meth, b2_meth, bL_meth, b1_efld, b2_efld, bL_efld, b1_eisi, b2_eisi, bL_eisi, b1_var, b2_var, bL_var, isi_int_non, isi_int_bl, isi_int_int, isi_int_str, isi_int_lst, isi_int_tup, isi_int_dct, isi_bool_non, isi_bool_bl, isi_bool_int, isi_bool_str, isi_bool_lst, isi_bool_tup, isi_bool_dct, isi_str_non, isi_str_bl, isi_str_int, isi_str_str, isi_str_lst, isi_str_tup, isi_str_dct, isi_list_non, isi_list_bl, isi_list_int, isi_list_str, isi_list_lst, isi_list_tup, isi_list_dct, isi_tuple_non, isi_tuple_bl, isi_tuple_int, isi_tuple_str, isi_tuple_lst, isi_tuple_tup, isi_tuple_dct, isi_dict_non, isi_dict_bl, isi_dict_int, isi_dict_str, isi_dict_lst, isi_dict_tup, isi_dict_dct, bf_int, bf_intb, bf_abs, bf_lenl, bf_lent, bf_lens, bf_lend, bf_min2, bf_max2, bf_sum, bf_tup, bf_tupt, bf_lst, bf_lstt, bo_add, bo_sub, bo_mul, bo_mod, bo_fdiv, bo_pow, bo_addl, co_lt, co_le, co_gt, co_ge, co_eqi, co_nei, co_eqs, eq_strs, co_is, co_isnot, ix_l, ix_t, tr_bl, tr_int, at_nat, sm_ni, sm_nn, sm_ti, sm_tt, sm_nt, sm_ns, sm_ts, sm_bb, sm_bn, sm_nl, sm_tl, sm_nb, sm_nd, sm_td, ranged_len, lim_lit, asgs_nil, asgs_cons, pat_1, pat_t, forK_nx, forK_ct, forK_bk, forK_rt, forK_exc, forL_nil, forL_cons, it_l, it_t, it_s, ol_l, ow_, mut_l, mut_d, fr_lst, fr_comp, fr_bin, fr_dct, sk_nx, sk_rt, sk_bk, sk_ct, sk_exc, ik_ok, ik_exc, fx_nil, fx_cons, fy_nx, fy_ct, fy_bk, fy_rt, fy_exc, tk_nx, tk_rt, tk_bk, tk_ct, tk_e0, tk_e1, w_skip, w_seq, w_set, w_setO, w_unpack, ak_, w_app, w_put, ps_l, ps_d, pl_i, w_aug, ag_add, ag_sub, w_expr, rv_fz, rv_own, w_ret_var, w_retN, w_ite, w_for, w_while, w_brk, w_cnt, w_raise, w_try, w_frz, e_con, e_var, e_glb, e_bin, e_neg, e_not, e_and, e_or, e_cmp, e_chain, e_ite, e_tup, e_lst, e_dct, e_idx, e_slc, ck_ret, ck_exc, e_call, e_bi1, e_bi2, e_comp, lx_nil, e_efld, e_eisi, nil_e, sub_n, sub_s, gone_rt, gone_nx, hush_nx, hush_rt, lt_lit, xr_con, xr_glb, xr_bin, xr_neg, xr_not, xr_and, xr_or, xr_cmp, xr_chain, xr_ite, xr_tup, xr_lst, xr_dct, xr_idx, xr_slc, xr_call, xr_bi, xr_comp, xr_pop, xr_efld, xr_eisi, at_k0, at_k1, at_k2, at_k3, at_k4, at_k5, at_k6, at_k7, at_k8, at_k9, at_k10, at_k11, at_k12, at_k13, at_k14, at_k15, at_k16, at_k17, at_k18, at_k19, at_k20, or_s, lx_cons, ly_some, ly_none, tx_, op_nil, op_cons, we_nil, we_cons, sp_nil, sp_cons, rp_nil, rp_cons, rg_0, rg_1, rg_2, rg_3, rg_4, rg_5, bls_n, bls_c, ints_n, ints_c, bf_all, bf_any, bf_gcd, bm_var, bn_, bm_lst, e_meth, my_ixl, mf_ix, xr_meth, bf_isqrt, bf_lr1, bf_lr2, bf_min1, bf_max1, mk_c, xk_c, asg_nil, evL, evC, evP, evI, List.map, List.length_cons, List.length_nil, List.cons_append, List.nil_append, List.replicate, if_true, reduceIte, Nat.sub_self, Nat.reduceAdd, Nat.reduceSub, Nat.reduceLT, Bool.false_eq_true, if_false, Bool.not_false, Bool.not_true, Bool.false_and, Bool.true_and, Option.isNone_some, Option.map_some, Nat.reduceEqDiff, Nat.zero_add, Nat.add_zero, Nat.reduceLeDiff, Int.reduceLT, Int.reduceLE, Int.reduceMod, Int.reduceAdd, Int.reduceSub, Int.reduceNeg, Int.reduceMul, Int.reduceBEq, decide_true, decide_false, bne_self_eq_false, BEq.rfl, and_self, Bool.false_or, Bool.true_or, Bool.or_false, Bool.or_true, Option.bind_some, Int.zero_add, Int.toNat_natCast, Int.cast_ofNat_Int, Int.natCast_zero, Int.natCast_one, Int.reduceToNat, Int.reducePow, List.all_cons, List.all_nil, List.any_cons, List.any_nil, id, Bool.not_not, List.length_map, Bool.and_true, Bool.and_false]
  · have k0' : (h == 0) = false := by simpa using k0
    by_cases k9 : s = 9 ∨ s = -9
    · have e : ((if s < 0 then -s else s) == 9) = true := by rw [beq_iff_eq]; exact a9.mpr k9
      simp -implicitDefEqProofs only [c_1, d__law_least, b__law_least, k0', e, bind_ok, bind_exc, st_ok, st_exc, seq_nx, seq_rt, seq_bk, seq_ct, seq_exc, opt_s, lift_s, map_s, get_0, get_s, put_0, put_s, run_eq, fin_nx, fin_rt, fin_exc, d_un, d_own, f_own, d_non, f_non, er_non, d_bl, f_bl, er_bl, d_int, f_int, er_int, d_str, f_str, er_str, d_lst, f_lst, er_lst, d_tup, f_tup, er_tup, d_dct, f_dct, er_dct, d_scr, f_scr, er_scr, d_ty, f_ty, er_ty, d_cls, f_cls, er_cls, b1_con, b2_con, bL_con, b1_glb, b2_glb, bL_glb, b1_bin, b2_bin, bL_bin, b1_neg, b2_neg, bL_neg, b1_not, b2_not, bL_not, b1_and, b2_and, bL_and, b1_or, b2_or, bL_or, b1_cmp, b2_cmp, bL_cmp, b1_chain, b2_chain, bL_chain, b1_ite, b2_ite, bL_ite, b1_tup, b2_tup, bL_tup, b1_lst, b2_lst, bL_lst, b1_dct, b2_dct, bL_dct, b1_idx, b2_idx, bL_idx, b1_slc, b2_slc, bL_slc, b1_call, b2_call, bL_call, b1_bi, b2_bi, bL_bi, b1_comp, b2_comp, bL_comp, b1_pop, b2_pop, bL_pop, b1_meth, b2_meth, bL_meth, b1_efld, b2_efld, bL_efld, b1_eisi, b2_eisi, bL_eisi, b1_var, b2_var, bL_var, isi_int_non, isi_int_bl, isi_int_int, isi_int_str, isi_int_lst, isi_int_tup, isi_int_dct, isi_bool_non, isi_bool_bl, isi_bool_int, isi_bool_str, isi_bool_lst, isi_bool_tup, isi_bool_dct, isi_str_non, isi_str_bl, isi_str_int, isi_str_str, isi_str_lst, isi_str_tup, isi_str_dct, isi_list_non, isi_list_bl, isi_list_int, isi_list_str, isi_list_lst, isi_list_tup, isi_list_dct, isi_tuple_non, isi_tuple_bl, isi_tuple_int, isi_tuple_str, isi_tuple_lst, isi_tuple_tup, isi_tuple_dct, isi_dict_non, isi_dict_bl, isi_dict_int, isi_dict_str, isi_dict_lst, isi_dict_tup, isi_dict_dct, bf_int, bf_intb, bf_abs, bf_lenl, bf_lent, bf_lens, bf_lend, bf_min2, bf_max2, bf_sum, bf_tup, bf_tupt, bf_lst, bf_lstt, bo_add, bo_sub, bo_mul, bo_mod, bo_fdiv, bo_pow, bo_addl, co_lt, co_le, co_gt, co_ge, co_eqi, co_nei, co_eqs, eq_strs, co_is, co_isnot, ix_l, ix_t, tr_bl, tr_int, at_nat, sm_ni, sm_nn, sm_ti, sm_tt, sm_nt, sm_ns, sm_ts, sm_bb, sm_bn, sm_nl, sm_tl, sm_nb, sm_nd, sm_td, ranged_len, lim_lit, asgs_nil, asgs_cons, pat_1, pat_t, forK_nx, forK_ct, forK_bk, forK_rt, forK_exc, forL_nil, forL_cons, it_l, it_t, it_s, ol_l, ow_, mut_l, mut_d, fr_lst, fr_comp, fr_bin, fr_dct, sk_nx, sk_rt, sk_bk, sk_ct, sk_exc, ik_ok, ik_exc, fx_nil, fx_cons, fy_nx, fy_ct, fy_bk, fy_rt, fy_exc, tk_nx, tk_rt, tk_bk, tk_ct, tk_e0, tk_e1, w_skip, w_seq, w_set, w_setO, w_unpack, ak_, w_app, w_put, ps_l, ps_d, pl_i, w_aug, ag_add, ag_sub, w_expr, rv_fz, rv_own, w_ret_var, w_retN, w_ite, w_for, w_while, w_brk, w_cnt, w_raise, w_try, w_frz, e_con, e_var, e_glb, e_bin, e_neg, e_not, e_and, e_or, e_cmp, e_chain, e_ite, e_tup, e_lst, e_dct, e_idx, e_slc, ck_ret, ck_exc, e_call, e_bi1, e_bi2, e_comp, lx_nil, e_efld, e_eisi, nil_e, sub_n, sub_s, gone_rt, gone_nx, hush_nx, hush_rt, lt_lit, xr_con, xr_glb, xr_bin, xr_neg, xr_not, xr_and, xr_or, xr_cmp, xr_chain, xr_ite, xr_tup, xr_lst, xr_dct, xr_idx, xr_slc, xr_call, xr_bi, xr_comp, xr_pop, xr_efld, xr_eisi, at_k0, at_k1, at_k2, at_k3, at_k4, at_k5, at_k6, at_k7, at_k8, at_k9, at_k10, at_k11, at_k12, at_k13, at_k14, at_k15, at_k16, at_k17, at_k18, at_k19, at_k20, or_s, lx_cons, ly_some, ly_none, tx_, op_nil, op_cons, we_nil, we_cons, sp_nil, sp_cons, rp_nil, rp_cons, rg_0, rg_1, rg_2, rg_3, rg_4, rg_5, bls_n, bls_c, ints_n, ints_c, bf_all, bf_any, bf_gcd, bm_var, bn_, bm_lst, e_meth, my_ixl, mf_ix, xr_meth, bf_isqrt, bf_lr1, bf_lr2, bf_min1, bf_max1, mk_c, xk_c, asg_nil, evL, evC, evP, evI, List.map, List.length_cons, List.length_nil, List.cons_append, List.nil_append, List.replicate, if_true, reduceIte, Nat.sub_self, Nat.reduceAdd, Nat.reduceSub, Nat.reduceLT, Bool.false_eq_true, if_false, Bool.not_false, Bool.not_true, Bool.false_and, Bool.true_and, Option.isNone_some, Option.map_some, Nat.reduceEqDiff, Nat.zero_add, Nat.add_zero, Nat.reduceLeDiff, Int.reduceLT, Int.reduceLE, Int.reduceMod, Int.reduceAdd, Int.reduceSub, Int.reduceNeg, Int.reduceMul, Int.reduceBEq, decide_true, decide_false, bne_self_eq_false, BEq.rfl, and_self, Bool.false_or, Bool.true_or, Bool.or_false, Bool.or_true, Option.bind_some, Int.zero_add, Int.toNat_natCast, Int.cast_ofNat_Int, Int.natCast_zero, Int.natCast_one, Int.reduceToNat, Int.reducePow, List.all_cons, List.all_nil, List.any_cons, List.any_nil, id, Bool.not_not, List.length_map, Bool.and_true, Bool.and_false]
      simp [k0, k9]
    · have e : ((if s < 0 then -s else s) == 9) = false := by rw [beq_eq_false_iff_ne]; exact fun z => k9 (a9.mp z)
      simp -implicitDefEqProofs only [c_1, d__law_least, b__law_least, k0', e, bind_ok, bind_exc, st_ok, st_exc, seq_nx, seq_rt, seq_bk, seq_ct, seq_exc, opt_s, lift_s, map_s, get_0, get_s, put_0, put_s, run_eq, fin_nx, fin_rt, fin_exc, d_un, d_own, f_own, d_non, f_non, er_non, d_bl, f_bl, er_bl, d_int, f_int, er_int, d_str, f_str, er_str, d_lst, f_lst, er_lst, d_tup, f_tup, er_tup, d_dct, f_dct, er_dct, d_scr, f_scr, er_scr, d_ty, f_ty, er_ty, d_cls, f_cls, er_cls, b1_con, b2_con, bL_con, b1_glb, b2_glb, bL_glb, b1_bin, b2_bin, bL_bin, b1_neg, b2_neg, bL_neg, b1_not, b2_not, bL_not, b1_and, b2_and, bL_and, b1_or, b2_or, bL_or, b1_cmp, b2_cmp, bL_cmp, b1_chain, b2_chain, bL_chain, b1_ite, b2_ite, bL_ite, b1_tup, b2_tup, bL_tup, b1_lst, b2_lst, bL_lst, b1_dct, b2_dct, bL_dct, b1_idx, b2_idx, bL_idx, b1_slc, b2_slc, bL_slc, b1_call, b2_call, bL_call, b1_bi, b2_bi, bL_bi, b1_comp, b2_comp, bL_comp, b1_pop, b2_pop, bL_pop, b1_meth, b2_meth, bL_meth, b1_efld, b2_efld, bL_efld, b1_eisi, b2_eisi, bL_eisi, b1_var, b2_var, bL_var, isi_int_non, isi_int_bl, isi_int_int, isi_int_str, isi_int_lst, isi_int_tup, isi_int_dct, isi_bool_non, isi_bool_bl, isi_bool_int, isi_bool_str, isi_bool_lst, isi_bool_tup, isi_bool_dct, isi_str_non, isi_str_bl, isi_str_int, isi_str_str, isi_str_lst, isi_str_tup, isi_str_dct, isi_list_non, isi_list_bl, isi_list_int, isi_list_str, isi_list_lst, isi_list_tup, isi_list_dct, isi_tuple_non, isi_tuple_bl, isi_tuple_int, isi_tuple_str, isi_tuple_lst, isi_tuple_tup, isi_tuple_dct, isi_dict_non, isi_dict_bl, isi_dict_int, isi_dict_str, isi_dict_lst, isi_dict_tup, isi_dict_dct, bf_int, bf_intb, bf_abs, bf_lenl, bf_lent, bf_lens, bf_lend, bf_min2, bf_max2, bf_sum, bf_tup, bf_tupt, bf_lst, bf_lstt, bo_add, bo_sub, bo_mul, bo_mod, bo_fdiv, bo_pow, bo_addl, co_lt, co_le, co_gt, co_ge, co_eqi, co_nei, co_eqs, eq_strs, co_is, co_isnot, ix_l, ix_t, tr_bl, tr_int, at_nat, sm_ni, sm_nn, sm_ti, sm_tt, sm_nt, sm_ns, sm_ts, sm_bb, sm_bn, sm_nl, sm_tl, sm_nb, sm_nd, sm_td, ranged_len, lim_lit, asgs_nil, asgs_cons, pat_1, pat_t, forK_nx, forK_ct, forK_bk, forK_rt, forK_exc, forL_nil, forL_cons, it_l, it_t, it_s, ol_l, ow_, mut_l, mut_d, fr_lst, fr_comp, fr_bin, fr_dct, sk_nx, sk_rt, sk_bk, sk_ct, sk_exc, ik_ok, ik_exc, fx_nil, fx_cons, fy_nx, fy_ct, fy_bk, fy_rt, fy_exc, tk_nx, tk_rt, tk_bk, tk_ct, tk_e0, tk_e1, w_skip, w_seq, w_set, w_setO, w_unpack, ak_, w_app, w_put, ps_l, ps_d, pl_i, w_aug, ag_add, ag_sub, w_expr, rv_fz, rv_own, w_ret_var, w_retN, w_ite, w_for, w_while, w_brk, w_cnt, w_raise, w_try, w_frz, e_con, e_var, e_glb, e_bin, e_neg, e_not, e_and, e_or, e_cmp, e_chain, e_ite, e_tup, e_lst, e_dct, e_idx, e_slc, ck_ret, ck_exc, e_call, e_bi1, e_bi2, e_comp, lx_nil, e_efld, e_eisi, nil_e, sub_n, sub_s, gone_rt, gone_nx, hush_nx, hush_rt, lt_lit, xr_con, xr_glb, xr_bin, xr_neg, xr_not, xr_and, xr_or, xr_cmp, xr_chain, xr_ite, xr_tup, xr_lst, xr_dct, xr_idx, xr_slc, xr_call, xr_bi, xr_comp, xr_pop, xr_efld, xr_eisi, at_k0, at_k1, at_k2, at_k3, at_k4, at_k5, at_k6, at_k7, at_k8, at_k9, at_k10, at_k11, at_k12, at_k13, at_k14, at_k15, at_k16, at_k17, at_k18, at_k19, at_k20, or_s, lx_cons, ly_some, ly_none, tx_, op_nil, op_cons, we_nil, we_cons, sp_nil, sp_cons, rp_nil, rp_cons, rg_0, rg_1, rg_2, rg_3, rg_4, rg_5, bls_n, bls_c, ints_n, ints_c, bf_all, bf_any, bf_gcd, bm_var, bn_, bm_lst, e_meth, my_ixl, mf_ix, xr_meth, bf_isqrt, bf_lr1, bf_lr2, bf_min1, bf_max1, mk_c, xk_c, asg_nil, evL, evC, evP, evI, List.map, List.length_cons, List.length_nil, List.cons_append, List.nil_append, List.replicate, if_true, reduceIte, Nat.sub_self, Nat.reduceAdd, Nat.reduceSub, Nat.reduceLT, Bool.false_eq_true, if_false, Bool.not_false, Bool.not_true, Bool.false_and, Bool.true_and, Option.isNone_some, Option.map_some, Nat.reduceEqDiff, Nat.zero_add, Nat.add_zero, Nat.reduceLeDiff, Int.reduceLT, Int.reduceLE, Int.reduceMod, Int.reduceAdd, Int.reduceSub, Int.reduceNeg, Int.reduceMul, Int.reduceBEq, decide_true, decide_false, bne_self_eq_false, BEq.rfl, and_self, Bool.false_or, Bool.true_or, Bool.or_false, Bool.or_true, Option.bind_some, Int.zero_add, Int.toNat_natCast, Int.cast_ofNat_Int, Int.natCast_zero, Int.natCast_one, Int.reduceToNat, Int.reducePow, List.all_cons, List.all_nil, List.any_cons, List.any_nil, id, Bool.not_not, List.length_map, Bool.and_true, Bool.and_false]
      simp [k0, k9]
theorem same_vc (a b c : Int) : callF G (n + 3) 26 [vc a b c, vc a b c] = .ret (.bl true) := c_same 2 _ rfl n
theorem same_lst (h b s : Int) : callF G (n + 3) 26 [lst h b s, lst h b s] = .ret (.bl true) := by
  unfold lst
  split
  · exact same_vc _ _ _
  · split <;> exact same_vc _ _ _
theorem lst_err (h b s : Int) : (lst h b s).isErr = false := by
  unfold lst
  split
  · rfl
  · split <;> rfl
theorem neg_b (b : Int) : ea (b + 18) = -ea b := by
  have k : ∀ k < 36, E.getD ((k + 18) % 36) 0 = -E.getD k 0 := by decide
  unfold ea
  have e : ((b + 18) % 36).toNat = ((b % 36).toNat + 18) % 36 := by omega
  rw [e]
  exact k _ (by omega)
theorem neg_s (s : Int) (h : okS s = true) : ea (-s) = -ea s ∧ le (-s) = le s ∧ okS (-s) = true := by
  obtain ⟨k, hk, rfl⟩ := lowS s h
  have : ∀ k < 19, ea (-((k : Nat) - 9)) = -ea ((k : Nat) - 9) ∧ le (-((k : Nat) - 9)) = le ((k : Nat) - 9) ∧ okS (-((k : Nat) - 9)) = true := by decide
  exact this k hk
theorem ea_mod (b : Int) : ea (b % 36) = ea b := by
  unfold ea; rw [Int.emod_emod]
theorem ea_mod9 (b : Int) : ea (b % 36 + 9) = ea (b + 9) := by
  unfold ea
  have : (b % 36 + 9) % 36 = (b + 9) % 36 := by omega
  rw [this]
theorem c_there (h b s : Int) (h0 : 0 ≤ h) (h1 : sm 100 h) (hb : okB b = true) (hs : okS s = true) : callF G (n + 8) 36 [vc h b s] = .ret (.bl true) := by
  have c_1 : ∀ {n : Nat} {as : List D}, callF G (n + 1) 36 as = runDef G (callF G n) d__law_there_and_back as := rfl
  have lv := c_law_vector (n := n + 5) h b s (h1.mono (by decide))
  have sx : sm 140 (h * le s * ea b) := ((h1.mul (le_sm s)).mul (ea_sm b)).mono (by decide)
  have sy : sm 140 (h * le s * ea (b + 9)) := ((h1.mul (le_sm s)).mul (ea_sm (b + 9))).mono (by decide)
  have sz : sm 140 (h * 65 * ea s) := ((h1.mul (lit 65 7)).mul (ea_sm s)).mono (by decide)
  have t1 := c_triple_of (n := n + 3) _ _ _ sx sy sz
  have sn : ∀ {i : Int}, sm 140 i → sm 140 (-i) := fun h => by unfold sm at *; rw [Int.natAbs_neg]; exact h
  have t2 := c_triple_of (n := n + 3) _ _ _ (sn sx) (sn sy) (sn sz)
  rw [TO_hit h b s h0 hb hs] at t1
  have n1 : -(h * le s * ea b) = h * le (-s) * ea ((b + 18) % 36) := by
    rw [(neg_s s hs).2.1, ea_mod, neg_b]; grind
  have n2 : -(h * le s * ea (b + 9)) = h * le (-s) * ea ((b + 18) % 36 + 9) := by
    rw [(neg_s s hs).2.1, ea_mod9, show b + 18 + 9 = b + 9 + 18 by omega, neg_b]; grind
  have n3 : -(h * 65 * ea s) = h * 65 * ea (-s) := by
    rw [(neg_s s hs).1]; grind
  have e2 : TO (-(h * le s * ea b)) (-(h * le s * ea (b + 9))) (-(h * 65 * ea s)) = lst h ((b + 18) % 36) (-s) := by
    rw [n1, n2, n3]
    exact TO_hit h _ _ h0 (by unfold okB; simp; omega) (neg_s s hs).2.2
  rw [e2] at t2
  have l1 := c_least (n := n + 6) h b s
  have e1 : b % 36 = b := by unfold okB at hb; simp only [Bool.and_eq_true, decide_eq_true_eq] at hb; omega
  rw [e1] at l1
  have l2 := c_least (n := n + 6) h (b + 18) (-s)
  have s1 := same_lst (n := n + 4) h b s
  have s2 := same_lst (n := n + 4) h ((b + 18) % 36) (-s)
  generalize hx : h * le s * ea b = x at *
  generalize hy : h * le s * ea (b + 9) = y at *
  generalize hz : h * 65 * ea s = z at *
  by_cases big : 9999 < h
  · simp -implicitDefEqProofs only [c_1, d__law_there_and_back, b__law_there_and_back, lv, t1, t2, l1, l2, s1, s2, lst_err, gt_iff_lt, big, bind_ok, bind_exc, st_ok, st_exc, seq_nx, seq_rt, seq_bk, seq_ct, seq_exc, opt_s, lift_s, map_s, get_0, get_s, put_0, put_s, run_eq, fin_nx, fin_rt, fin_exc, d_un, d_own, f_own, d_non, f_non, er_non, d_bl, f_bl, er_bl, d_int, f_int, er_int, d_str, f_str, er_str, d_lst, f_lst, er_lst, d_tup, f_tup, er_tup, d_dct, f_dct, er_dct, d_scr, f_scr, er_scr, d_ty, f_ty, er_ty, d_cls, f_cls, er_cls, b1_con, b2_con, bL_con, b1_glb, b2_glb, bL_glb, b1_bin, b2_bin, bL_bin, b1_neg, b2_neg, bL_neg, b1_not, b2_not, bL_not, b1_and, b2_and, bL_and, b1_or, b2_or, bL_or, b1_cmp, b2_cmp, bL_cmp, b1_chain, b2_chain, bL_chain, b1_ite, b2_ite, bL_ite, b1_tup, b2_tup, bL_tup, b1_lst, b2_lst, bL_lst, b1_dct, b2_dct, bL_dct, b1_idx, b2_idx, bL_idx, b1_slc, b2_slc, bL_slc, b1_call, b2_call, bL_call, b1_bi, b2_bi, bL_bi, b1_comp, b2_comp, bL_comp, b1_pop, b2_pop, bL_pop, b1_meth, b2_meth, bL_meth, b1_efld, b2_efld, bL_efld, b1_eisi, b2_eisi, bL_eisi, b1_var, b2_var, bL_var, isi_int_non, isi_int_bl, isi_int_int, isi_int_str, isi_int_lst, isi_int_tup, isi_int_dct, isi_bool_non, isi_bool_bl, isi_bool_int, isi_bool_str, isi_bool_lst, isi_bool_tup, isi_bool_dct, isi_str_non, isi_str_bl, isi_str_int, isi_str_str, isi_str_lst, isi_str_tup, isi_str_dct, isi_list_non, isi_list_bl, isi_list_int, isi_list_str, isi_list_lst, isi_list_tup, isi_list_dct, isi_tuple_non, isi_tuple_bl, isi_tuple_int, isi_tuple_str, isi_tuple_lst, isi_tuple_tup, isi_tuple_dct, isi_dict_non, isi_dict_bl, isi_dict_int, isi_dict_str, isi_dict_lst, isi_dict_tup, isi_dict_dct, bf_int, bf_intb, bf_abs, bf_lenl, bf_lent, bf_lens, bf_lend, bf_min2, bf_max2, bf_sum, bf_tup, bf_tupt, bf_lst, bf_lstt, bo_add, bo_sub, bo_mul, bo_mod, bo_fdiv, bo_pow, bo_addl, co_lt, co_le, co_gt, co_ge, co_eqi, co_nei, co_eqs, eq_strs, co_is, co_isnot, ix_l, ix_t, tr_bl, tr_int, at_nat, sm_ni, sm_nn, sm_ti, sm_tt, sm_nt, sm_ns, sm_ts, sm_bb, sm_bn, sm_nl, sm_tl, sm_nb, sm_nd, sm_td, ranged_len, lim_lit, asgs_nil, asgs_cons, pat_1, pat_t, forK_nx, forK_ct, forK_bk, forK_rt, forK_exc, forL_nil, forL_cons, it_l, it_t, it_s, ol_l, ow_, mut_l, mut_d, fr_lst, fr_comp, fr_bin, fr_dct, sk_nx, sk_rt, sk_bk, sk_ct, sk_exc, ik_ok, ik_exc, fx_nil, fx_cons, fy_nx, fy_ct, fy_bk, fy_rt, fy_exc, tk_nx, tk_rt, tk_bk, tk_ct, tk_e0, tk_e1, w_skip, w_seq, w_set, w_setO, w_unpack, ak_, w_app, w_put, ps_l, ps_d, pl_i, w_aug, ag_add, ag_sub, w_expr, rv_fz, rv_own, w_ret_var, w_retN, w_ite, w_for, w_while, w_brk, w_cnt, w_raise, w_try, w_frz, e_con, e_var, e_glb, e_bin, e_neg, e_not, e_and, e_or, e_cmp, e_chain, e_ite, e_tup, e_lst, e_dct, e_idx, e_slc, ck_ret, ck_exc, e_call, e_bi1, e_bi2, e_comp, lx_nil, e_efld, e_eisi, nil_e, sub_n, sub_s, gone_rt, gone_nx, hush_nx, hush_rt, lt_lit, xr_con, xr_glb, xr_bin, xr_neg, xr_not, xr_and, xr_or, xr_cmp, xr_chain, xr_ite, xr_tup, xr_lst, xr_dct, xr_idx, xr_slc, xr_call, xr_bi, xr_comp, xr_pop, xr_efld, xr_eisi, at_k0, at_k1, at_k2, at_k3, at_k4, at_k5, at_k6, at_k7, at_k8, at_k9, at_k10, at_k11, at_k12, at_k13, at_k14, at_k15, at_k16, at_k17, at_k18, at_k19, at_k20, or_s, lx_cons, ly_some, ly_none, tx_, op_nil, op_cons, we_nil, we_cons, sp_nil, sp_cons, rp_nil, rp_cons, rg_0, rg_1, rg_2, rg_3, rg_4, rg_5, bls_n, bls_c, ints_n, ints_c, bf_all, bf_any, bf_gcd, bm_var, bn_, bm_lst, e_meth, my_ixl, mf_ix, xr_meth, bf_isqrt, bf_lr1, bf_lr2, bf_min1, bf_max1, mk_c, xk_c, asg_nil, evL, evC, evP, evI, List.map, List.length_cons, List.length_nil, List.cons_append, List.nil_append, List.replicate, if_true, reduceIte, Nat.sub_self, Nat.reduceAdd, Nat.reduceSub, Nat.reduceLT, Bool.false_eq_true, if_false, Bool.not_false, Bool.not_true, Bool.false_and, Bool.true_and, Option.isNone_some, Option.map_some, Nat.reduceEqDiff, Nat.zero_add, Nat.add_zero, Nat.reduceLeDiff, Int.reduceLT, Int.reduceLE, Int.reduceMod, Int.reduceAdd, Int.reduceSub, Int.reduceNeg, Int.reduceMul, Int.reduceBEq, decide_true, decide_false, bne_self_eq_false, BEq.rfl, and_self, Bool.false_or, Bool.true_or, Bool.or_false, Bool.or_true, Option.bind_some, Int.zero_add, Int.toNat_natCast, Int.cast_ofNat_Int, Int.natCast_zero, Int.natCast_one, Int.reduceToNat, Int.reducePow, List.all_cons, List.all_nil, List.any_cons, List.any_nil, id, Bool.not_not, List.length_map, Bool.and_true, Bool.and_false]
  · have bx := c_box (n := n) h b s h0 (by omega) hb hs
    rw [hx, hy, hz] at bx
    have s3 : callF G (n + 7) 26 [.tup [.tup [.int x, .int x], .tup [.int y, .int y], .tup [.int z, .int z]], .tup [.tup [.int x, .int x], .tup [.int y, .int y], .tup [.int z, .int z]]] = .ret (.bl true) := c_same 2 _ rfl (n + 4)
    simp -implicitDefEqProofs only [c_1, d__law_there_and_back, b__law_there_and_back, lv, t1, t2, l1, l2, s1, s2, lst_err, gt_iff_lt, big, bx, s3, bind_ok, bind_exc, st_ok, st_exc, seq_nx, seq_rt, seq_bk, seq_ct, seq_exc, opt_s, lift_s, map_s, get_0, get_s, put_0, put_s, run_eq, fin_nx, fin_rt, fin_exc, d_un, d_own, f_own, d_non, f_non, er_non, d_bl, f_bl, er_bl, d_int, f_int, er_int, d_str, f_str, er_str, d_lst, f_lst, er_lst, d_tup, f_tup, er_tup, d_dct, f_dct, er_dct, d_scr, f_scr, er_scr, d_ty, f_ty, er_ty, d_cls, f_cls, er_cls, b1_con, b2_con, bL_con, b1_glb, b2_glb, bL_glb, b1_bin, b2_bin, bL_bin, b1_neg, b2_neg, bL_neg, b1_not, b2_not, bL_not, b1_and, b2_and, bL_and, b1_or, b2_or, bL_or, b1_cmp, b2_cmp, bL_cmp, b1_chain, b2_chain, bL_chain, b1_ite, b2_ite, bL_ite, b1_tup, b2_tup, bL_tup, b1_lst, b2_lst, bL_lst, b1_dct, b2_dct, bL_dct, b1_idx, b2_idx, bL_idx, b1_slc, b2_slc, bL_slc, b1_call, b2_call, bL_call, b1_bi, b2_bi, bL_bi, b1_comp, b2_comp, bL_comp, b1_pop, b2_pop, bL_pop, b1_meth, b2_meth, bL_meth, b1_efld, b2_efld, bL_efld, b1_eisi, b2_eisi, bL_eisi, b1_var, b2_var, bL_var, isi_int_non, isi_int_bl, isi_int_int, isi_int_str, isi_int_lst, isi_int_tup, isi_int_dct, isi_bool_non, isi_bool_bl, isi_bool_int, isi_bool_str, isi_bool_lst, isi_bool_tup, isi_bool_dct, isi_str_non, isi_str_bl, isi_str_int, isi_str_str, isi_str_lst, isi_str_tup, isi_str_dct, isi_list_non, isi_list_bl, isi_list_int, isi_list_str, isi_list_lst, isi_list_tup, isi_list_dct, isi_tuple_non, isi_tuple_bl, isi_tuple_int, isi_tuple_str, isi_tuple_lst, isi_tuple_tup, isi_tuple_dct, isi_dict_non, isi_dict_bl, isi_dict_int, isi_dict_str, isi_dict_lst, isi_dict_tup, isi_dict_dct, bf_int, bf_intb, bf_abs, bf_lenl, bf_lent, bf_lens, bf_lend, bf_min2, bf_max2, bf_sum, bf_tup, bf_tupt, bf_lst, bf_lstt, bo_add, bo_sub, bo_mul, bo_mod, bo_fdiv, bo_pow, bo_addl, co_lt, co_le, co_gt, co_ge, co_eqi, co_nei, co_eqs, eq_strs, co_is, co_isnot, ix_l, ix_t, tr_bl, tr_int, at_nat, sm_ni, sm_nn, sm_ti, sm_tt, sm_nt, sm_ns, sm_ts, sm_bb, sm_bn, sm_nl, sm_tl, sm_nb, sm_nd, sm_td, ranged_len, lim_lit, asgs_nil, asgs_cons, pat_1, pat_t, forK_nx, forK_ct, forK_bk, forK_rt, forK_exc, forL_nil, forL_cons, it_l, it_t, it_s, ol_l, ow_, mut_l, mut_d, fr_lst, fr_comp, fr_bin, fr_dct, sk_nx, sk_rt, sk_bk, sk_ct, sk_exc, ik_ok, ik_exc, fx_nil, fx_cons, fy_nx, fy_ct, fy_bk, fy_rt, fy_exc, tk_nx, tk_rt, tk_bk, tk_ct, tk_e0, tk_e1, w_skip, w_seq, w_set, w_setO, w_unpack, ak_, w_app, w_put, ps_l, ps_d, pl_i, w_aug, ag_add, ag_sub, w_expr, rv_fz, rv_own, w_ret_var, w_retN, w_ite, w_for, w_while, w_brk, w_cnt, w_raise, w_try, w_frz, e_con, e_var, e_glb, e_bin, e_neg, e_not, e_and, e_or, e_cmp, e_chain, e_ite, e_tup, e_lst, e_dct, e_idx, e_slc, ck_ret, ck_exc, e_call, e_bi1, e_bi2, e_comp, lx_nil, e_efld, e_eisi, nil_e, sub_n, sub_s, gone_rt, gone_nx, hush_nx, hush_rt, lt_lit, xr_con, xr_glb, xr_bin, xr_neg, xr_not, xr_and, xr_or, xr_cmp, xr_chain, xr_ite, xr_tup, xr_lst, xr_dct, xr_idx, xr_slc, xr_call, xr_bi, xr_comp, xr_pop, xr_efld, xr_eisi, at_k0, at_k1, at_k2, at_k3, at_k4, at_k5, at_k6, at_k7, at_k8, at_k9, at_k10, at_k11, at_k12, at_k13, at_k14, at_k15, at_k16, at_k17, at_k18, at_k19, at_k20, or_s, lx_cons, ly_some, ly_none, tx_, op_nil, op_cons, we_nil, we_cons, sp_nil, sp_cons, rp_nil, rp_cons, rg_0, rg_1, rg_2, rg_3, rg_4, rg_5, bls_n, bls_c, ints_n, ints_c, bf_all, bf_any, bf_gcd, bm_var, bn_, bm_lst, e_meth, my_ixl, mf_ix, xr_meth, bf_isqrt, bf_lr1, bf_lr2, bf_min1, bf_max1, mk_c, xk_c, asg_nil, evL, evC, evP, evI, List.map, List.length_cons, List.length_nil, List.cons_append, List.nil_append, List.replicate, if_true, reduceIte, Nat.sub_self, Nat.reduceAdd, Nat.reduceSub, Nat.reduceLT, Bool.false_eq_true, if_false, Bool.not_false, Bool.not_true, Bool.false_and, Bool.true_and, Option.isNone_some, Option.map_some, Nat.reduceEqDiff, Nat.zero_add, Nat.add_zero, Nat.reduceLeDiff, Int.reduceLT, Int.reduceLE, Int.reduceMod, Int.reduceAdd, Int.reduceSub, Int.reduceNeg, Int.reduceMul, Int.reduceBEq, decide_true, decide_false, bne_self_eq_false, BEq.rfl, and_self, Bool.false_or, Bool.true_or, Bool.or_false, Bool.or_true, Option.bind_some, Int.zero_add, Int.toNat_natCast, Int.cast_ofNat_Int, Int.natCast_zero, Int.natCast_one, Int.reduceToNat, Int.reducePow, List.all_cons, List.all_nil, List.any_cons, List.any_nil, id, Bool.not_not, List.length_map, Bool.and_true, Bool.and_false]
end L

namespace L
open MP
variable {n : Nat}
theorem c_drawn (r0 r1 r2 r3 r4 r5 : Int) (tl : List D) (hl : tl.length ≤ 100) (h0 : 0 ≤ r0) (h0' : r0 < 4) (h1 : 0 ≤ r1) (h1' : r1 < 100) (h2 : 0 ≤ r2) (h2' : r2 < 1000000000000000000000000000000) (h3 : 0 ≤ r3) (h3' : r3 < 36) (h4 : 0 ≤ r4) (h4' : r4 < 5) (h5 : 0 ≤ r5) (h5' : r5 < 19) :
    ∃ h b s, callF G (n + 1) 31 [.lst (.int r0 :: .int r1 :: .int r2 :: .int r3 :: .int r4 :: .int r5 :: tl)] = .ret (vc h b s) ∧ 0 ≤ h ∧ sm 100 h ∧ okB b = true ∧ okS s = true := by
  have c_1 : ∀ {n : Nat} {as : List D}, callF G (n + 1) 31 as = runDef G (callF G n) d__law_drawn as := rfl
  obtain ⟨h, e1, g1, g2⟩ : ∃ h, idxOf (.lst [.int 0, .int 1, .int r1, .int r2]) (.int r0) = some (.int h) ∧ 0 ≤ h ∧ sm 100 h := by
    rcases (by omega : r0 = 0 ∨ r0 = 1 ∨ r0 = 2 ∨ r0 = 3) with rfl | rfl | rfl | rfl
    · exact ⟨0, rfl, by decide, lit _ _⟩
    · exact ⟨1, rfl, by decide, lit _ _⟩
    · exact ⟨r1, rfl, h1, by unfold sm; omega⟩
    · exact ⟨r2, rfl, h2, by unfold sm; omega⟩
  obtain ⟨s, e2, g3⟩ : ∃ s, idxOf (.lst [.int (r5 - 9), .int (r5 - 9), .int 0, .int 9, .int (-9)]) (.int r4) = some (.int s) ∧ okS s = true := by
    have o : okS (r5 - 9) = true := by unfold okS; simp; omega
    rcases (by omega : r4 = 0 ∨ r4 = 1 ∨ r4 = 2 ∨ r4 = 3 ∨ r4 = 4) with rfl | rfl | rfl | rfl | rfl
    · exact ⟨_, rfl, o⟩
    · exact ⟨_, rfl, o⟩
    · exact ⟨0, rfl, by decide⟩
    · exact ⟨9, rfl, by decide⟩
    · exact ⟨-9, rfl, by decide⟩
  refine ⟨h, r3, s, ?_, g1, g2, by unfold okB; simp; omega, g3⟩
  simp -implicitDefEqProofs only [c_1, d__law_drawn, b__law_drawn, e1, e2, bind_ok, bind_exc, st_ok, st_exc, seq_nx, seq_rt, seq_bk, seq_ct, seq_exc, opt_s, lift_s, map_s, get_0, get_s, put_0, put_s, run_eq, fin_nx, fin_rt, fin_exc, d_un, d_own, f_own, d_non, f_non, er_non, d_bl, f_bl, er_bl, d_int, f_int, er_int, d_str, f_str, er_str, d_lst, f_lst, er_lst, d_tup, f_tup, er_tup, d_dct, f_dct, er_dct, d_scr, f_scr, er_scr, d_ty, f_ty, er_ty, d_cls, f_cls, er_cls, b1_con, b2_con, bL_con, b1_glb, b2_glb, bL_glb, b1_bin, b2_bin, bL_bin, b1_neg, b2_neg, bL_neg, b1_not, b2_not, bL_not, b1_and, b2_and, bL_and, b1_or, b2_or, bL_or, b1_cmp, b2_cmp, bL_cmp, b1_chain, b2_chain, bL_chain, b1_ite, b2_ite, bL_ite, b1_tup, b2_tup, bL_tup, b1_lst, b2_lst, bL_lst, b1_dct, b2_dct, bL_dct, b1_idx, b2_idx, bL_idx, b1_slc, b2_slc, bL_slc, b1_call, b2_call, bL_call, b1_bi, b2_bi, bL_bi, b1_comp, b2_comp, bL_comp, b1_pop, b2_pop, bL_pop, b1_meth, b2_meth, bL_meth, b1_efld, b2_efld, bL_efld, b1_eisi, b2_eisi, bL_eisi, b1_var, b2_var, bL_var, isi_int_non, isi_int_bl, isi_int_int, isi_int_str, isi_int_lst, isi_int_tup, isi_int_dct, isi_bool_non, isi_bool_bl, isi_bool_int, isi_bool_str, isi_bool_lst, isi_bool_tup, isi_bool_dct, isi_str_non, isi_str_bl, isi_str_int, isi_str_str, isi_str_lst, isi_str_tup, isi_str_dct, isi_list_non, isi_list_bl, isi_list_int, isi_list_str, isi_list_lst, isi_list_tup, isi_list_dct, isi_tuple_non, isi_tuple_bl, isi_tuple_int, isi_tuple_str, isi_tuple_lst, isi_tuple_tup, isi_tuple_dct, isi_dict_non, isi_dict_bl, isi_dict_int, isi_dict_str, isi_dict_lst, isi_dict_tup, isi_dict_dct, bf_int, bf_intb, bf_abs, bf_lenl, bf_lent, bf_lens, bf_lend, bf_min2, bf_max2, bf_sum, bf_tup, bf_tupt, bf_lst, bf_lstt, bo_add, bo_sub, bo_mul, bo_mod, bo_fdiv, bo_pow, bo_addl, co_lt, co_le, co_gt, co_ge, co_eqi, co_nei, co_eqs, eq_strs, co_is, co_isnot, ix_l, ix_t, tr_bl, tr_int, at_nat, sm_ni, sm_nn, sm_ti, sm_tt, sm_nt, sm_ns, sm_ts, sm_bb, sm_bn, sm_nl, sm_tl, sm_nb, sm_nd, sm_td, ranged_len, lim_lit, asgs_nil, asgs_cons, pat_1, pat_t, forK_nx, forK_ct, forK_bk, forK_rt, forK_exc, forL_nil, forL_cons, it_l, it_t, it_s, ol_l, ow_, mut_l, mut_d, fr_lst, fr_comp, fr_bin, fr_bil, fr_bis, fr_bi1, fr_bi2, fr_slc, fr_dct, sk_nx, sk_rt, sk_bk, sk_ct, sk_exc, ik_ok, ik_exc, fx_nil, fx_cons, fy_nx, fy_ct, fy_bk, fy_rt, fy_exc, tk_nx, tk_rt, tk_bk, tk_ct, tk_e0, tk_e1, w_skip, w_seq, w_set, w_setO, w_unpack, ak_, w_app, w_put, ps_l, ps_d, pl_i, w_aug, ag_add, ag_sub, w_expr, rv_fz, rv_own, w_ret_var, w_retN, w_ite, w_for, w_while, w_brk, w_cnt, w_raise, w_try, w_frz, e_con, e_var, e_glb, e_bin, e_neg, e_not, e_and, e_or, e_cmp, e_chain, e_ite, e_tup, e_lst, e_dct, e_idx, e_slc, ck_ret, ck_exc, e_call, e_bi1, e_bi2, e_comp, lx_nil, e_efld, e_eisi, nil_e, sub_n, sub_s, gone_rt, gone_nx, hush_nx, hush_rt, lt_lit, xr_con, xr_glb, xr_bin, xr_neg, xr_not, xr_and, xr_or, xr_cmp, xr_chain, xr_ite, xr_tup, xr_lst, xr_dct, xr_idx, xr_slc, xr_call, xr_bi, xr_comp, xr_pop, xr_efld, xr_eisi, at_k0, at_k1, at_k2, at_k3, at_k4, at_k5, at_k6, at_k7, at_k8, at_k9, at_k10, at_k11, at_k12, at_k13, at_k14, at_k15, at_k16, at_k17, at_k18, at_k19, at_k20, or_s, lx_cons, ly_some, ly_none, tx_, op_nil, op_cons, we_nil, we_cons, sp_nil, sp_cons, rp_nil, rp_cons, rg_0, rg_1, rg_2, rg_3, rg_4, rg_5, bls_n, bls_c, ints_n, ints_c, bf_all, bf_any, bf_gcd, bm_var, bn_, bm_lst, e_meth, my_ixl, mf_ix, xr_meth, bf_isqrt, bf_lr1, bf_lr2, bf_min1, bf_max1, mk_c, xk_c, asg_nil, evL, evC, evP, evI, List.map, List.length_cons, List.length_nil, List.cons_append, List.nil_append, List.replicate, if_true, reduceIte, Nat.sub_self, Nat.reduceAdd, Nat.reduceSub, Nat.reduceLT, Bool.false_eq_true, if_false, Bool.not_false, Bool.not_true, Bool.false_and, Bool.true_and, Option.isNone_some, Option.map_some, Nat.reduceEqDiff, Nat.zero_add, Nat.add_zero, Nat.reduceLeDiff, Int.reduceLT, Int.reduceLE, Int.reduceMod, Int.reduceAdd, Int.reduceSub, Int.reduceNeg, Int.reduceMul, Int.reduceBEq, decide_true, decide_false, bne_self_eq_false, BEq.rfl, and_self, Bool.false_or, Bool.true_or, Bool.or_false, Bool.or_true, Option.bind_some, Int.zero_add, Int.toNat_natCast, Int.cast_ofNat_Int, Int.natCast_zero, Int.natCast_one, Int.reduceToNat, Int.reducePow, List.all_cons, List.all_nil, List.any_cons, List.any_nil, id, Bool.not_not, List.length_map, Bool.and_true, Bool.and_false]
/-- nine numbers by the axis -/
def v3 (a x y z t : Int) : D := if a = 0 then vc t y z else if a = 1 then vc x t z else vc x y t
theorem sma {a b : Nat} {i j : Int} (h : sm a i) (h' : sm b j) (hab : b ≤ a) : sm (a + 1) (i + j) := by
  have h' := h'.mono hab
  unfold sm at *
  rw [Nat.pow_succ]
  omega
theorem smd {a b : Nat} {i j : Int} (h : sm a i) (h' : sm b j) (hab : b ≤ a) : sm (a + 1) (i - j) := by
  have h' := h'.mono hab
  unfold sm at *
  rw [Nat.pow_succ]
  omega
theorem div_sm {a : Nat} {i j : Int} (h : sm a i) (hj : 0 < j) : sm (a + 1) (i / j) := by
  have := Int.natAbs_ediv_le_natAbs i j
  unfold sm at *
  rw [Nat.pow_succ]
  omega
/-- a near vector -/
def near (d : D) : Prop := ∃ x y z, d = vc x y z ∧ sm 140 x ∧ sm 140 y ∧ sm 140 z
theorem c_near_div (h b s r0 r1 r2 r3 r4 r5 r6 r7 x y z : Int) (hr : r0 = 4 ∨ r0 = 5) (lv : callF G (n + 2) 28 [.int h, .int b, .int s] = .ret (vc x y z)) (h2 : 0 ≤ r2) (h2' : r2 < 7) (up : ∀ {i : Int}, sm 120 i → sm 140 i) (sx : sm 120 x) (sy : sm 120 y) (sz : sm 120 z) :
    ∃ d, callF G (n + 3) 33 [vc h b s, .lst [.int r0, .int r1, .int r2, .int r3, .int r4, .int r5, .int r6, .int r7]] = .ret d ∧ near d := by
  have c_1 : ∀ {n : Nat} {as : List D}, callF G (n + 1) 33 as = runDef G (callF G n) d__law_near as := rfl
  obtain ⟨t, e, t0, t1⟩ : ∃ t, idxOf (.lst [.int 2, .int 5, .int 13, .int 65, .int 65, .int 4225, .int 7]) (.int r2) = some (.int t) ∧ 0 < t ∧ divOk t = true := by
    rcases (by omega : r2 = 0 ∨ r2 = 1 ∨ r2 = 2 ∨ r2 = 3 ∨ r2 = 4 ∨ r2 = 5 ∨ r2 = 6) with rfl | rfl | rfl | rfl | rfl | rfl | rfl
    · exact ⟨2, rfl, by decide, by decide⟩
    · exact ⟨5, rfl, by decide, by decide⟩
    · exact ⟨13, rfl, by decide, by decide⟩
    · exact ⟨65, rfl, by decide, by decide⟩
    · exact ⟨65, rfl, by decide, by decide⟩
    · exact ⟨4225, rfl, by decide, by decide⟩
    · exact ⟨7, rfl, by decide, by decide⟩
  refine ⟨vc (x / t) (y / t) (z / t), ?_, _, _, _, rfl, (div_sm sx t0).mono (by decide), (div_sm sy t0).mono (by decide), (div_sm sz t0).mono (by decide)⟩
  rcases hr with rfl | rfl <;> simp -implicitDefEqProofs only [c_1, d__law_near, b__law_near, lv, e, t1, bind_ok, bind_exc, st_ok, st_exc, seq_nx, seq_rt, seq_bk, seq_ct, seq_exc, opt_s, lift_s, map_s, get_0, get_s, put_0, put_s, run_eq, fin_nx, fin_rt, fin_exc, d_un, d_own, f_own, d_non, f_non, er_non, d_bl, f_bl, er_bl, d_int, f_int, er_int, d_str, f_str, er_str, d_lst, f_lst, er_lst, d_tup, f_tup, er_tup, d_dct, f_dct, er_dct, d_scr, f_scr, er_scr, d_ty, f_ty, er_ty, d_cls, f_cls, er_cls, b1_con, b2_con, bL_con, b1_glb, b2_glb, bL_glb, b1_bin, b2_bin, bL_bin, b1_neg, b2_neg, bL_neg, b1_not, b2_not, bL_not, b1_and, b2_and, bL_and, b1_or, b2_or, bL_or, b1_cmp, b2_cmp, bL_cmp, b1_chain, b2_chain, bL_chain, b1_ite, b2_ite, bL_ite, b1_tup, b2_tup, bL_tup, b1_lst, b2_lst, bL_lst, b1_dct, b2_dct, bL_dct, b1_idx, b2_idx, bL_idx, b1_slc, b2_slc, bL_slc, b1_call, b2_call, bL_call, b1_bi, b2_bi, bL_bi, b1_comp, b2_comp, bL_comp, b1_pop, b2_pop, bL_pop, b1_meth, b2_meth, bL_meth, b1_efld, b2_efld, bL_efld, b1_eisi, b2_eisi, bL_eisi, b1_var, b2_var, bL_var, isi_int_non, isi_int_bl, isi_int_int, isi_int_str, isi_int_lst, isi_int_tup, isi_int_dct, isi_bool_non, isi_bool_bl, isi_bool_int, isi_bool_str, isi_bool_lst, isi_bool_tup, isi_bool_dct, isi_str_non, isi_str_bl, isi_str_int, isi_str_str, isi_str_lst, isi_str_tup, isi_str_dct, isi_list_non, isi_list_bl, isi_list_int, isi_list_str, isi_list_lst, isi_list_tup, isi_list_dct, isi_tuple_non, isi_tuple_bl, isi_tuple_int, isi_tuple_str, isi_tuple_lst, isi_tuple_tup, isi_tuple_dct, isi_dict_non, isi_dict_bl, isi_dict_int, isi_dict_str, isi_dict_lst, isi_dict_tup, isi_dict_dct, bf_int, bf_intb, bf_abs, bf_lenl, bf_lent, bf_lens, bf_lend, bf_min2, bf_max2, bf_sum, bf_tup, bf_tupt, bf_lst, bf_lstt, bo_add, bo_sub, bo_mul, bo_mod, bo_fdiv, bo_pow, bo_addl, co_lt, co_le, co_gt, co_ge, co_eqi, co_nei, co_eqs, eq_strs, co_is, co_isnot, ix_l, ix_t, tr_bl, tr_int, at_nat, sm_ni, sm_nn, sm_ti, sm_tt, sm_nt, sm_ns, sm_ts, sm_bb, sm_bn, sm_nl, sm_tl, sm_nb, sm_nd, sm_td, ranged_len, lim_lit, asgs_nil, asgs_cons, pat_1, pat_t, forK_nx, forK_ct, forK_bk, forK_rt, forK_exc, forL_nil, forL_cons, it_l, it_t, it_s, ol_l, ow_, mut_l, mut_d, fr_lst, fr_comp, fr_bin, fr_bil, fr_bis, fr_bi1, fr_bi2, fr_slc, fr_dct, sk_nx, sk_rt, sk_bk, sk_ct, sk_exc, ik_ok, ik_exc, fx_nil, fx_cons, fy_nx, fy_ct, fy_bk, fy_rt, fy_exc, tk_nx, tk_rt, tk_bk, tk_ct, tk_e0, tk_e1, w_skip, w_seq, w_set, w_setO, w_unpack, ak_, w_app, w_put, ps_l, ps_d, pl_i, w_aug, ag_add, ag_sub, w_expr, rv_fz, rv_own, w_ret_var, w_retN, w_ite, w_for, w_while, w_brk, w_cnt, w_raise, w_try, w_frz, e_con, e_var, e_glb, e_bin, e_neg, e_not, e_and, e_or, e_cmp, e_chain, e_ite, e_tup, e_lst, e_dct, e_idx, e_slc, ck_ret, ck_exc, e_call, e_bi1, e_bi2, e_comp, lx_nil, e_efld, e_eisi, nil_e, sub_n, sub_s, gone_rt, gone_nx, hush_nx, hush_rt, lt_lit, xr_con, xr_glb, xr_bin, xr_neg, xr_not, xr_and, xr_or, xr_cmp, xr_chain, xr_ite, xr_tup, xr_lst, xr_dct, xr_idx, xr_slc, xr_call, xr_bi, xr_comp, xr_pop, xr_efld, xr_eisi, at_k0, at_k1, at_k2, at_k3, at_k4, at_k5, at_k6, at_k7, at_k8, at_k9, at_k10, at_k11, at_k12, at_k13, at_k14, at_k15, at_k16, at_k17, at_k18, at_k19, at_k20, or_s, lx_cons, ly_some, ly_none, tx_, op_nil, op_cons, we_nil, we_cons, sp_nil, sp_cons, rp_nil, rp_cons, rg_0, rg_1, rg_2, rg_3, rg_4, rg_5, bls_n, bls_c, ints_n, ints_c, bf_all, bf_any, bf_gcd, bm_var, bn_, bm_lst, e_meth, my_ixl, mf_ix, xr_meth, bf_isqrt, bf_lr1, bf_lr2, bf_min1, bf_max1, mk_c, xk_c, asg_nil, evL, evC, evP, evI, List.map, List.length_cons, List.length_nil, List.cons_append, List.nil_append, List.replicate, if_true, reduceIte, Nat.sub_self, Nat.reduceAdd, Nat.reduceSub, Nat.reduceLT, Bool.false_eq_true, if_false, Bool.not_false, Bool.not_true, Bool.false_and, Bool.true_and, Option.isNone_some, Option.map_some, Nat.reduceEqDiff, Nat.zero_add, Nat.add_zero, Nat.reduceLeDiff, Int.reduceLT, Int.reduceLE, Int.reduceMod, Int.reduceAdd, Int.reduceSub, Int.reduceNeg, Int.reduceMul, Int.reduceBEq, decide_true, decide_false, bne_self_eq_false, BEq.rfl, and_self, Bool.false_or, Bool.true_or, Bool.or_false, Bool.or_true, Option.bind_some, Int.zero_add, Int.toNat_natCast, Int.cast_ofNat_Int, Int.natCast_zero, Int.natCast_one, Int.reduceToNat, Int.reducePow, List.all_cons, List.all_nil, List.any_cons, List.any_nil, id, Bool.not_not, List.length_map, Bool.and_true, Bool.and_false]
theorem c_near (h b s r0 r1 r2 r3 r4 r5 r6 r7 : Int) (g2 : sm 100 h) (h0 : 0 ≤ r0) (h0' : r0 < 10) (h1 : 0 ≤ r1) (h1' : r1 < 3) (h2 : 0 ≤ r2) (h2' : r2 < 7) (h3 : 0 ≤ r3) (h3' : r3 < 81) (h5 : 0 ≤ r5) (h5' : r5 < 7) (h6 : 0 ≤ r6) (h6' : r6 < 7) (h7 : 0 ≤ r7) (h7' : r7 < 7) :
    ∃ d, callF G (n + 3) 33 [vc h b s, .lst [.int r0, .int r1, .int r2, .int r3, .int r4, .int r5, .int r6, .int r7]] = .ret d ∧ near d := by
  have c_1 : ∀ {n : Nat} {as : List D}, callF G (n + 1) 33 as = runDef G (callF G n) d__law_near as := rfl
  have lv := c_law_vector (n := n) h b s (g2.mono (by decide))
  have sx : sm 120 (h * le s * ea b) := ((g2.mul (le_sm s)).mul (ea_sm b)).mono (by decide)
  have sy : sm 120 (h * le s * ea (b + 9)) := ((g2.mul (le_sm s)).mul (ea_sm (b + 9))).mono (by decide)
  have sz : sm 120 (h * 65 * ea s) := ((g2.mul (lit 65 7)).mul (ea_sm s)).mono (by decide)
  generalize hx : h * le s * ea b = x at *
  generalize hy : h * le s * ea (b + 9) = y at *
  generalize hz : h * 65 * ea s = z at *
  have up : ∀ {i : Int}, sm 120 i → sm 140 i := fun h => h.mono (by decide)
  have ax : r1 = 0 ∨ r1 = 1 ∨ r1 = 2 := by omega
  have x0 : L2.ixN 3 0 = some 0 := by decide
  have x1 : L2.ixN 3 1 = some 1 := by decide
  have x2 : L2.ixN 3 2 = some 2 := by decide
  rcases (by omega : r0 = 0 ∨ r0 = 1 ∨ r0 = 2 ∨ r0 = 3 ∨ r0 = 4 ∨ r0 = 5 ∨ r0 = 6 ∨ r0 = 7 ∨ r0 = 8 ∨ r0 = 9) with rfl | rfl | rfl | rfl | rfl | rfl | rfl | rfl | rfl | rfl
  · obtain ⟨t, e, st⟩ : ∃ t, idxOf (.lst [.int 1, .int (-1), .int 65, .int (-65), .int 4225, .int (-4225), .int (r3 - 40)]) (.int r2) = some (.int t) ∧ sm 13 t := by
      rcases (by omega : r2 = 0 ∨ r2 = 1 ∨ r2 = 2 ∨ r2 = 3 ∨ r2 = 4 ∨ r2 = 5 ∨ r2 = 6) with rfl | rfl | rfl | rfl | rfl | rfl | rfl
      · exact ⟨_, rfl, lit _ _⟩
      · exact ⟨_, rfl, lit _ _⟩
      · exact ⟨_, rfl, lit _ _⟩
      · exact ⟨_, rfl, lit _ _⟩
      · exact ⟨_, rfl, lit _ _⟩
      · exact ⟨_, rfl, lit _ _⟩
      · exact ⟨_, rfl, by unfold sm; omega⟩
    have ad : ∀ {i : Int}, sm 120 i → sm 140 (i + t) := fun h => (sma h st (by decide)).mono (by decide)
    rcases ax with rfl | rfl | rfl
    · refine ⟨vc (x + t) y z, ?_, _, _, _, rfl, ad sx, up sy, up sz⟩
      simp -implicitDefEqProofs only [c_1, d__law_near, b__law_near, lv, x0, x1, x2, List.set_cons_zero, List.set_cons_succ, opt, e, bind_ok, bind_exc, st_ok, st_exc, seq_nx, seq_rt, seq_bk, seq_ct, seq_exc, opt_s, lift_s, map_s, get_0, get_s, put_0, put_s, run_eq, fin_nx, fin_rt, fin_exc, d_un, d_own, f_own, d_non, f_non, er_non, d_bl, f_bl, er_bl, d_int, f_int, er_int, d_str, f_str, er_str, d_lst, f_lst, er_lst, d_tup, f_tup, er_tup, d_dct, f_dct, er_dct, d_scr, f_scr, er_scr, d_ty, f_ty, er_ty, d_cls, f_cls, er_cls, b1_con, b2_con, bL_con, b1_glb, b2_glb, bL_glb, b1_bin, b2_bin, bL_bin, b1_neg, b2_neg, bL_neg, b1_not, b2_not, bL_not, b1_and, b2_and, bL_and, b1_or, b2_or, bL_or, b1_cmp, b2_cmp, bL_cmp, b1_chain, b2_chain, bL_chain, b1_ite, b2_ite, bL_ite, b1_tup, b2_tup, bL_tup, b1_lst, b2_lst, bL_lst, b1_dct, b2_dct, bL_dct, b1_idx, b2_idx, bL_idx, b1_slc, b2_slc, bL_slc, b1_call, b2_call, bL_call, b1_bi, b2_bi, bL_bi, b1_comp, b2_comp, bL_comp, b1_pop, b2_pop, bL_pop, b1_meth, b2_meth, bL_meth, b1_efld, b2_efld, bL_efld, b1_eisi, b2_eisi, bL_eisi, b1_var, b2_var, bL_var, isi_int_non, isi_int_bl, isi_int_int, isi_int_str, isi_int_lst, isi_int_tup, isi_int_dct, isi_bool_non, isi_bool_bl, isi_bool_int, isi_bool_str, isi_bool_lst, isi_bool_tup, isi_bool_dct, isi_str_non, isi_str_bl, isi_str_int, isi_str_str, isi_str_lst, isi_str_tup, isi_str_dct, isi_list_non, isi_list_bl, isi_list_int, isi_list_str, isi_list_lst, isi_list_tup, isi_list_dct, isi_tuple_non, isi_tuple_bl, isi_tuple_int, isi_tuple_str, isi_tuple_lst, isi_tuple_tup, isi_tuple_dct, isi_dict_non, isi_dict_bl, isi_dict_int, isi_dict_str, isi_dict_lst, isi_dict_tup, isi_dict_dct, bf_int, bf_intb, bf_abs, bf_lenl, bf_lent, bf_lens, bf_lend, bf_min2, bf_max2, bf_sum, bf_tup, bf_tupt, bf_lst, bf_lstt, bo_add, bo_sub, bo_mul, bo_mod, bo_fdiv, bo_pow, bo_addl, co_lt, co_le, co_gt, co_ge, co_eqi, co_nei, co_eqs, eq_strs, co_is, co_isnot, ix_l, ix_t, tr_bl, tr_int, at_nat, sm_ni, sm_nn, sm_ti, sm_tt, sm_nt, sm_ns, sm_ts, sm_bb, sm_bn, sm_nl, sm_tl, sm_nb, sm_nd, sm_td, ranged_len, lim_lit, asgs_nil, asgs_cons, pat_1, pat_t, forK_nx, forK_ct, forK_bk, forK_rt, forK_exc, forL_nil, forL_cons, it_l, it_t, it_s, ol_l, ow_, mut_l, mut_d, fr_lst, fr_comp, fr_bin, fr_bil, fr_bis, fr_bi1, fr_bi2, fr_slc, fr_dct, sk_nx, sk_rt, sk_bk, sk_ct, sk_exc, ik_ok, ik_exc, fx_nil, fx_cons, fy_nx, fy_ct, fy_bk, fy_rt, fy_exc, tk_nx, tk_rt, tk_bk, tk_ct, tk_e0, tk_e1, w_skip, w_seq, w_set, w_setO, w_unpack, ak_, w_app, w_put, ps_l, ps_d, pl_i, w_aug, ag_add, ag_sub, w_expr, rv_fz, rv_own, w_ret_var, w_retN, w_ite, w_for, w_while, w_brk, w_cnt, w_raise, w_try, w_frz, e_con, e_var, e_glb, e_bin, e_neg, e_not, e_and, e_or, e_cmp, e_chain, e_ite, e_tup, e_lst, e_dct, e_idx, e_slc, ck_ret, ck_exc, e_call, e_bi1, e_bi2, e_comp, lx_nil, e_efld, e_eisi, nil_e, sub_n, sub_s, gone_rt, gone_nx, hush_nx, hush_rt, lt_lit, xr_con, xr_glb, xr_bin, xr_neg, xr_not, xr_and, xr_or, xr_cmp, xr_chain, xr_ite, xr_tup, xr_lst, xr_dct, xr_idx, xr_slc, xr_call, xr_bi, xr_comp, xr_pop, xr_efld, xr_eisi, at_k0, at_k1, at_k2, at_k3, at_k4, at_k5, at_k6, at_k7, at_k8, at_k9, at_k10, at_k11, at_k12, at_k13, at_k14, at_k15, at_k16, at_k17, at_k18, at_k19, at_k20, or_s, lx_cons, ly_some, ly_none, tx_, op_nil, op_cons, we_nil, we_cons, sp_nil, sp_cons, rp_nil, rp_cons, rg_0, rg_1, rg_2, rg_3, rg_4, rg_5, bls_n, bls_c, ints_n, ints_c, bf_all, bf_any, bf_gcd, bm_var, bn_, bm_lst, e_meth, my_ixl, mf_ix, xr_meth, bf_isqrt, bf_lr1, bf_lr2, bf_min1, bf_max1, mk_c, xk_c, asg_nil, evL, evC, evP, evI, List.map, List.length_cons, List.length_nil, List.cons_append, List.nil_append, List.replicate, if_true, reduceIte, Nat.sub_self, Nat.reduceAdd, Nat.reduceSub, Nat.reduceLT, Bool.false_eq_true, if_false, Bool.not_false, Bool.not_true, Bool.false_and, Bool.true_and, Option.isNone_some, Option.map_some, Nat.reduceEqDiff, Nat.zero_add, Nat.add_zero, Nat.reduceLeDiff, Int.reduceLT, Int.reduceLE, Int.reduceMod, Int.reduceAdd, Int.reduceSub, Int.reduceNeg, Int.reduceMul, Int.reduceBEq, decide_true, decide_false, bne_self_eq_false, BEq.rfl, and_self, Bool.false_or, Bool.true_or, Bool.or_false, Bool.or_true, Option.bind_some, Int.zero_add, Int.toNat_natCast, Int.cast_ofNat_Int, Int.natCast_zero, Int.natCast_one, Int.reduceToNat, Int.reducePow, List.all_cons, List.all_nil, List.any_cons, List.any_nil, id, Bool.not_not, List.length_map, Bool.and_true, Bool.and_false]
    · refine ⟨vc x (y + t) z, ?_, _, _, _, rfl, up sx, ad sy, up sz⟩
      simp -implicitDefEqProofs only [c_1, d__law_near, b__law_near, lv, x0, x1, x2, List.set_cons_zero, List.set_cons_succ, opt, e, bind_ok, bind_exc, st_ok, st_exc, seq_nx, seq_rt, seq_bk, seq_ct, seq_exc, opt_s, lift_s, map_s, get_0, get_s, put_0, put_s, run_eq, fin_nx, fin_rt, fin_exc, d_un, d_own, f_own, d_non, f_non, er_non, d_bl, f_bl, er_bl, d_int, f_int, er_int, d_str, f_str, er_str, d_lst, f_lst, er_lst, d_tup, f_tup, er_tup, d_dct, f_dct, er_dct, d_scr, f_scr, er_scr, d_ty, f_ty, er_ty, d_cls, f_cls, er_cls, b1_con, b2_con, bL_con, b1_glb, b2_glb, bL_glb, b1_bin, b2_bin, bL_bin, b1_neg, b2_neg, bL_neg, b1_not, b2_not, bL_not, b1_and, b2_and, bL_and, b1_or, b2_or, bL_or, b1_cmp, b2_cmp, bL_cmp, b1_chain, b2_chain, bL_chain, b1_ite, b2_ite, bL_ite, b1_tup, b2_tup, bL_tup, b1_lst, b2_lst, bL_lst, b1_dct, b2_dct, bL_dct, b1_idx, b2_idx, bL_idx, b1_slc, b2_slc, bL_slc, b1_call, b2_call, bL_call, b1_bi, b2_bi, bL_bi, b1_comp, b2_comp, bL_comp, b1_pop, b2_pop, bL_pop, b1_meth, b2_meth, bL_meth, b1_efld, b2_efld, bL_efld, b1_eisi, b2_eisi, bL_eisi, b1_var, b2_var, bL_var, isi_int_non, isi_int_bl, isi_int_int, isi_int_str, isi_int_lst, isi_int_tup, isi_int_dct, isi_bool_non, isi_bool_bl, isi_bool_int, isi_bool_str, isi_bool_lst, isi_bool_tup, isi_bool_dct, isi_str_non, isi_str_bl, isi_str_int, isi_str_str, isi_str_lst, isi_str_tup, isi_str_dct, isi_list_non, isi_list_bl, isi_list_int, isi_list_str, isi_list_lst, isi_list_tup, isi_list_dct, isi_tuple_non, isi_tuple_bl, isi_tuple_int, isi_tuple_str, isi_tuple_lst, isi_tuple_tup, isi_tuple_dct, isi_dict_non, isi_dict_bl, isi_dict_int, isi_dict_str, isi_dict_lst, isi_dict_tup, isi_dict_dct, bf_int, bf_intb, bf_abs, bf_lenl, bf_lent, bf_lens, bf_lend, bf_min2, bf_max2, bf_sum, bf_tup, bf_tupt, bf_lst, bf_lstt, bo_add, bo_sub, bo_mul, bo_mod, bo_fdiv, bo_pow, bo_addl, co_lt, co_le, co_gt, co_ge, co_eqi, co_nei, co_eqs, eq_strs, co_is, co_isnot, ix_l, ix_t, tr_bl, tr_int, at_nat, sm_ni, sm_nn, sm_ti, sm_tt, sm_nt, sm_ns, sm_ts, sm_bb, sm_bn, sm_nl, sm_tl, sm_nb, sm_nd, sm_td, ranged_len, lim_lit, asgs_nil, asgs_cons, pat_1, pat_t, forK_nx, forK_ct, forK_bk, forK_rt, forK_exc, forL_nil, forL_cons, it_l, it_t, it_s, ol_l, ow_, mut_l, mut_d, fr_lst, fr_comp, fr_bin, fr_bil, fr_bis, fr_bi1, fr_bi2, fr_slc, fr_dct, sk_nx, sk_rt, sk_bk, sk_ct, sk_exc, ik_ok, ik_exc, fx_nil, fx_cons, fy_nx, fy_ct, fy_bk, fy_rt, fy_exc, tk_nx, tk_rt, tk_bk, tk_ct, tk_e0, tk_e1, w_skip, w_seq, w_set, w_setO, w_unpack, ak_, w_app, w_put, ps_l, ps_d, pl_i, w_aug, ag_add, ag_sub, w_expr, rv_fz, rv_own, w_ret_var, w_retN, w_ite, w_for, w_while, w_brk, w_cnt, w_raise, w_try, w_frz, e_con, e_var, e_glb, e_bin, e_neg, e_not, e_and, e_or, e_cmp, e_chain, e_ite, e_tup, e_lst, e_dct, e_idx, e_slc, ck_ret, ck_exc, e_call, e_bi1, e_bi2, e_comp, lx_nil, e_efld, e_eisi, nil_e, sub_n, sub_s, gone_rt, gone_nx, hush_nx, hush_rt, lt_lit, xr_con, xr_glb, xr_bin, xr_neg, xr_not, xr_and, xr_or, xr_cmp, xr_chain, xr_ite, xr_tup, xr_lst, xr_dct, xr_idx, xr_slc, xr_call, xr_bi, xr_comp, xr_pop, xr_efld, xr_eisi, at_k0, at_k1, at_k2, at_k3, at_k4, at_k5, at_k6, at_k7, at_k8, at_k9, at_k10, at_k11, at_k12, at_k13, at_k14, at_k15, at_k16, at_k17, at_k18, at_k19, at_k20, or_s, lx_cons, ly_some, ly_none, tx_, op_nil, op_cons, we_nil, we_cons, sp_nil, sp_cons, rp_nil, rp_cons, rg_0, rg_1, rg_2, rg_3, rg_4, rg_5, bls_n, bls_c, ints_n, ints_c, bf_all, bf_any, bf_gcd, bm_var, bn_, bm_lst, e_meth, my_ixl, mf_ix, xr_meth, bf_isqrt, bf_lr1, bf_lr2, bf_min1, bf_max1, mk_c, xk_c, asg_nil, evL, evC, evP, evI, List.map, List.length_cons, List.length_nil, List.cons_append, List.nil_append, List.replicate, if_true, reduceIte, Nat.sub_self, Nat.reduceAdd, Nat.reduceSub, Nat.reduceLT, Bool.false_eq_true, if_false, Bool.not_false, Bool.not_true, Bool.false_and, Bool.true_and, Option.isNone_some, Option.map_some, Nat.reduceEqDiff, Nat.zero_add, Nat.add_zero, Nat.reduceLeDiff, Int.reduceLT, Int.reduceLE, Int.reduceMod, Int.reduceAdd, Int.reduceSub, Int.reduceNeg, Int.reduceMul, Int.reduceBEq, decide_true, decide_false, bne_self_eq_false, BEq.rfl, and_self, Bool.false_or, Bool.true_or, Bool.or_false, Bool.or_true, Option.bind_some, Int.zero_add, Int.toNat_natCast, Int.cast_ofNat_Int, Int.natCast_zero, Int.natCast_one, Int.reduceToNat, Int.reducePow, List.all_cons, List.all_nil, List.any_cons, List.any_nil, id, Bool.not_not, List.length_map, Bool.and_true, Bool.and_false]
    · refine ⟨vc x y (z + t), ?_, _, _, _, rfl, up sx, up sy, ad sz⟩
      simp -implicitDefEqProofs only [c_1, d__law_near, b__law_near, lv, x0, x1, x2, List.set_cons_zero, List.set_cons_succ, opt, e, bind_ok, bind_exc, st_ok, st_exc, seq_nx, seq_rt, seq_bk, seq_ct, seq_exc, opt_s, lift_s, map_s, get_0, get_s, put_0, put_s, run_eq, fin_nx, fin_rt, fin_exc, d_un, d_own, f_own, d_non, f_non, er_non, d_bl, f_bl, er_bl, d_int, f_int, er_int, d_str, f_str, er_str, d_lst, f_lst, er_lst, d_tup, f_tup, er_tup, d_dct, f_dct, er_dct, d_scr, f_scr, er_scr, d_ty, f_ty, er_ty, d_cls, f_cls, er_cls, b1_con, b2_con, bL_con, b1_glb, b2_glb, bL_glb, b1_bin, b2_bin, bL_bin, b1_neg, b2_neg, bL_neg, b1_not, b2_not, bL_not, b1_and, b2_and, bL_and, b1_or, b2_or, bL_or, b1_cmp, b2_cmp, bL_cmp, b1_chain, b2_chain, bL_chain, b1_ite, b2_ite, bL_ite, b1_tup, b2_tup, bL_tup, b1_lst, b2_lst, bL_lst, b1_dct, b2_dct, bL_dct, b1_idx, b2_idx, bL_idx, b1_slc, b2_slc, bL_slc, b1_call, b2_call, bL_call, b1_bi, b2_bi, bL_bi, b1_comp, b2_comp, bL_comp, b1_pop, b2_pop, bL_pop, b1_meth, b2_meth, bL_meth, b1_efld, b2_efld, bL_efld, b1_eisi, b2_eisi, bL_eisi, b1_var, b2_var, bL_var, isi_int_non, isi_int_bl, isi_int_int, isi_int_str, isi_int_lst, isi_int_tup, isi_int_dct, isi_bool_non, isi_bool_bl, isi_bool_int, isi_bool_str, isi_bool_lst, isi_bool_tup, isi_bool_dct, isi_str_non, isi_str_bl, isi_str_int, isi_str_str, isi_str_lst, isi_str_tup, isi_str_dct, isi_list_non, isi_list_bl, isi_list_int, isi_list_str, isi_list_lst, isi_list_tup, isi_list_dct, isi_tuple_non, isi_tuple_bl, isi_tuple_int, isi_tuple_str, isi_tuple_lst, isi_tuple_tup, isi_tuple_dct, isi_dict_non, isi_dict_bl, isi_dict_int, isi_dict_str, isi_dict_lst, isi_dict_tup, isi_dict_dct, bf_int, bf_intb, bf_abs, bf_lenl, bf_lent, bf_lens, bf_lend, bf_min2, bf_max2, bf_sum, bf_tup, bf_tupt, bf_lst, bf_lstt, bo_add, bo_sub, bo_mul, bo_mod, bo_fdiv, bo_pow, bo_addl, co_lt, co_le, co_gt, co_ge, co_eqi, co_nei, co_eqs, eq_strs, co_is, co_isnot, ix_l, ix_t, tr_bl, tr_int, at_nat, sm_ni, sm_nn, sm_ti, sm_tt, sm_nt, sm_ns, sm_ts, sm_bb, sm_bn, sm_nl, sm_tl, sm_nb, sm_nd, sm_td, ranged_len, lim_lit, asgs_nil, asgs_cons, pat_1, pat_t, forK_nx, forK_ct, forK_bk, forK_rt, forK_exc, forL_nil, forL_cons, it_l, it_t, it_s, ol_l, ow_, mut_l, mut_d, fr_lst, fr_comp, fr_bin, fr_bil, fr_bis, fr_bi1, fr_bi2, fr_slc, fr_dct, sk_nx, sk_rt, sk_bk, sk_ct, sk_exc, ik_ok, ik_exc, fx_nil, fx_cons, fy_nx, fy_ct, fy_bk, fy_rt, fy_exc, tk_nx, tk_rt, tk_bk, tk_ct, tk_e0, tk_e1, w_skip, w_seq, w_set, w_setO, w_unpack, ak_, w_app, w_put, ps_l, ps_d, pl_i, w_aug, ag_add, ag_sub, w_expr, rv_fz, rv_own, w_ret_var, w_retN, w_ite, w_for, w_while, w_brk, w_cnt, w_raise, w_try, w_frz, e_con, e_var, e_glb, e_bin, e_neg, e_not, e_and, e_or, e_cmp, e_chain, e_ite, e_tup, e_lst, e_dct, e_idx, e_slc, ck_ret, ck_exc, e_call, e_bi1, e_bi2, e_comp, lx_nil, e_efld, e_eisi, nil_e, sub_n, sub_s, gone_rt, gone_nx, hush_nx, hush_rt, lt_lit, xr_con, xr_glb, xr_bin, xr_neg, xr_not, xr_and, xr_or, xr_cmp, xr_chain, xr_ite, xr_tup, xr_lst, xr_dct, xr_idx, xr_slc, xr_call, xr_bi, xr_comp, xr_pop, xr_efld, xr_eisi, at_k0, at_k1, at_k2, at_k3, at_k4, at_k5, at_k6, at_k7, at_k8, at_k9, at_k10, at_k11, at_k12, at_k13, at_k14, at_k15, at_k16, at_k17, at_k18, at_k19, at_k20, or_s, lx_cons, ly_some, ly_none, tx_, op_nil, op_cons, we_nil, we_cons, sp_nil, sp_cons, rp_nil, rp_cons, rg_0, rg_1, rg_2, rg_3, rg_4, rg_5, bls_n, bls_c, ints_n, ints_c, bf_all, bf_any, bf_gcd, bm_var, bn_, bm_lst, e_meth, my_ixl, mf_ix, xr_meth, bf_isqrt, bf_lr1, bf_lr2, bf_min1, bf_max1, mk_c, xk_c, asg_nil, evL, evC, evP, evI, List.map, List.length_cons, List.length_nil, List.cons_append, List.nil_append, List.replicate, if_true, reduceIte, Nat.sub_self, Nat.reduceAdd, Nat.reduceSub, Nat.reduceLT, Bool.false_eq_true, if_false, Bool.not_false, Bool.not_true, Bool.false_and, Bool.true_and, Option.isNone_some, Option.map_some, Nat.reduceEqDiff, Nat.zero_add, Nat.add_zero, Nat.reduceLeDiff, Int.reduceLT, Int.reduceLE, Int.reduceMod, Int.reduceAdd, Int.reduceSub, Int.reduceNeg, Int.reduceMul, Int.reduceBEq, decide_true, decide_false, bne_self_eq_false, BEq.rfl, and_self, Bool.false_or, Bool.true_or, Bool.or_false, Bool.or_true, Option.bind_some, Int.zero_add, Int.toNat_natCast, Int.cast_ofNat_Int, Int.natCast_zero, Int.natCast_one, Int.reduceToNat, Int.reducePow, List.all_cons, List.all_nil, List.any_cons, List.any_nil, id, Bool.not_not, List.length_map, Bool.and_true, Bool.and_false]
  · refine ⟨vc y x z, ?_, _, _, _, rfl, up sy, up sx, up sz⟩
    simp -implicitDefEqProofs only [c_1, d__law_near, b__law_near, lv, bind_ok, bind_exc, st_ok, st_exc, seq_nx, seq_rt, seq_bk, seq_ct, seq_exc, opt_s, lift_s, map_s, get_0, get_s, put_0, put_s, run_eq, fin_nx, fin_rt, fin_exc, d_un, d_own, f_own, d_non, f_non, er_non, d_bl, f_bl, er_bl, d_int, f_int, er_int, d_str, f_str, er_str, d_lst, f_lst, er_lst, d_tup, f_tup, er_tup, d_dct, f_dct, er_dct, d_scr, f_scr, er_scr, d_ty, f_ty, er_ty, d_cls, f_cls, er_cls, b1_con, b2_con, bL_con, b1_glb, b2_glb, bL_glb, b1_bin, b2_bin, bL_bin, b1_neg, b2_neg, bL_neg, b1_not, b2_not, bL_not, b1_and, b2_and, bL_and, b1_or, b2_or, bL_or, b1_cmp, b2_cmp, bL_cmp, b1_chain, b2_chain, bL_chain, b1_ite, b2_ite, bL_ite, b1_tup, b2_tup, bL_tup, b1_lst, b2_lst, bL_lst, b1_dct, b2_dct, bL_dct, b1_idx, b2_idx, bL_idx, b1_slc, b2_slc, bL_slc, b1_call, b2_call, bL_call, b1_bi, b2_bi, bL_bi, b1_comp, b2_comp, bL_comp, b1_pop, b2_pop, bL_pop, b1_meth, b2_meth, bL_meth, b1_efld, b2_efld, bL_efld, b1_eisi, b2_eisi, bL_eisi, b1_var, b2_var, bL_var, isi_int_non, isi_int_bl, isi_int_int, isi_int_str, isi_int_lst, isi_int_tup, isi_int_dct, isi_bool_non, isi_bool_bl, isi_bool_int, isi_bool_str, isi_bool_lst, isi_bool_tup, isi_bool_dct, isi_str_non, isi_str_bl, isi_str_int, isi_str_str, isi_str_lst, isi_str_tup, isi_str_dct, isi_list_non, isi_list_bl, isi_list_int, isi_list_str, isi_list_lst, isi_list_tup, isi_list_dct, isi_tuple_non, isi_tuple_bl, isi_tuple_int, isi_tuple_str, isi_tuple_lst, isi_tuple_tup, isi_tuple_dct, isi_dict_non, isi_dict_bl, isi_dict_int, isi_dict_str, isi_dict_lst, isi_dict_tup, isi_dict_dct, bf_int, bf_intb, bf_abs, bf_lenl, bf_lent, bf_lens, bf_lend, bf_min2, bf_max2, bf_sum, bf_tup, bf_tupt, bf_lst, bf_lstt, bo_add, bo_sub, bo_mul, bo_mod, bo_fdiv, bo_pow, bo_addl, co_lt, co_le, co_gt, co_ge, co_eqi, co_nei, co_eqs, eq_strs, co_is, co_isnot, ix_l, ix_t, tr_bl, tr_int, at_nat, sm_ni, sm_nn, sm_ti, sm_tt, sm_nt, sm_ns, sm_ts, sm_bb, sm_bn, sm_nl, sm_tl, sm_nb, sm_nd, sm_td, ranged_len, lim_lit, asgs_nil, asgs_cons, pat_1, pat_t, forK_nx, forK_ct, forK_bk, forK_rt, forK_exc, forL_nil, forL_cons, it_l, it_t, it_s, ol_l, ow_, mut_l, mut_d, fr_lst, fr_comp, fr_bin, fr_bil, fr_bis, fr_bi1, fr_bi2, fr_slc, fr_dct, sk_nx, sk_rt, sk_bk, sk_ct, sk_exc, ik_ok, ik_exc, fx_nil, fx_cons, fy_nx, fy_ct, fy_bk, fy_rt, fy_exc, tk_nx, tk_rt, tk_bk, tk_ct, tk_e0, tk_e1, w_skip, w_seq, w_set, w_setO, w_unpack, ak_, w_app, w_put, ps_l, ps_d, pl_i, w_aug, ag_add, ag_sub, w_expr, rv_fz, rv_own, w_ret_var, w_retN, w_ite, w_for, w_while, w_brk, w_cnt, w_raise, w_try, w_frz, e_con, e_var, e_glb, e_bin, e_neg, e_not, e_and, e_or, e_cmp, e_chain, e_ite, e_tup, e_lst, e_dct, e_idx, e_slc, ck_ret, ck_exc, e_call, e_bi1, e_bi2, e_comp, lx_nil, e_efld, e_eisi, nil_e, sub_n, sub_s, gone_rt, gone_nx, hush_nx, hush_rt, lt_lit, xr_con, xr_glb, xr_bin, xr_neg, xr_not, xr_and, xr_or, xr_cmp, xr_chain, xr_ite, xr_tup, xr_lst, xr_dct, xr_idx, xr_slc, xr_call, xr_bi, xr_comp, xr_pop, xr_efld, xr_eisi, at_k0, at_k1, at_k2, at_k3, at_k4, at_k5, at_k6, at_k7, at_k8, at_k9, at_k10, at_k11, at_k12, at_k13, at_k14, at_k15, at_k16, at_k17, at_k18, at_k19, at_k20, or_s, lx_cons, ly_some, ly_none, tx_, op_nil, op_cons, we_nil, we_cons, sp_nil, sp_cons, rp_nil, rp_cons, rg_0, rg_1, rg_2, rg_3, rg_4, rg_5, bls_n, bls_c, ints_n, ints_c, bf_all, bf_any, bf_gcd, bm_var, bn_, bm_lst, e_meth, my_ixl, mf_ix, xr_meth, bf_isqrt, bf_lr1, bf_lr2, bf_min1, bf_max1, mk_c, xk_c, asg_nil, evL, evC, evP, evI, List.map, List.length_cons, List.length_nil, List.cons_append, List.nil_append, List.replicate, if_true, reduceIte, Nat.sub_self, Nat.reduceAdd, Nat.reduceSub, Nat.reduceLT, Bool.false_eq_true, if_false, Bool.not_false, Bool.not_true, Bool.false_and, Bool.true_and, Option.isNone_some, Option.map_some, Nat.reduceEqDiff, Nat.zero_add, Nat.add_zero, Nat.reduceLeDiff, Int.reduceLT, Int.reduceLE, Int.reduceMod, Int.reduceAdd, Int.reduceSub, Int.reduceNeg, Int.reduceMul, Int.reduceBEq, decide_true, decide_false, bne_self_eq_false, BEq.rfl, and_self, Bool.false_or, Bool.true_or, Bool.or_false, Bool.or_true, Option.bind_some, Int.zero_add, Int.toNat_natCast, Int.cast_ofNat_Int, Int.natCast_zero, Int.natCast_one, Int.reduceToNat, Int.reducePow, List.all_cons, List.all_nil, List.any_cons, List.any_nil, id, Bool.not_not, List.length_map, Bool.and_true, Bool.and_false]
  · refine ⟨vc z y x, ?_, _, _, _, rfl, up sz, up sy, up sx⟩
    simp -implicitDefEqProofs only [c_1, d__law_near, b__law_near, lv, bind_ok, bind_exc, st_ok, st_exc, seq_nx, seq_rt, seq_bk, seq_ct, seq_exc, opt_s, lift_s, map_s, get_0, get_s, put_0, put_s, run_eq, fin_nx, fin_rt, fin_exc, d_un, d_own, f_own, d_non, f_non, er_non, d_bl, f_bl, er_bl, d_int, f_int, er_int, d_str, f_str, er_str, d_lst, f_lst, er_lst, d_tup, f_tup, er_tup, d_dct, f_dct, er_dct, d_scr, f_scr, er_scr, d_ty, f_ty, er_ty, d_cls, f_cls, er_cls, b1_con, b2_con, bL_con, b1_glb, b2_glb, bL_glb, b1_bin, b2_bin, bL_bin, b1_neg, b2_neg, bL_neg, b1_not, b2_not, bL_not, b1_and, b2_and, bL_and, b1_or, b2_or, bL_or, b1_cmp, b2_cmp, bL_cmp, b1_chain, b2_chain, bL_chain, b1_ite, b2_ite, bL_ite, b1_tup, b2_tup, bL_tup, b1_lst, b2_lst, bL_lst, b1_dct, b2_dct, bL_dct, b1_idx, b2_idx, bL_idx, b1_slc, b2_slc, bL_slc, b1_call, b2_call, bL_call, b1_bi, b2_bi, bL_bi, b1_comp, b2_comp, bL_comp, b1_pop, b2_pop, bL_pop, b1_meth, b2_meth, bL_meth, b1_efld, b2_efld, bL_efld, b1_eisi, b2_eisi, bL_eisi, b1_var, b2_var, bL_var, isi_int_non, isi_int_bl, isi_int_int, isi_int_str, isi_int_lst, isi_int_tup, isi_int_dct, isi_bool_non, isi_bool_bl, isi_bool_int, isi_bool_str, isi_bool_lst, isi_bool_tup, isi_bool_dct, isi_str_non, isi_str_bl, isi_str_int, isi_str_str, isi_str_lst, isi_str_tup, isi_str_dct, isi_list_non, isi_list_bl, isi_list_int, isi_list_str, isi_list_lst, isi_list_tup, isi_list_dct, isi_tuple_non, isi_tuple_bl, isi_tuple_int, isi_tuple_str, isi_tuple_lst, isi_tuple_tup, isi_tuple_dct, isi_dict_non, isi_dict_bl, isi_dict_int, isi_dict_str, isi_dict_lst, isi_dict_tup, isi_dict_dct, bf_int, bf_intb, bf_abs, bf_lenl, bf_lent, bf_lens, bf_lend, bf_min2, bf_max2, bf_sum, bf_tup, bf_tupt, bf_lst, bf_lstt, bo_add, bo_sub, bo_mul, bo_mod, bo_fdiv, bo_pow, bo_addl, co_lt, co_le, co_gt, co_ge, co_eqi, co_nei, co_eqs, eq_strs, co_is, co_isnot, ix_l, ix_t, tr_bl, tr_int, at_nat, sm_ni, sm_nn, sm_ti, sm_tt, sm_nt, sm_ns, sm_ts, sm_bb, sm_bn, sm_nl, sm_tl, sm_nb, sm_nd, sm_td, ranged_len, lim_lit, asgs_nil, asgs_cons, pat_1, pat_t, forK_nx, forK_ct, forK_bk, forK_rt, forK_exc, forL_nil, forL_cons, it_l, it_t, it_s, ol_l, ow_, mut_l, mut_d, fr_lst, fr_comp, fr_bin, fr_bil, fr_bis, fr_bi1, fr_bi2, fr_slc, fr_dct, sk_nx, sk_rt, sk_bk, sk_ct, sk_exc, ik_ok, ik_exc, fx_nil, fx_cons, fy_nx, fy_ct, fy_bk, fy_rt, fy_exc, tk_nx, tk_rt, tk_bk, tk_ct, tk_e0, tk_e1, w_skip, w_seq, w_set, w_setO, w_unpack, ak_, w_app, w_put, ps_l, ps_d, pl_i, w_aug, ag_add, ag_sub, w_expr, rv_fz, rv_own, w_ret_var, w_retN, w_ite, w_for, w_while, w_brk, w_cnt, w_raise, w_try, w_frz, e_con, e_var, e_glb, e_bin, e_neg, e_not, e_and, e_or, e_cmp, e_chain, e_ite, e_tup, e_lst, e_dct, e_idx, e_slc, ck_ret, ck_exc, e_call, e_bi1, e_bi2, e_comp, lx_nil, e_efld, e_eisi, nil_e, sub_n, sub_s, gone_rt, gone_nx, hush_nx, hush_rt, lt_lit, xr_con, xr_glb, xr_bin, xr_neg, xr_not, xr_and, xr_or, xr_cmp, xr_chain, xr_ite, xr_tup, xr_lst, xr_dct, xr_idx, xr_slc, xr_call, xr_bi, xr_comp, xr_pop, xr_efld, xr_eisi, at_k0, at_k1, at_k2, at_k3, at_k4, at_k5, at_k6, at_k7, at_k8, at_k9, at_k10, at_k11, at_k12, at_k13, at_k14, at_k15, at_k16, at_k17, at_k18, at_k19, at_k20, or_s, lx_cons, ly_some, ly_none, tx_, op_nil, op_cons, we_nil, we_cons, sp_nil, sp_cons, rp_nil, rp_cons, rg_0, rg_1, rg_2, rg_3, rg_4, rg_5, bls_n, bls_c, ints_n, ints_c, bf_all, bf_any, bf_gcd, bm_var, bn_, bm_lst, e_meth, my_ixl, mf_ix, xr_meth, bf_isqrt, bf_lr1, bf_lr2, bf_min1, bf_max1, mk_c, xk_c, asg_nil, evL, evC, evP, evI, List.map, List.length_cons, List.length_nil, List.cons_append, List.nil_append, List.replicate, if_true, reduceIte, Nat.sub_self, Nat.reduceAdd, Nat.reduceSub, Nat.reduceLT, Bool.false_eq_true, if_false, Bool.not_false, Bool.not_true, Bool.false_and, Bool.true_and, Option.isNone_some, Option.map_some, Nat.reduceEqDiff, Nat.zero_add, Nat.add_zero, Nat.reduceLeDiff, Int.reduceLT, Int.reduceLE, Int.reduceMod, Int.reduceAdd, Int.reduceSub, Int.reduceNeg, Int.reduceMul, Int.reduceBEq, decide_true, decide_false, bne_self_eq_false, BEq.rfl, and_self, Bool.false_or, Bool.true_or, Bool.or_false, Bool.or_true, Option.bind_some, Int.zero_add, Int.toNat_natCast, Int.cast_ofNat_Int, Int.natCast_zero, Int.natCast_one, Int.reduceToNat, Int.reducePow, List.all_cons, List.all_nil, List.any_cons, List.any_nil, id, Bool.not_not, List.length_map, Bool.and_true, Bool.and_false]
  · have m1 := mulS (ea_sm b) (ea_sm r4)
    have m2 := mulS (ea_sm (b + 9)) (ea_sm (r4 + 9))
    have m3 := mulS (ea_sm b) (ea_sm (r4 + 9))
    have m4 := mulS (ea_sm (b + 9)) (ea_sm r4)
    have t1 : sm 15 (ea b * ea r4 - ea (b + 9) * ea (r4 + 9)) := smd ((ea_sm b).mul (ea_sm r4)) ((ea_sm (b + 9)).mul (ea_sm (r4 + 9))) (by decide)
    have t2 : sm 15 (ea b * ea (r4 + 9) + ea (b + 9) * ea r4) := sma ((ea_sm b).mul (ea_sm (r4 + 9))) ((ea_sm (b + 9)).mul (ea_sm r4)) (by decide)
    have m5 := mulS g2 t1
    have m6 := mulS g2 t2
    refine ⟨vc (h * (ea b * ea r4 - ea (b + 9) * ea (r4 + 9))) (h * (ea b * ea (r4 + 9) + ea (b + 9) * ea r4)) 0, ?_, _, _, _, rfl, (g2.mul t1).mono (by decide), (g2.mul t2).mono (by decide), lit _ _⟩
    simp -implicitDefEqProofs only [c_1, d__law_near, b__law_near, lv, c_law_east, m1, m2, m3, m4, m5, m6, bind_ok, bind_exc, st_ok, st_exc, seq_nx, seq_rt, seq_bk, seq_ct, seq_exc, opt_s, lift_s, map_s, get_0, get_s, put_0, put_s, run_eq, fin_nx, fin_rt, fin_exc, d_un, d_own, f_own, d_non, f_non, er_non, d_bl, f_bl, er_bl, d_int, f_int, er_int, d_str, f_str, er_str, d_lst, f_lst, er_lst, d_tup, f_tup, er_tup, d_dct, f_dct, er_dct, d_scr, f_scr, er_scr, d_ty, f_ty, er_ty, d_cls, f_cls, er_cls, b1_con, b2_con, bL_con, b1_glb, b2_glb, bL_glb, b1_bin, b2_bin, bL_bin, b1_neg, b2_neg, bL_neg, b1_not, b2_not, bL_not, b1_and, b2_and, bL_and, b1_or, b2_or, bL_or, b1_cmp, b2_cmp, bL_cmp, b1_chain, b2_chain, bL_chain, b1_ite, b2_ite, bL_ite, b1_tup, b2_tup, bL_tup, b1_lst, b2_lst, bL_lst, b1_dct, b2_dct, bL_dct, b1_idx, b2_idx, bL_idx, b1_slc, b2_slc, bL_slc, b1_call, b2_call, bL_call, b1_bi, b2_bi, bL_bi, b1_comp, b2_comp, bL_comp, b1_pop, b2_pop, bL_pop, b1_meth, b2_meth, bL_meth, b1_efld, b2_efld, bL_efld, b1_eisi, b2_eisi, bL_eisi, b1_var, b2_var, bL_var, isi_int_non, isi_int_bl, isi_int_int, isi_int_str, isi_int_lst, isi_int_tup, isi_int_dct, isi_bool_non, isi_bool_bl, isi_bool_int, isi_bool_str, isi_bool_lst, isi_bool_tup, isi_bool_dct, isi_str_non, isi_str_bl, isi_str_int, isi_str_str, isi_str_lst, isi_str_tup, isi_str_dct, isi_list_non, isi_list_bl, isi_list_int, isi_list_str, isi_list_lst, isi_list_tup, isi_list_dct, isi_tuple_non, isi_tuple_bl, isi_tuple_int, isi_tuple_str, isi_tuple_lst, isi_tuple_tup, isi_tuple_dct, isi_dict_non, isi_dict_bl, isi_dict_int, isi_dict_str, isi_dict_lst, isi_dict_tup, isi_dict_dct, bf_int, bf_intb, bf_abs, bf_lenl, bf_lent, bf_lens, bf_lend, bf_min2, bf_max2, bf_sum, bf_tup, bf_tupt, bf_lst, bf_lstt, bo_add, bo_sub, bo_mul, bo_mod, bo_fdiv, bo_pow, bo_addl, co_lt, co_le, co_gt, co_ge, co_eqi, co_nei, co_eqs, eq_strs, co_is, co_isnot, ix_l, ix_t, tr_bl, tr_int, at_nat, sm_ni, sm_nn, sm_ti, sm_tt, sm_nt, sm_ns, sm_ts, sm_bb, sm_bn, sm_nl, sm_tl, sm_nb, sm_nd, sm_td, ranged_len, lim_lit, asgs_nil, asgs_cons, pat_1, pat_t, forK_nx, forK_ct, forK_bk, forK_rt, forK_exc, forL_nil, forL_cons, it_l, it_t, it_s, ol_l, ow_, mut_l, mut_d, fr_lst, fr_comp, fr_bin, fr_bil, fr_bis, fr_bi1, fr_bi2, fr_slc, fr_dct, sk_nx, sk_rt, sk_bk, sk_ct, sk_exc, ik_ok, ik_exc, fx_nil, fx_cons, fy_nx, fy_ct, fy_bk, fy_rt, fy_exc, tk_nx, tk_rt, tk_bk, tk_ct, tk_e0, tk_e1, w_skip, w_seq, w_set, w_setO, w_unpack, ak_, w_app, w_put, ps_l, ps_d, pl_i, w_aug, ag_add, ag_sub, w_expr, rv_fz, rv_own, w_ret_var, w_retN, w_ite, w_for, w_while, w_brk, w_cnt, w_raise, w_try, w_frz, e_con, e_var, e_glb, e_bin, e_neg, e_not, e_and, e_or, e_cmp, e_chain, e_ite, e_tup, e_lst, e_dct, e_idx, e_slc, ck_ret, ck_exc, e_call, e_bi1, e_bi2, e_comp, lx_nil, e_efld, e_eisi, nil_e, sub_n, sub_s, gone_rt, gone_nx, hush_nx, hush_rt, lt_lit, xr_con, xr_glb, xr_bin, xr_neg, xr_not, xr_and, xr_or, xr_cmp, xr_chain, xr_ite, xr_tup, xr_lst, xr_dct, xr_idx, xr_slc, xr_call, xr_bi, xr_comp, xr_pop, xr_efld, xr_eisi, at_k0, at_k1, at_k2, at_k3, at_k4, at_k5, at_k6, at_k7, at_k8, at_k9, at_k10, at_k11, at_k12, at_k13, at_k14, at_k15, at_k16, at_k17, at_k18, at_k19, at_k20, or_s, lx_cons, ly_some, ly_none, tx_, op_nil, op_cons, we_nil, we_cons, sp_nil, sp_cons, rp_nil, rp_cons, rg_0, rg_1, rg_2, rg_3, rg_4, rg_5, bls_n, bls_c, ints_n, ints_c, bf_all, bf_any, bf_gcd, bm_var, bn_, bm_lst, e_meth, my_ixl, mf_ix, xr_meth, bf_isqrt, bf_lr1, bf_lr2, bf_min1, bf_max1, mk_c, xk_c, asg_nil, evL, evC, evP, evI, List.map, List.length_cons, List.length_nil, List.cons_append, List.nil_append, List.replicate, if_true, reduceIte, Nat.sub_self, Nat.reduceAdd, Nat.reduceSub, Nat.reduceLT, Bool.false_eq_true, if_false, Bool.not_false, Bool.not_true, Bool.false_and, Bool.true_and, Option.isNone_some, Option.map_some, Nat.reduceEqDiff, Nat.zero_add, Nat.add_zero, Nat.reduceLeDiff, Int.reduceLT, Int.reduceLE, Int.reduceMod, Int.reduceAdd, Int.reduceSub, Int.reduceNeg, Int.reduceMul, Int.reduceBEq, decide_true, decide_false, bne_self_eq_false, BEq.rfl, and_self, Bool.false_or, Bool.true_or, Bool.or_false, Bool.or_true, Option.bind_some, Int.zero_add, Int.toNat_natCast, Int.cast_ofNat_Int, Int.natCast_zero, Int.natCast_one, Int.reduceToNat, Int.reducePow, List.all_cons, List.all_nil, List.any_cons, List.any_nil, id, Bool.not_not, List.length_map, Bool.and_true, Bool.and_false]
  · exact c_near_div h b s 4 r1 r2 r3 r4 r5 r6 r7 x y z (.inl rfl) lv h2 h2' up sx sy sz
  · exact c_near_div h b s 5 r1 r2 r3 r4 r5 r6 r7 x y z (.inr rfl) lv h2 h2' up sx sy sz
  · have sn : ∀ {i : Int}, sm 120 i → sm 140 (-i) := fun h => by
      have h := up h
      unfold sm at *; rw [Int.natAbs_neg]; exact h
    rcases ax with rfl | rfl | rfl
    · refine ⟨vc (-x) y z, ?_, _, _, _, rfl, sn sx, up sy, up sz⟩
      simp -implicitDefEqProofs only [c_1, d__law_near, b__law_near, lv, x0, x1, x2, List.set_cons_zero, List.set_cons_succ, opt, bind_ok, bind_exc, st_ok, st_exc, seq_nx, seq_rt, seq_bk, seq_ct, seq_exc, opt_s, lift_s, map_s, get_0, get_s, put_0, put_s, run_eq, fin_nx, fin_rt, fin_exc, d_un, d_own, f_own, d_non, f_non, er_non, d_bl, f_bl, er_bl, d_int, f_int, er_int, d_str, f_str, er_str, d_lst, f_lst, er_lst, d_tup, f_tup, er_tup, d_dct, f_dct, er_dct, d_scr, f_scr, er_scr, d_ty, f_ty, er_ty, d_cls, f_cls, er_cls, b1_con, b2_con, bL_con, b1_glb, b2_glb, bL_glb, b1_bin, b2_bin, bL_bin, b1_neg, b2_neg, bL_neg, b1_not, b2_not, bL_not, b1_and, b2_and, bL_and, b1_or, b2_or, bL_or, b1_cmp, b2_cmp, bL_cmp, b1_chain, b2_chain, bL_chain, b1_ite, b2_ite, bL_ite, b1_tup, b2_tup, bL_tup, b1_lst, b2_lst, bL_lst, b1_dct, b2_dct, bL_dct, b1_idx, b2_idx, bL_idx, b1_slc, b2_slc, bL_slc, b1_call, b2_call, bL_call, b1_bi, b2_bi, bL_bi, b1_comp, b2_comp, bL_comp, b1_pop, b2_pop, bL_pop, b1_meth, b2_meth, bL_meth, b1_efld, b2_efld, bL_efld, b1_eisi, b2_eisi, bL_eisi, b1_var, b2_var, bL_var, isi_int_non, isi_int_bl, isi_int_int, isi_int_str, isi_int_lst, isi_int_tup, isi_int_dct, isi_bool_non, isi_bool_bl, isi_bool_int, isi_bool_str, isi_bool_lst, isi_bool_tup, isi_bool_dct, isi_str_non, isi_str_bl, isi_str_int, isi_str_str, isi_str_lst, isi_str_tup, isi_str_dct, isi_list_non, isi_list_bl, isi_list_int, isi_list_str, isi_list_lst, isi_list_tup, isi_list_dct, isi_tuple_non, isi_tuple_bl, isi_tuple_int, isi_tuple_str, isi_tuple_lst, isi_tuple_tup, isi_tuple_dct, isi_dict_non, isi_dict_bl, isi_dict_int, isi_dict_str, isi_dict_lst, isi_dict_tup, isi_dict_dct, bf_int, bf_intb, bf_abs, bf_lenl, bf_lent, bf_lens, bf_lend, bf_min2, bf_max2, bf_sum, bf_tup, bf_tupt, bf_lst, bf_lstt, bo_add, bo_sub, bo_mul, bo_mod, bo_fdiv, bo_pow, bo_addl, co_lt, co_le, co_gt, co_ge, co_eqi, co_nei, co_eqs, eq_strs, co_is, co_isnot, ix_l, ix_t, tr_bl, tr_int, at_nat, sm_ni, sm_nn, sm_ti, sm_tt, sm_nt, sm_ns, sm_ts, sm_bb, sm_bn, sm_nl, sm_tl, sm_nb, sm_nd, sm_td, ranged_len, lim_lit, asgs_nil, asgs_cons, pat_1, pat_t, forK_nx, forK_ct, forK_bk, forK_rt, forK_exc, forL_nil, forL_cons, it_l, it_t, it_s, ol_l, ow_, mut_l, mut_d, fr_lst, fr_comp, fr_bin, fr_bil, fr_bis, fr_bi1, fr_bi2, fr_slc, fr_dct, sk_nx, sk_rt, sk_bk, sk_ct, sk_exc, ik_ok, ik_exc, fx_nil, fx_cons, fy_nx, fy_ct, fy_bk, fy_rt, fy_exc, tk_nx, tk_rt, tk_bk, tk_ct, tk_e0, tk_e1, w_skip, w_seq, w_set, w_setO, w_unpack, ak_, w_app, w_put, ps_l, ps_d, pl_i, w_aug, ag_add, ag_sub, w_expr, rv_fz, rv_own, w_ret_var, w_retN, w_ite, w_for, w_while, w_brk, w_cnt, w_raise, w_try, w_frz, e_con, e_var, e_glb, e_bin, e_neg, e_not, e_and, e_or, e_cmp, e_chain, e_ite, e_tup, e_lst, e_dct, e_idx, e_slc, ck_ret, ck_exc, e_call, e_bi1, e_bi2, e_comp, lx_nil, e_efld, e_eisi, nil_e, sub_n, sub_s, gone_rt, gone_nx, hush_nx, hush_rt, lt_lit, xr_con, xr_glb, xr_bin, xr_neg, xr_not, xr_and, xr_or, xr_cmp, xr_chain, xr_ite, xr_tup, xr_lst, xr_dct, xr_idx, xr_slc, xr_call, xr_bi, xr_comp, xr_pop, xr_efld, xr_eisi, at_k0, at_k1, at_k2, at_k3, at_k4, at_k5, at_k6, at_k7, at_k8, at_k9, at_k10, at_k11, at_k12, at_k13, at_k14, at_k15, at_k16, at_k17, at_k18, at_k19, at_k20, or_s, lx_cons, ly_some, ly_none, tx_, op_nil, op_cons, we_nil, we_cons, sp_nil, sp_cons, rp_nil, rp_cons, rg_0, rg_1, rg_2, rg_3, rg_4, rg_5, bls_n, bls_c, ints_n, ints_c, bf_all, bf_any, bf_gcd, bm_var, bn_, bm_lst, e_meth, my_ixl, mf_ix, xr_meth, bf_isqrt, bf_lr1, bf_lr2, bf_min1, bf_max1, mk_c, xk_c, asg_nil, evL, evC, evP, evI, List.map, List.length_cons, List.length_nil, List.cons_append, List.nil_append, List.replicate, if_true, reduceIte, Nat.sub_self, Nat.reduceAdd, Nat.reduceSub, Nat.reduceLT, Bool.false_eq_true, if_false, Bool.not_false, Bool.not_true, Bool.false_and, Bool.true_and, Option.isNone_some, Option.map_some, Nat.reduceEqDiff, Nat.zero_add, Nat.add_zero, Nat.reduceLeDiff, Int.reduceLT, Int.reduceLE, Int.reduceMod, Int.reduceAdd, Int.reduceSub, Int.reduceNeg, Int.reduceMul, Int.reduceBEq, decide_true, decide_false, bne_self_eq_false, BEq.rfl, and_self, Bool.false_or, Bool.true_or, Bool.or_false, Bool.or_true, Option.bind_some, Int.zero_add, Int.toNat_natCast, Int.cast_ofNat_Int, Int.natCast_zero, Int.natCast_one, Int.reduceToNat, Int.reducePow, List.all_cons, List.all_nil, List.any_cons, List.any_nil, id, Bool.not_not, List.length_map, Bool.and_true, Bool.and_false]
    · refine ⟨vc x (-y) z, ?_, _, _, _, rfl, up sx, sn sy, up sz⟩
      simp -implicitDefEqProofs only [c_1, d__law_near, b__law_near, lv, x0, x1, x2, List.set_cons_zero, List.set_cons_succ, opt, bind_ok, bind_exc, st_ok, st_exc, seq_nx, seq_rt, seq_bk, seq_ct, seq_exc, opt_s, lift_s, map_s, get_0, get_s, put_0, put_s, run_eq, fin_nx, fin_rt, fin_exc, d_un, d_own, f_own, d_non, f_non, er_non, d_bl, f_bl, er_bl, d_int, f_int, er_int, d_str, f_str, er_str, d_lst, f_lst, er_lst, d_tup, f_tup, er_tup, d_dct, f_dct, er_dct, d_scr, f_scr, er_scr, d_ty, f_ty, er_ty, d_cls, f_cls, er_cls, b1_con, b2_con, bL_con, b1_glb, b2_glb, bL_glb, b1_bin, b2_bin, bL_bin, b1_neg, b2_neg, bL_neg, b1_not, b2_not, bL_not, b1_and, b2_and, bL_and, b1_or, b2_or, bL_or, b1_cmp, b2_cmp, bL_cmp, b1_chain, b2_chain, bL_chain, b1_ite, b2_ite, bL_ite, b1_tup, b2_tup, bL_tup, b1_lst, b2_lst, bL_lst, b1_dct, b2_dct, bL_dct, b1_idx, b2_idx, bL_idx, b1_slc, b2_slc, bL_slc, b1_call, b2_call, bL_call, b1_bi, b2_bi, bL_bi, b1_comp, b2_comp, bL_comp, b1_pop, b2_pop, bL_pop, b1_meth, b2_meth, bL_meth, b1_efld, b2_efld, bL_efld, b1_eisi, b2_eisi, bL_eisi, b1_var, b2_var, bL_var, isi_int_non, isi_int_bl, isi_int_int, isi_int_str, isi_int_lst, isi_int_tup, isi_int_dct, isi_bool_non, isi_bool_bl, isi_bool_int, isi_bool_str, isi_bool_lst, isi_bool_tup, isi_bool_dct, isi_str_non, isi_str_bl, isi_str_int, isi_str_str, isi_str_lst, isi_str_tup, isi_str_dct, isi_list_non, isi_list_bl, isi_list_int, isi_list_str, isi_list_lst, isi_list_tup, isi_list_dct, isi_tuple_non, isi_tuple_bl, isi_tuple_int, isi_tuple_str, isi_tuple_lst, isi_tuple_tup, isi_tuple_dct, isi_dict_non, isi_dict_bl, isi_dict_int, isi_dict_str, isi_dict_lst, isi_dict_tup, isi_dict_dct, bf_int, bf_intb, bf_abs, bf_lenl, bf_lent, bf_lens, bf_lend, bf_min2, bf_max2, bf_sum, bf_tup, bf_tupt, bf_lst, bf_lstt, bo_add, bo_sub, bo_mul, bo_mod, bo_fdiv, bo_pow, bo_addl, co_lt, co_le, co_gt, co_ge, co_eqi, co_nei, co_eqs, eq_strs, co_is, co_isnot, ix_l, ix_t, tr_bl, tr_int, at_nat, sm_ni, sm_nn, sm_ti, sm_tt, sm_nt, sm_ns, sm_ts, sm_bb, sm_bn, sm_nl, sm_tl, sm_nb, sm_nd, sm_td, ranged_len, lim_lit, asgs_nil, asgs_cons, pat_1, pat_t, forK_nx, forK_ct, forK_bk, forK_rt, forK_exc, forL_nil, forL_cons, it_l, it_t, it_s, ol_l, ow_, mut_l, mut_d, fr_lst, fr_comp, fr_bin, fr_bil, fr_bis, fr_bi1, fr_bi2, fr_slc, fr_dct, sk_nx, sk_rt, sk_bk, sk_ct, sk_exc, ik_ok, ik_exc, fx_nil, fx_cons, fy_nx, fy_ct, fy_bk, fy_rt, fy_exc, tk_nx, tk_rt, tk_bk, tk_ct, tk_e0, tk_e1, w_skip, w_seq, w_set, w_setO, w_unpack, ak_, w_app, w_put, ps_l, ps_d, pl_i, w_aug, ag_add, ag_sub, w_expr, rv_fz, rv_own, w_ret_var, w_retN, w_ite, w_for, w_while, w_brk, w_cnt, w_raise, w_try, w_frz, e_con, e_var, e_glb, e_bin, e_neg, e_not, e_and, e_or, e_cmp, e_chain, e_ite, e_tup, e_lst, e_dct, e_idx, e_slc, ck_ret, ck_exc, e_call, e_bi1, e_bi2, e_comp, lx_nil, e_efld, e_eisi, nil_e, sub_n, sub_s, gone_rt, gone_nx, hush_nx, hush_rt, lt_lit, xr_con, xr_glb, xr_bin, xr_neg, xr_not, xr_and, xr_or, xr_cmp, xr_chain, xr_ite, xr_tup, xr_lst, xr_dct, xr_idx, xr_slc, xr_call, xr_bi, xr_comp, xr_pop, xr_efld, xr_eisi, at_k0, at_k1, at_k2, at_k3, at_k4, at_k5, at_k6, at_k7, at_k8, at_k9, at_k10, at_k11, at_k12, at_k13, at_k14, at_k15, at_k16, at_k17, at_k18, at_k19, at_k20, or_s, lx_cons, ly_some, ly_none, tx_, op_nil, op_cons, we_nil, we_cons, sp_nil, sp_cons, rp_nil, rp_cons, rg_0, rg_1, rg_2, rg_3, rg_4, rg_5, bls_n, bls_c, ints_n, ints_c, bf_all, bf_any, bf_gcd, bm_var, bn_, bm_lst, e_meth, my_ixl, mf_ix, xr_meth, bf_isqrt, bf_lr1, bf_lr2, bf_min1, bf_max1, mk_c, xk_c, asg_nil, evL, evC, evP, evI, List.map, List.length_cons, List.length_nil, List.cons_append, List.nil_append, List.replicate, if_true, reduceIte, Nat.sub_self, Nat.reduceAdd, Nat.reduceSub, Nat.reduceLT, Bool.false_eq_true, if_false, Bool.not_false, Bool.not_true, Bool.false_and, Bool.true_and, Option.isNone_some, Option.map_some, Nat.reduceEqDiff, Nat.zero_add, Nat.add_zero, Nat.reduceLeDiff, Int.reduceLT, Int.reduceLE, Int.reduceMod, Int.reduceAdd, Int.reduceSub, Int.reduceNeg, Int.reduceMul, Int.reduceBEq, decide_true, decide_false, bne_self_eq_false, BEq.rfl, and_self, Bool.false_or, Bool.true_or, Bool.or_false, Bool.or_true, Option.bind_some, Int.zero_add, Int.toNat_natCast, Int.cast_ofNat_Int, Int.natCast_zero, Int.natCast_one, Int.reduceToNat, Int.reducePow, List.all_cons, List.all_nil, List.any_cons, List.any_nil, id, Bool.not_not, List.length_map, Bool.and_true, Bool.and_false]
    · refine ⟨vc x y (-z), ?_, _, _, _, rfl, up sx, up sy, sn sz⟩
      simp -implicitDefEqProofs only [c_1, d__law_near, b__law_near, lv, x0, x1, x2, List.set_cons_zero, List.set_cons_succ, opt, bind_ok, bind_exc, st_ok, st_exc, seq_nx, seq_rt, seq_bk, seq_ct, seq_exc, opt_s, lift_s, map_s, get_0, get_s, put_0, put_s, run_eq, fin_nx, fin_rt, fin_exc, d_un, d_own, f_own, d_non, f_non, er_non, d_bl, f_bl, er_bl, d_int, f_int, er_int, d_str, f_str, er_str, d_lst, f_lst, er_lst, d_tup, f_tup, er_tup, d_dct, f_dct, er_dct, d_scr, f_scr, er_scr, d_ty, f_ty, er_ty, d_cls, f_cls, er_cls, b1_con, b2_con, bL_con, b1_glb, b2_glb, bL_glb, b1_bin, b2_bin, bL_bin, b1_neg, b2_neg, bL_neg, b1_not, b2_not, bL_not, b1_and, b2_and, bL_and, b1_or, b2_or, bL_or, b1_cmp, b2_cmp, bL_cmp, b1_chain, b2_chain, bL_chain, b1_ite, b2_ite, bL_ite, b1_tup, b2_tup, bL_tup, b1_lst, b2_lst, bL_lst, b1_dct, b2_dct, bL_dct, b1_idx, b2_idx, bL_idx, b1_slc, b2_slc, bL_slc, b1_call, b2_call, bL_call, b1_bi, b2_bi, bL_bi, b1_comp, b2_comp, bL_comp, b1_pop, b2_pop, bL_pop, b1_meth, b2_meth, bL_meth, b1_efld, b2_efld, bL_efld, b1_eisi, b2_eisi, bL_eisi, b1_var, b2_var, bL_var, isi_int_non, isi_int_bl, isi_int_int, isi_int_str, isi_int_lst, isi_int_tup, isi_int_dct, isi_bool_non, isi_bool_bl, isi_bool_int, isi_bool_str, isi_bool_lst, isi_bool_tup, isi_bool_dct, isi_str_non, isi_str_bl, isi_str_int, isi_str_str, isi_str_lst, isi_str_tup, isi_str_dct, isi_list_non, isi_list_bl, isi_list_int, isi_list_str, isi_list_lst, isi_list_tup, isi_list_dct, isi_tuple_non, isi_tuple_bl, isi_tuple_int, isi_tuple_str, isi_tuple_lst, isi_tuple_tup, isi_tuple_dct, isi_dict_non, isi_dict_bl, isi_dict_int, isi_dict_str, isi_dict_lst, isi_dict_tup, isi_dict_dct, bf_int, bf_intb, bf_abs, bf_lenl, bf_lent, bf_lens, bf_lend, bf_min2, bf_max2, bf_sum, bf_tup, bf_tupt, bf_lst, bf_lstt, bo_add, bo_sub, bo_mul, bo_mod, bo_fdiv, bo_pow, bo_addl, co_lt, co_le, co_gt, co_ge, co_eqi, co_nei, co_eqs, eq_strs, co_is, co_isnot, ix_l, ix_t, tr_bl, tr_int, at_nat, sm_ni, sm_nn, sm_ti, sm_tt, sm_nt, sm_ns, sm_ts, sm_bb, sm_bn, sm_nl, sm_tl, sm_nb, sm_nd, sm_td, ranged_len, lim_lit, asgs_nil, asgs_cons, pat_1, pat_t, forK_nx, forK_ct, forK_bk, forK_rt, forK_exc, forL_nil, forL_cons, it_l, it_t, it_s, ol_l, ow_, mut_l, mut_d, fr_lst, fr_comp, fr_bin, fr_bil, fr_bis, fr_bi1, fr_bi2, fr_slc, fr_dct, sk_nx, sk_rt, sk_bk, sk_ct, sk_exc, ik_ok, ik_exc, fx_nil, fx_cons, fy_nx, fy_ct, fy_bk, fy_rt, fy_exc, tk_nx, tk_rt, tk_bk, tk_ct, tk_e0, tk_e1, w_skip, w_seq, w_set, w_setO, w_unpack, ak_, w_app, w_put, ps_l, ps_d, pl_i, w_aug, ag_add, ag_sub, w_expr, rv_fz, rv_own, w_ret_var, w_retN, w_ite, w_for, w_while, w_brk, w_cnt, w_raise, w_try, w_frz, e_con, e_var, e_glb, e_bin, e_neg, e_not, e_and, e_or, e_cmp, e_chain, e_ite, e_tup, e_lst, e_dct, e_idx, e_slc, ck_ret, ck_exc, e_call, e_bi1, e_bi2, e_comp, lx_nil, e_efld, e_eisi, nil_e, sub_n, sub_s, gone_rt, gone_nx, hush_nx, hush_rt, lt_lit, xr_con, xr_glb, xr_bin, xr_neg, xr_not, xr_and, xr_or, xr_cmp, xr_chain, xr_ite, xr_tup, xr_lst, xr_dct, xr_idx, xr_slc, xr_call, xr_bi, xr_comp, xr_pop, xr_efld, xr_eisi, at_k0, at_k1, at_k2, at_k3, at_k4, at_k5, at_k6, at_k7, at_k8, at_k9, at_k10, at_k11, at_k12, at_k13, at_k14, at_k15, at_k16, at_k17, at_k18, at_k19, at_k20, or_s, lx_cons, ly_some, ly_none, tx_, op_nil, op_cons, we_nil, we_cons, sp_nil, sp_cons, rp_nil, rp_cons, rg_0, rg_1, rg_2, rg_3, rg_4, rg_5, bls_n, bls_c, ints_n, ints_c, bf_all, bf_any, bf_gcd, bm_var, bn_, bm_lst, e_meth, my_ixl, mf_ix, xr_meth, bf_isqrt, bf_lr1, bf_lr2, bf_min1, bf_max1, mk_c, xk_c, asg_nil, evL, evC, evP, evI, List.map, List.length_cons, List.length_nil, List.cons_append, List.nil_append, List.replicate, if_true, reduceIte, Nat.sub_self, Nat.reduceAdd, Nat.reduceSub, Nat.reduceLT, Bool.false_eq_true, if_false, Bool.not_false, Bool.not_true, Bool.false_and, Bool.true_and, Option.isNone_some, Option.map_some, Nat.reduceEqDiff, Nat.zero_add, Nat.add_zero, Nat.reduceLeDiff, Int.reduceLT, Int.reduceLE, Int.reduceMod, Int.reduceAdd, Int.reduceSub, Int.reduceNeg, Int.reduceMul, Int.reduceBEq, decide_true, decide_false, bne_self_eq_false, BEq.rfl, and_self, Bool.false_or, Bool.true_or, Bool.or_false, Bool.or_true, Option.bind_some, Int.zero_add, Int.toNat_natCast, Int.cast_ofNat_Int, Int.natCast_zero, Int.natCast_one, Int.reduceToNat, Int.reducePow, List.all_cons, List.all_nil, List.any_cons, List.any_nil, id, Bool.not_not, List.length_map, Bool.and_true, Bool.and_false]
  · rcases ax with rfl | rfl | rfl
    · refine ⟨vc 0 y z, ?_, _, _, _, rfl, lit _ _, up sy, up sz⟩
      simp -implicitDefEqProofs only [c_1, d__law_near, b__law_near, lv, x0, x1, x2, List.set_cons_zero, List.set_cons_succ, opt, bind_ok, bind_exc, st_ok, st_exc, seq_nx, seq_rt, seq_bk, seq_ct, seq_exc, opt_s, lift_s, map_s, get_0, get_s, put_0, put_s, run_eq, fin_nx, fin_rt, fin_exc, d_un, d_own, f_own, d_non, f_non, er_non, d_bl, f_bl, er_bl, d_int, f_int, er_int, d_str, f_str, er_str, d_lst, f_lst, er_lst, d_tup, f_tup, er_tup, d_dct, f_dct, er_dct, d_scr, f_scr, er_scr, d_ty, f_ty, er_ty, d_cls, f_cls, er_cls, b1_con, b2_con, bL_con, b1_glb, b2_glb, bL_glb, b1_bin, b2_bin, bL_bin, b1_neg, b2_neg, bL_neg, b1_not, b2_not, bL_not, b1_and, b2_and, bL_and, b1_or, b2_or, bL_or, b1_cmp, b2_cmp, bL_cmp, b1_chain, b2_chain, bL_chain, b1_ite, b2_ite, bL_ite, b1_tup, b2_tup, bL_tup, b1_lst, b2_lst, bL_lst, b1_dct, b2_dct, bL_dct, b1_idx, b2_idx, bL_idx, b1_slc, b2_slc, bL_slc, b1_call, b2_call, bL_call, b1_bi, b2_bi, bL_bi, b1_comp, b2_comp, bL_comp, b1_pop, b2_pop, bL_pop, b1_meth, b2_meth, bL_meth, b1_efld, b2_efld, bL_efld, b1_eisi, b2_eisi, bL_eisi, b1_var, b2_var, bL_var, isi_int_non, isi_int_bl, isi_int_int, isi_int_str, isi_int_lst, isi_int_tup, isi_int_dct, isi_bool_non, isi_bool_bl, isi_bool_int, isi_bool_str, isi_bool_lst, isi_bool_tup, isi_bool_dct, isi_str_non, isi_str_bl, isi_str_int, isi_str_str, isi_str_lst, isi_str_tup, isi_str_dct, isi_list_non, isi_list_bl, isi_list_int, isi_list_str, isi_list_lst, isi_list_tup, isi_list_dct, isi_tuple_non, isi_tuple_bl, isi_tuple_int, isi_tuple_str, isi_tuple_lst, isi_tuple_tup, isi_tuple_dct, isi_dict_non, isi_dict_bl, isi_dict_int, isi_dict_str, isi_dict_lst, isi_dict_tup, isi_dict_dct, bf_int, bf_intb, bf_abs, bf_lenl, bf_lent, bf_lens, bf_lend, bf_min2, bf_max2, bf_sum, bf_tup, bf_tupt, bf_lst, bf_lstt, bo_add, bo_sub, bo_mul, bo_mod, bo_fdiv, bo_pow, bo_addl, co_lt, co_le, co_gt, co_ge, co_eqi, co_nei, co_eqs, eq_strs, co_is, co_isnot, ix_l, ix_t, tr_bl, tr_int, at_nat, sm_ni, sm_nn, sm_ti, sm_tt, sm_nt, sm_ns, sm_ts, sm_bb, sm_bn, sm_nl, sm_tl, sm_nb, sm_nd, sm_td, ranged_len, lim_lit, asgs_nil, asgs_cons, pat_1, pat_t, forK_nx, forK_ct, forK_bk, forK_rt, forK_exc, forL_nil, forL_cons, it_l, it_t, it_s, ol_l, ow_, mut_l, mut_d, fr_lst, fr_comp, fr_bin, fr_bil, fr_bis, fr_bi1, fr_bi2, fr_slc, fr_dct, sk_nx, sk_rt, sk_bk, sk_ct, sk_exc, ik_ok, ik_exc, fx_nil, fx_cons, fy_nx, fy_ct, fy_bk, fy_rt, fy_exc, tk_nx, tk_rt, tk_bk, tk_ct, tk_e0, tk_e1, w_skip, w_seq, w_set, w_setO, w_unpack, ak_, w_app, w_put, ps_l, ps_d, pl_i, w_aug, ag_add, ag_sub, w_expr, rv_fz, rv_own, w_ret_var, w_retN, w_ite, w_for, w_while, w_brk, w_cnt, w_raise, w_try, w_frz, e_con, e_var, e_glb, e_bin, e_neg, e_not, e_and, e_or, e_cmp, e_chain, e_ite, e_tup, e_lst, e_dct, e_idx, e_slc, ck_ret, ck_exc, e_call, e_bi1, e_bi2, e_comp, lx_nil, e_efld, e_eisi, nil_e, sub_n, sub_s, gone_rt, gone_nx, hush_nx, hush_rt, lt_lit, xr_con, xr_glb, xr_bin, xr_neg, xr_not, xr_and, xr_or, xr_cmp, xr_chain, xr_ite, xr_tup, xr_lst, xr_dct, xr_idx, xr_slc, xr_call, xr_bi, xr_comp, xr_pop, xr_efld, xr_eisi, at_k0, at_k1, at_k2, at_k3, at_k4, at_k5, at_k6, at_k7, at_k8, at_k9, at_k10, at_k11, at_k12, at_k13, at_k14, at_k15, at_k16, at_k17, at_k18, at_k19, at_k20, or_s, lx_cons, ly_some, ly_none, tx_, op_nil, op_cons, we_nil, we_cons, sp_nil, sp_cons, rp_nil, rp_cons, rg_0, rg_1, rg_2, rg_3, rg_4, rg_5, bls_n, bls_c, ints_n, ints_c, bf_all, bf_any, bf_gcd, bm_var, bn_, bm_lst, e_meth, my_ixl, mf_ix, xr_meth, bf_isqrt, bf_lr1, bf_lr2, bf_min1, bf_max1, mk_c, xk_c, asg_nil, evL, evC, evP, evI, List.map, List.length_cons, List.length_nil, List.cons_append, List.nil_append, List.replicate, if_true, reduceIte, Nat.sub_self, Nat.reduceAdd, Nat.reduceSub, Nat.reduceLT, Bool.false_eq_true, if_false, Bool.not_false, Bool.not_true, Bool.false_and, Bool.true_and, Option.isNone_some, Option.map_some, Nat.reduceEqDiff, Nat.zero_add, Nat.add_zero, Nat.reduceLeDiff, Int.reduceLT, Int.reduceLE, Int.reduceMod, Int.reduceAdd, Int.reduceSub, Int.reduceNeg, Int.reduceMul, Int.reduceBEq, decide_true, decide_false, bne_self_eq_false, BEq.rfl, and_self, Bool.false_or, Bool.true_or, Bool.or_false, Bool.or_true, Option.bind_some, Int.zero_add, Int.toNat_natCast, Int.cast_ofNat_Int, Int.natCast_zero, Int.natCast_one, Int.reduceToNat, Int.reducePow, List.all_cons, List.all_nil, List.any_cons, List.any_nil, id, Bool.not_not, List.length_map, Bool.and_true, Bool.and_false]
    · refine ⟨vc x 0 z, ?_, _, _, _, rfl, up sx, lit _ _, up sz⟩
      simp -implicitDefEqProofs only [c_1, d__law_near, b__law_near, lv, x0, x1, x2, List.set_cons_zero, List.set_cons_succ, opt, bind_ok, bind_exc, st_ok, st_exc, seq_nx, seq_rt, seq_bk, seq_ct, seq_exc, opt_s, lift_s, map_s, get_0, get_s, put_0, put_s, run_eq, fin_nx, fin_rt, fin_exc, d_un, d_own, f_own, d_non, f_non, er_non, d_bl, f_bl, er_bl, d_int, f_int, er_int, d_str, f_str, er_str, d_lst, f_lst, er_lst, d_tup, f_tup, er_tup, d_dct, f_dct, er_dct, d_scr, f_scr, er_scr, d_ty, f_ty, er_ty, d_cls, f_cls, er_cls, b1_con, b2_con, bL_con, b1_glb, b2_glb, bL_glb, b1_bin, b2_bin, bL_bin, b1_neg, b2_neg, bL_neg, b1_not, b2_not, bL_not, b1_and, b2_and, bL_and, b1_or, b2_or, bL_or, b1_cmp, b2_cmp, bL_cmp, b1_chain, b2_chain, bL_chain, b1_ite, b2_ite, bL_ite, b1_tup, b2_tup, bL_tup, b1_lst, b2_lst, bL_lst, b1_dct, b2_dct, bL_dct, b1_idx, b2_idx, bL_idx, b1_slc, b2_slc, bL_slc, b1_call, b2_call, bL_call, b1_bi, b2_bi, bL_bi, b1_comp, b2_comp, bL_comp, b1_pop, b2_pop, bL_pop, b1_meth, b2_meth, bL_meth, b1_efld, b2_efld, bL_efld, b1_eisi, b2_eisi, bL_eisi, b1_var, b2_var, bL_var, isi_int_non, isi_int_bl, isi_int_int, isi_int_str, isi_int_lst, isi_int_tup, isi_int_dct, isi_bool_non, isi_bool_bl, isi_bool_int, isi_bool_str, isi_bool_lst, isi_bool_tup, isi_bool_dct, isi_str_non, isi_str_bl, isi_str_int, isi_str_str, isi_str_lst, isi_str_tup, isi_str_dct, isi_list_non, isi_list_bl, isi_list_int, isi_list_str, isi_list_lst, isi_list_tup, isi_list_dct, isi_tuple_non, isi_tuple_bl, isi_tuple_int, isi_tuple_str, isi_tuple_lst, isi_tuple_tup, isi_tuple_dct, isi_dict_non, isi_dict_bl, isi_dict_int, isi_dict_str, isi_dict_lst, isi_dict_tup, isi_dict_dct, bf_int, bf_intb, bf_abs, bf_lenl, bf_lent, bf_lens, bf_lend, bf_min2, bf_max2, bf_sum, bf_tup, bf_tupt, bf_lst, bf_lstt, bo_add, bo_sub, bo_mul, bo_mod, bo_fdiv, bo_pow, bo_addl, co_lt, co_le, co_gt, co_ge, co_eqi, co_nei, co_eqs, eq_strs, co_is, co_isnot, ix_l, ix_t, tr_bl, tr_int, at_nat, sm_ni, sm_nn, sm_ti, sm_tt, sm_nt, sm_ns, sm_ts, sm_bb, sm_bn, sm_nl, sm_tl, sm_nb, sm_nd, sm_td, ranged_len, lim_lit, asgs_nil, asgs_cons, pat_1, pat_t, forK_nx, forK_ct, forK_bk, forK_rt, forK_exc, forL_nil, forL_cons, it_l, it_t, it_s, ol_l, ow_, mut_l, mut_d, fr_lst, fr_comp, fr_bin, fr_bil, fr_bis, fr_bi1, fr_bi2, fr_slc, fr_dct, sk_nx, sk_rt, sk_bk, sk_ct, sk_exc, ik_ok, ik_exc, fx_nil, fx_cons, fy_nx, fy_ct, fy_bk, fy_rt, fy_exc, tk_nx, tk_rt, tk_bk, tk_ct, tk_e0, tk_e1, w_skip, w_seq, w_set, w_setO, w_unpack, ak_, w_app, w_put, ps_l, ps_d, pl_i, w_aug, ag_add, ag_sub, w_expr, rv_fz, rv_own, w_ret_var, w_retN, w_ite, w_for, w_while, w_brk, w_cnt, w_raise, w_try, w_frz, e_con, e_var, e_glb, e_bin, e_neg, e_not, e_and, e_or, e_cmp, e_chain, e_ite, e_tup, e_lst, e_dct, e_idx, e_slc, ck_ret, ck_exc, e_call, e_bi1, e_bi2, e_comp, lx_nil, e_efld, e_eisi, nil_e, sub_n, sub_s, gone_rt, gone_nx, hush_nx, hush_rt, lt_lit, xr_con, xr_glb, xr_bin, xr_neg, xr_not, xr_and, xr_or, xr_cmp, xr_chain, xr_ite, xr_tup, xr_lst, xr_dct, xr_idx, xr_slc, xr_call, xr_bi, xr_comp, xr_pop, xr_efld, xr_eisi, at_k0, at_k1, at_k2, at_k3, at_k4, at_k5, at_k6, at_k7, at_k8, at_k9, at_k10, at_k11, at_k12, at_k13, at_k14, at_k15, at_k16, at_k17, at_k18, at_k19, at_k20, or_s, lx_cons, ly_some, ly_none, tx_, op_nil, op_cons, we_nil, we_cons, sp_nil, sp_cons, rp_nil, rp_cons, rg_0, rg_1, rg_2, rg_3, rg_4, rg_5, bls_n, bls_c, ints_n, ints_c, bf_all, bf_any, bf_gcd, bm_var, bn_, bm_lst, e_meth, my_ixl, mf_ix, xr_meth, bf_isqrt, bf_lr1, bf_lr2, bf_min1, bf_max1, mk_c, xk_c, asg_nil, evL, evC, evP, evI, List.map, List.length_cons, List.length_nil, List.cons_append, List.nil_append, List.replicate, if_true, reduceIte, Nat.sub_self, Nat.reduceAdd, Nat.reduceSub, Nat.reduceLT, Bool.false_eq_true, if_false, Bool.not_false, Bool.not_true, Bool.false_and, Bool.true_and, Option.isNone_some, Option.map_some, Nat.reduceEqDiff, Nat.zero_add, Nat.add_zero, Nat.reduceLeDiff, Int.reduceLT, Int.reduceLE, Int.reduceMod, Int.reduceAdd, Int.reduceSub, Int.reduceNeg, Int.reduceMul, Int.reduceBEq, decide_true, decide_false, bne_self_eq_false, BEq.rfl, and_self, Bool.false_or, Bool.true_or, Bool.or_false, Bool.or_true, Option.bind_some, Int.zero_add, Int.toNat_natCast, Int.cast_ofNat_Int, Int.natCast_zero, Int.natCast_one, Int.reduceToNat, Int.reducePow, List.all_cons, List.all_nil, List.any_cons, List.any_nil, id, Bool.not_not, List.length_map, Bool.and_true, Bool.and_false]
    · refine ⟨vc x y 0, ?_, _, _, _, rfl, up sx, up sy, lit _ _⟩
      simp -implicitDefEqProofs only [c_1, d__law_near, b__law_near, lv, x0, x1, x2, List.set_cons_zero, List.set_cons_succ, opt, bind_ok, bind_exc, st_ok, st_exc, seq_nx, seq_rt, seq_bk, seq_ct, seq_exc, opt_s, lift_s, map_s, get_0, get_s, put_0, put_s, run_eq, fin_nx, fin_rt, fin_exc, d_un, d_own, f_own, d_non, f_non, er_non, d_bl, f_bl, er_bl, d_int, f_int, er_int, d_str, f_str, er_str, d_lst, f_lst, er_lst, d_tup, f_tup, er_tup, d_dct, f_dct, er_dct, d_scr, f_scr, er_scr, d_ty, f_ty, er_ty, d_cls, f_cls, er_cls, b1_con, b2_con, bL_con, b1_glb, b2_glb, bL_glb, b1_bin, b2_bin, bL_bin, b1_neg, b2_neg, bL_neg, b1_not, b2_not, bL_not, b1_and, b2_and, bL_and, b1_or, b2_or, bL_or, b1_cmp, b2_cmp, bL_cmp, b1_chain, b2_chain, bL_chain, b1_ite, b2_ite, bL_ite, b1_tup, b2_tup, bL_tup, b1_lst, b2_lst, bL_lst, b1_dct, b2_dct, bL_dct, b1_idx, b2_idx, bL_idx, b1_slc, b2_slc, bL_slc, b1_call, b2_call, bL_call, b1_bi, b2_bi, bL_bi, b1_comp, b2_comp, bL_comp, b1_pop, b2_pop, bL_pop, b1_meth, b2_meth, bL_meth, b1_efld, b2_efld, bL_efld, b1_eisi, b2_eisi, bL_eisi, b1_var, b2_var, bL_var, isi_int_non, isi_int_bl, isi_int_int, isi_int_str, isi_int_lst, isi_int_tup, isi_int_dct, isi_bool_non, isi_bool_bl, isi_bool_int, isi_bool_str, isi_bool_lst, isi_bool_tup, isi_bool_dct, isi_str_non, isi_str_bl, isi_str_int, isi_str_str, isi_str_lst, isi_str_tup, isi_str_dct, isi_list_non, isi_list_bl, isi_list_int, isi_list_str, isi_list_lst, isi_list_tup, isi_list_dct, isi_tuple_non, isi_tuple_bl, isi_tuple_int, isi_tuple_str, isi_tuple_lst, isi_tuple_tup, isi_tuple_dct, isi_dict_non, isi_dict_bl, isi_dict_int, isi_dict_str, isi_dict_lst, isi_dict_tup, isi_dict_dct, bf_int, bf_intb, bf_abs, bf_lenl, bf_lent, bf_lens, bf_lend, bf_min2, bf_max2, bf_sum, bf_tup, bf_tupt, bf_lst, bf_lstt, bo_add, bo_sub, bo_mul, bo_mod, bo_fdiv, bo_pow, bo_addl, co_lt, co_le, co_gt, co_ge, co_eqi, co_nei, co_eqs, eq_strs, co_is, co_isnot, ix_l, ix_t, tr_bl, tr_int, at_nat, sm_ni, sm_nn, sm_ti, sm_tt, sm_nt, sm_ns, sm_ts, sm_bb, sm_bn, sm_nl, sm_tl, sm_nb, sm_nd, sm_td, ranged_len, lim_lit, asgs_nil, asgs_cons, pat_1, pat_t, forK_nx, forK_ct, forK_bk, forK_rt, forK_exc, forL_nil, forL_cons, it_l, it_t, it_s, ol_l, ow_, mut_l, mut_d, fr_lst, fr_comp, fr_bin, fr_bil, fr_bis, fr_bi1, fr_bi2, fr_slc, fr_dct, sk_nx, sk_rt, sk_bk, sk_ct, sk_exc, ik_ok, ik_exc, fx_nil, fx_cons, fy_nx, fy_ct, fy_bk, fy_rt, fy_exc, tk_nx, tk_rt, tk_bk, tk_ct, tk_e0, tk_e1, w_skip, w_seq, w_set, w_setO, w_unpack, ak_, w_app, w_put, ps_l, ps_d, pl_i, w_aug, ag_add, ag_sub, w_expr, rv_fz, rv_own, w_ret_var, w_retN, w_ite, w_for, w_while, w_brk, w_cnt, w_raise, w_try, w_frz, e_con, e_var, e_glb, e_bin, e_neg, e_not, e_and, e_or, e_cmp, e_chain, e_ite, e_tup, e_lst, e_dct, e_idx, e_slc, ck_ret, ck_exc, e_call, e_bi1, e_bi2, e_comp, lx_nil, e_efld, e_eisi, nil_e, sub_n, sub_s, gone_rt, gone_nx, hush_nx, hush_rt, lt_lit, xr_con, xr_glb, xr_bin, xr_neg, xr_not, xr_and, xr_or, xr_cmp, xr_chain, xr_ite, xr_tup, xr_lst, xr_dct, xr_idx, xr_slc, xr_call, xr_bi, xr_comp, xr_pop, xr_efld, xr_eisi, at_k0, at_k1, at_k2, at_k3, at_k4, at_k5, at_k6, at_k7, at_k8, at_k9, at_k10, at_k11, at_k12, at_k13, at_k14, at_k15, at_k16, at_k17, at_k18, at_k19, at_k20, or_s, lx_cons, ly_some, ly_none, tx_, op_nil, op_cons, we_nil, we_cons, sp_nil, sp_cons, rp_nil, rp_cons, rg_0, rg_1, rg_2, rg_3, rg_4, rg_5, bls_n, bls_c, ints_n, ints_c, bf_all, bf_any, bf_gcd, bm_var, bn_, bm_lst, e_meth, my_ixl, mf_ix, xr_meth, bf_isqrt, bf_lr1, bf_lr2, bf_min1, bf_max1, mk_c, xk_c, asg_nil, evL, evC, evP, evI, List.map, List.length_cons, List.length_nil, List.cons_append, List.nil_append, List.replicate, if_true, reduceIte, Nat.sub_self, Nat.reduceAdd, Nat.reduceSub, Nat.reduceLT, Bool.false_eq_true, if_false, Bool.not_false, Bool.not_true, Bool.false_and, Bool.true_and, Option.isNone_some, Option.map_some, Nat.reduceEqDiff, Nat.zero_add, Nat.add_zero, Nat.reduceLeDiff, Int.reduceLT, Int.reduceLE, Int.reduceMod, Int.reduceAdd, Int.reduceSub, Int.reduceNeg, Int.reduceMul, Int.reduceBEq, decide_true, decide_false, bne_self_eq_false, BEq.rfl, and_self, Bool.false_or, Bool.true_or, Bool.or_false, Bool.or_true, Option.bind_some, Int.zero_add, Int.toNat_natCast, Int.cast_ofNat_Int, Int.natCast_zero, Int.natCast_one, Int.reduceToNat, Int.reducePow, List.all_cons, List.all_nil, List.any_cons, List.any_nil, id, Bool.not_not, List.length_map, Bool.and_true, Bool.and_false]
  · have st : sm 4 (1 + r2) := by unfold sm; omega
    have m1 := mulS sx st
    have m2 := mulS sy st
    have m3 := mulS sz st
    refine ⟨vc (x * (1 + r2)) (y * (1 + r2)) (z * (1 + r2)), ?_, _, _, _, rfl, (sx.mul st).mono (by decide), (sy.mul st).mono (by decide), (sz.mul st).mono (by decide)⟩
    simp -implicitDefEqProofs only [c_1, d__law_near, b__law_near, lv, m1, m2, m3, bind_ok, bind_exc, st_ok, st_exc, seq_nx, seq_rt, seq_bk, seq_ct, seq_exc, opt_s, lift_s, map_s, get_0, get_s, put_0, put_s, run_eq, fin_nx, fin_rt, fin_exc, d_un, d_own, f_own, d_non, f_non, er_non, d_bl, f_bl, er_bl, d_int, f_int, er_int, d_str, f_str, er_str, d_lst, f_lst, er_lst, d_tup, f_tup, er_tup, d_dct, f_dct, er_dct, d_scr, f_scr, er_scr, d_ty, f_ty, er_ty, d_cls, f_cls, er_cls, b1_con, b2_con, bL_con, b1_glb, b2_glb, bL_glb, b1_bin, b2_bin, bL_bin, b1_neg, b2_neg, bL_neg, b1_not, b2_not, bL_not, b1_and, b2_and, bL_and, b1_or, b2_or, bL_or, b1_cmp, b2_cmp, bL_cmp, b1_chain, b2_chain, bL_chain, b1_ite, b2_ite, bL_ite, b1_tup, b2_tup, bL_tup, b1_lst, b2_lst, bL_lst, b1_dct, b2_dct, bL_dct, b1_idx, b2_idx, bL_idx, b1_slc, b2_slc, bL_slc, b1_call, b2_call, bL_call, b1_bi, b2_bi, bL_bi, b1_comp, b2_comp, bL_comp, b1_pop, b2_pop, bL_pop, b1_meth, b2_meth, bL_meth, b1_efld, b2_efld, bL_efld, b1_eisi, b2_eisi, bL_eisi, b1_var, b2_var, bL_var, isi_int_non, isi_int_bl, isi_int_int, isi_int_str, isi_int_lst, isi_int_tup, isi_int_dct, isi_bool_non, isi_bool_bl, isi_bool_int, isi_bool_str, isi_bool_lst, isi_bool_tup, isi_bool_dct, isi_str_non, isi_str_bl, isi_str_int, isi_str_str, isi_str_lst, isi_str_tup, isi_str_dct, isi_list_non, isi_list_bl, isi_list_int, isi_list_str, isi_list_lst, isi_list_tup, isi_list_dct, isi_tuple_non, isi_tuple_bl, isi_tuple_int, isi_tuple_str, isi_tuple_lst, isi_tuple_tup, isi_tuple_dct, isi_dict_non, isi_dict_bl, isi_dict_int, isi_dict_str, isi_dict_lst, isi_dict_tup, isi_dict_dct, bf_int, bf_intb, bf_abs, bf_lenl, bf_lent, bf_lens, bf_lend, bf_min2, bf_max2, bf_sum, bf_tup, bf_tupt, bf_lst, bf_lstt, bo_add, bo_sub, bo_mul, bo_mod, bo_fdiv, bo_pow, bo_addl, co_lt, co_le, co_gt, co_ge, co_eqi, co_nei, co_eqs, eq_strs, co_is, co_isnot, ix_l, ix_t, tr_bl, tr_int, at_nat, sm_ni, sm_nn, sm_ti, sm_tt, sm_nt, sm_ns, sm_ts, sm_bb, sm_bn, sm_nl, sm_tl, sm_nb, sm_nd, sm_td, ranged_len, lim_lit, asgs_nil, asgs_cons, pat_1, pat_t, forK_nx, forK_ct, forK_bk, forK_rt, forK_exc, forL_nil, forL_cons, it_l, it_t, it_s, ol_l, ow_, mut_l, mut_d, fr_lst, fr_comp, fr_bin, fr_bil, fr_bis, fr_bi1, fr_bi2, fr_slc, fr_dct, sk_nx, sk_rt, sk_bk, sk_ct, sk_exc, ik_ok, ik_exc, fx_nil, fx_cons, fy_nx, fy_ct, fy_bk, fy_rt, fy_exc, tk_nx, tk_rt, tk_bk, tk_ct, tk_e0, tk_e1, w_skip, w_seq, w_set, w_setO, w_unpack, ak_, w_app, w_put, ps_l, ps_d, pl_i, w_aug, ag_add, ag_sub, w_expr, rv_fz, rv_own, w_ret_var, w_retN, w_ite, w_for, w_while, w_brk, w_cnt, w_raise, w_try, w_frz, e_con, e_var, e_glb, e_bin, e_neg, e_not, e_and, e_or, e_cmp, e_chain, e_ite, e_tup, e_lst, e_dct, e_idx, e_slc, ck_ret, ck_exc, e_call, e_bi1, e_bi2, e_comp, lx_nil, e_efld, e_eisi, nil_e, sub_n, sub_s, gone_rt, gone_nx, hush_nx, hush_rt, lt_lit, xr_con, xr_glb, xr_bin, xr_neg, xr_not, xr_and, xr_or, xr_cmp, xr_chain, xr_ite, xr_tup, xr_lst, xr_dct, xr_idx, xr_slc, xr_call, xr_bi, xr_comp, xr_pop, xr_efld, xr_eisi, at_k0, at_k1, at_k2, at_k3, at_k4, at_k5, at_k6, at_k7, at_k8, at_k9, at_k10, at_k11, at_k12, at_k13, at_k14, at_k15, at_k16, at_k17, at_k18, at_k19, at_k20, or_s, lx_cons, ly_some, ly_none, tx_, op_nil, op_cons, we_nil, we_cons, sp_nil, sp_cons, rp_nil, rp_cons, rg_0, rg_1, rg_2, rg_3, rg_4, rg_5, bls_n, bls_c, ints_n, ints_c, bf_all, bf_any, bf_gcd, bm_var, bn_, bm_lst, e_meth, my_ixl, mf_ix, xr_meth, bf_isqrt, bf_lr1, bf_lr2, bf_min1, bf_max1, mk_c, xk_c, asg_nil, evL, evC, evP, evI, List.map, List.length_cons, List.length_nil, List.cons_append, List.nil_append, List.replicate, if_true, reduceIte, Nat.sub_self, Nat.reduceAdd, Nat.reduceSub, Nat.reduceLT, Bool.false_eq_true, if_false, Bool.not_false, Bool.not_true, Bool.false_and, Bool.true_and, Option.isNone_some, Option.map_some, Nat.reduceEqDiff, Nat.zero_add, Nat.add_zero, Nat.reduceLeDiff, Int.reduceLT, Int.reduceLE, Int.reduceMod, Int.reduceAdd, Int.reduceSub, Int.reduceNeg, Int.reduceMul, Int.reduceBEq, decide_true, decide_false, bne_self_eq_false, BEq.rfl, and_self, Bool.false_or, Bool.true_or, Bool.or_false, Bool.or_true, Option.bind_some, Int.zero_add, Int.toNat_natCast, Int.cast_ofNat_Int, Int.natCast_zero, Int.natCast_one, Int.reduceToNat, Int.reducePow, List.all_cons, List.all_nil, List.any_cons, List.any_nil, id, Bool.not_not, List.length_map, Bool.and_true, Bool.and_false]
  · have s5 : sm 3 (r5 - 3) := by unfold sm; omega
    have s6 : sm 3 (r6 - 3) := by unfold sm; omega
    have s7 : sm 3 (r7 - 3) := by unfold sm; omega
    have m1 := mulS (lit 4225 13) s5
    have m2 := mulS (lit 4225 13) s6
    have m3 := mulS (lit 4225 13) s7
    refine ⟨vc (4225 * (r5 - 3)) (4225 * (r6 - 3)) (4225 * (r7 - 3)), ?_, _, _, _, rfl, ((lit 4225 13).mul s5).mono (by decide), ((lit 4225 13).mul s6).mono (by decide), ((lit 4225 13).mul s7).mono (by decide)⟩
    simp -implicitDefEqProofs only [c_1, d__law_near, b__law_near, lv, m1, m2, m3, bind_ok, bind_exc, st_ok, st_exc, seq_nx, seq_rt, seq_bk, seq_ct, seq_exc, opt_s, lift_s, map_s, get_0, get_s, put_0, put_s, run_eq, fin_nx, fin_rt, fin_exc, d_un, d_own, f_own, d_non, f_non, er_non, d_bl, f_bl, er_bl, d_int, f_int, er_int, d_str, f_str, er_str, d_lst, f_lst, er_lst, d_tup, f_tup, er_tup, d_dct, f_dct, er_dct, d_scr, f_scr, er_scr, d_ty, f_ty, er_ty, d_cls, f_cls, er_cls, b1_con, b2_con, bL_con, b1_glb, b2_glb, bL_glb, b1_bin, b2_bin, bL_bin, b1_neg, b2_neg, bL_neg, b1_not, b2_not, bL_not, b1_and, b2_and, bL_and, b1_or, b2_or, bL_or, b1_cmp, b2_cmp, bL_cmp, b1_chain, b2_chain, bL_chain, b1_ite, b2_ite, bL_ite, b1_tup, b2_tup, bL_tup, b1_lst, b2_lst, bL_lst, b1_dct, b2_dct, bL_dct, b1_idx, b2_idx, bL_idx, b1_slc, b2_slc, bL_slc, b1_call, b2_call, bL_call, b1_bi, b2_bi, bL_bi, b1_comp, b2_comp, bL_comp, b1_pop, b2_pop, bL_pop, b1_meth, b2_meth, bL_meth, b1_efld, b2_efld, bL_efld, b1_eisi, b2_eisi, bL_eisi, b1_var, b2_var, bL_var, isi_int_non, isi_int_bl, isi_int_int, isi_int_str, isi_int_lst, isi_int_tup, isi_int_dct, isi_bool_non, isi_bool_bl, isi_bool_int, isi_bool_str, isi_bool_lst, isi_bool_tup, isi_bool_dct, isi_str_non, isi_str_bl, isi_str_int, isi_str_str, isi_str_lst, isi_str_tup, isi_str_dct, isi_list_non, isi_list_bl, isi_list_int, isi_list_str, isi_list_lst, isi_list_tup, isi_list_dct, isi_tuple_non, isi_tuple_bl, isi_tuple_int, isi_tuple_str, isi_tuple_lst, isi_tuple_tup, isi_tuple_dct, isi_dict_non, isi_dict_bl, isi_dict_int, isi_dict_str, isi_dict_lst, isi_dict_tup, isi_dict_dct, bf_int, bf_intb, bf_abs, bf_lenl, bf_lent, bf_lens, bf_lend, bf_min2, bf_max2, bf_sum, bf_tup, bf_tupt, bf_lst, bf_lstt, bo_add, bo_sub, bo_mul, bo_mod, bo_fdiv, bo_pow, bo_addl, co_lt, co_le, co_gt, co_ge, co_eqi, co_nei, co_eqs, eq_strs, co_is, co_isnot, ix_l, ix_t, tr_bl, tr_int, at_nat, sm_ni, sm_nn, sm_ti, sm_tt, sm_nt, sm_ns, sm_ts, sm_bb, sm_bn, sm_nl, sm_tl, sm_nb, sm_nd, sm_td, ranged_len, lim_lit, asgs_nil, asgs_cons, pat_1, pat_t, forK_nx, forK_ct, forK_bk, forK_rt, forK_exc, forL_nil, forL_cons, it_l, it_t, it_s, ol_l, ow_, mut_l, mut_d, fr_lst, fr_comp, fr_bin, fr_bil, fr_bis, fr_bi1, fr_bi2, fr_slc, fr_dct, sk_nx, sk_rt, sk_bk, sk_ct, sk_exc, ik_ok, ik_exc, fx_nil, fx_cons, fy_nx, fy_ct, fy_bk, fy_rt, fy_exc, tk_nx, tk_rt, tk_bk, tk_ct, tk_e0, tk_e1, w_skip, w_seq, w_set, w_setO, w_unpack, ak_, w_app, w_put, ps_l, ps_d, pl_i, w_aug, ag_add, ag_sub, w_expr, rv_fz, rv_own, w_ret_var, w_retN, w_ite, w_for, w_while, w_brk, w_cnt, w_raise, w_try, w_frz, e_con, e_var, e_glb, e_bin, e_neg, e_not, e_and, e_or, e_cmp, e_chain, e_ite, e_tup, e_lst, e_dct, e_idx, e_slc, ck_ret, ck_exc, e_call, e_bi1, e_bi2, e_comp, lx_nil, e_efld, e_eisi, nil_e, sub_n, sub_s, gone_rt, gone_nx, hush_nx, hush_rt, lt_lit, xr_con, xr_glb, xr_bin, xr_neg, xr_not, xr_and, xr_or, xr_cmp, xr_chain, xr_ite, xr_tup, xr_lst, xr_dct, xr_idx, xr_slc, xr_call, xr_bi, xr_comp, xr_pop, xr_efld, xr_eisi, at_k0, at_k1, at_k2, at_k3, at_k4, at_k5, at_k6, at_k7, at_k8, at_k9, at_k10, at_k11, at_k12, at_k13, at_k14, at_k15, at_k16, at_k17, at_k18, at_k19, at_k20, or_s, lx_cons, ly_some, ly_none, tx_, op_nil, op_cons, we_nil, we_cons, sp_nil, sp_cons, rp_nil, rp_cons, rg_0, rg_1, rg_2, rg_3, rg_4, rg_5, bls_n, bls_c, ints_n, ints_c, bf_all, bf_any, bf_gcd, bm_var, bn_, bm_lst, e_meth, my_ixl, mf_ix, xr_meth, bf_isqrt, bf_lr1, bf_lr2, bf_min1, bf_max1, mk_c, xk_c, asg_nil, evL, evC, evP, evI, List.map, List.length_cons, List.length_nil, List.cons_append, List.nil_append, List.replicate, if_true, reduceIte, Nat.sub_self, Nat.reduceAdd, Nat.reduceSub, Nat.reduceLT, Bool.false_eq_true, if_false, Bool.not_false, Bool.not_true, Bool.false_and, Bool.true_and, Option.isNone_some, Option.map_some, Nat.reduceEqDiff, Nat.zero_add, Nat.add_zero, Nat.reduceLeDiff, Int.reduceLT, Int.reduceLE, Int.reduceMod, Int.reduceAdd, Int.reduceSub, Int.reduceNeg, Int.reduceMul, Int.reduceBEq, decide_true, decide_false, bne_self_eq_false, BEq.rfl, and_self, Bool.false_or, Bool.true_or, Bool.or_false, Bool.or_true, Option.bind_some, Int.zero_add, Int.toNat_natCast, Int.cast_ofNat_Int, Int.natCast_zero, Int.natCast_one, Int.reduceToNat, Int.reducePow, List.all_cons, List.all_nil, List.any_cons, List.any_nil, id, Bool.not_not, List.length_map, Bool.and_true, Bool.and_false]
end L

namespace L
open MP
variable {n : Nat}
def oddV (x y z : Int) (k : Nat) : D := [.lst [.int x, .int y, .int z], .tup [.int x, .int y], .tup [.int x, .int y, .int z, .int 0], .tup [.bl true, .int y, .int z], .tup [.int x, .non, .int z],
  .tup [.int x, .int y, str "0"], .tup [.int x, .int y, .tup [.int z]], .tup [.int x, .int y, .bl false], .non, str "vector", .int 4225, .dct [], .tup [], .lst [], .tup [vc x y z], .bl true].getD k .non
theorem c_odd (k : Nat) (h : k < 16) (x y z : Int) : callF G (n + 1) 34 [vc x y z, .int k] = .ret (oddV x y z k) :=
  match k, h with
  | 0, _ => rfl | 1, _ => rfl | 2, _ => rfl | 3, _ => rfl | 4, _ => rfl | 5, _ => rfl | 6, _ => rfl | 7, _ => rfl | 8, _ => rfl | 9, _ => rfl | 10, _ => rfl | 11, _ => rfl | 12, _ => rfl | 13, _ => rfl | 14, _ => rfl | 15, _ => rfl
  | k + 16, h => absurd h (by omega)
theorem c_refused (k : Nat) (h : k < 16) (x y z : Int) : callF G (n + 8) 35 [oddV x y z k] = .ret (.tup [str "refused", .bl true, .bl false, .bl true]) :=
  match k, h with
  | 0, _ => rfl | 1, _ => rfl | 2, _ => rfl | 3, _ => rfl | 4, _ => rfl | 5, _ => rfl | 6, _ => rfl | 7, _ => rfl | 8, _ => rfl | 9, _ => rfl | 10, _ => rfl | 11, _ => rfl | 12, _ => rfl | 13, _ => rfl | 14, _ => rfl | 15, _ => rfl
  | k + 16, h => absurd h (by omega)
theorem oddV_err (k : Nat) (h : k < 16) (x y z : Int) : (oddV x y z k).isErr = false :=
  match k, h with
  | 0, _ => rfl | 1, _ => rfl | 2, _ => rfl | 3, _ => rfl | 4, _ => rfl | 5, _ => rfl | 6, _ => rfl | 7, _ => rfl | 8, _ => rfl | 9, _ => rfl | 10, _ => rfl | 11, _ => rfl | 12, _ => rfl | 13, _ => rfl | 14, _ => rfl | 15, _ => rfl
  | k + 16, h => absurd h (by omega)
theorem lims_of {ls : List Int} (h : (ls.all fun l => decide (0 < l) && decide (l.natAbs < 2 ^ 200)) = true) : okLims ls := fun l hl => by
  have := List.all_eq_true.mp h l hl
  simpa only [Bool.and_eq_true, decide_eq_true_eq] using this
/-- one of the first three -/
theorem c_cell1 (c k : Int) (c0 : 0 ≤ c) (cs : sm 1100000 c) (k0 : 0 ≤ k) (k1 : k < 100) : ∃ row h b s, callF G (n + 8) 25 [.int c, .int k, .lst [.int 4, .int 100, .int 1000000000000000000000000000000, .int 36, .int 5, .int 19]] = .ret (.lst row) ∧ callF G (n + 8) 31 [.lst row] = .ret (vc h b s) ∧
    callF G (n + 8) 36 [vc h b s] = .ret (.bl true) := by
  obtain ⟨rs, q0, r0⟩ := c_row (n := n + 7) c k [4, 100, 1000000000000000000000000000000, 36, 5, 19] (lims_of (by decide)) (by decide) c0 cs k0 k1
  obtain ⟨x0, _, rfl, x0a, x0b, r0⟩ := r0.cons
  obtain ⟨x1, _, rfl, x1a, x1b, r0⟩ := r0.cons
  obtain ⟨x2, _, rfl, x2a, x2b, r0⟩ := r0.cons
  obtain ⟨x3, _, rfl, x3a, x3b, r0⟩ := r0.cons
  obtain ⟨x4, _, rfl, x4a, x4b, r0⟩ := r0.cons
  obtain ⟨x5, _, rfl, x5a, x5b, r0⟩ := r0.cons
  cases r0.nil
  obtain ⟨h, b, s, e1, g1, g2, g3, g4⟩ := c_drawn (n := n + 7) x0 x1 x2 x3 x4 x5 [] (by decide) x0a x0b x1a x1b x2a x2b x3a x3b x4a x4b x5a x5b
  exact ⟨_, h, b, s, q0, e1, c_there h b s g1 g2 g3 g4⟩
/-- one of the next two -/
theorem c_cell2 (c k : Int) (c0 : 0 ≤ c) (cs : sm 1100000 c) (k0 : 0 ≤ k) (k1 : k < 100) : ∃ r0 r1 r2 r3 r4 r5 r6 r7 r8 r9 r10 r11 r12 r13 t nr res, callF G (n + 8) 25 [.int c, .int k, .lst [.int 4, .int 30, .int 1000000000000000000000000000000, .int 36, .int 5, .int 19, .int 10, .int 3, .int 7, .int 81, .int 36, .int 7, .int 7, .int 7]] =
      .ret (.lst [.int r0, .int r1, .int r2, .int r3, .int r4, .int r5, .int r6, .int r7, .int r8, .int r9, .int r10, .int r11, .int r12, .int r13]) ∧ callF G (n + 8) 31 [.lst [.int r0, .int r1, .int r2, .int r3, .int r4, .int r5, .int r6, .int r7, .int r8, .int r9, .int r10, .int r11, .int r12, .int r13]] = .ret t ∧ t.isErr = false ∧
    callF G (n + 8) 33 [t, .lst [.int r6, .int r7, .int r8, .int r9, .int r10, .int r11, .int r12, .int r13]] = .ret nr ∧ nr.isErr = false ∧ callF G (n + 8) 23 [nr] = .ret res ∧ callF G (n + 8) 30 [nr] = .ret res ∧ res.isErr = false ∧ callF G (n + 8) 26 [res, res] = .ret (.bl true) := by
  obtain ⟨rs, q0, r0⟩ := c_row (n := n + 7) c k [4, 30, 1000000000000000000000000000000, 36, 5, 19, 10, 3, 7, 81, 36, 7, 7, 7] (lims_of (by decide)) (by decide) c0 cs k0 k1
  obtain ⟨x0, _, rfl, x0a, x0b, r0⟩ := r0.cons
  obtain ⟨x1, _, rfl, x1a, x1b, r0⟩ := r0.cons
  obtain ⟨x2, _, rfl, x2a, x2b, r0⟩ := r0.cons
  obtain ⟨x3, _, rfl, x3a, x3b, r0⟩ := r0.cons
  obtain ⟨x4, _, rfl, x4a, x4b, r0⟩ := r0.cons
  obtain ⟨x5, _, rfl, x5a, x5b, r0⟩ := r0.cons
  obtain ⟨y0, _, rfl, y0a, y0b, r0⟩ := r0.cons
  obtain ⟨y1, _, rfl, y1a, y1b, r0⟩ := r0.cons
  obtain ⟨y2, _, rfl, y2a, y2b, r0⟩ := r0.cons
  obtain ⟨y3, _, rfl, y3a, y3b, r0⟩ := r0.cons
  obtain ⟨y4, _, rfl, y4a, y4b, r0⟩ := r0.cons
  obtain ⟨y5, _, rfl, y5a, y5b, r0⟩ := r0.cons
  obtain ⟨y6, _, rfl, y6a, y6b, r0⟩ := r0.cons
  obtain ⟨y7, _, rfl, y7a, y7b, r0⟩ := r0.cons
  cases r0.nil
  obtain ⟨h, b, s, e1, g1, g2, g3, g4⟩ := c_drawn (n := n + 7) x0 x1 x2 x3 x4 x5 [.int y0, .int y1, .int y2, .int y3, .int y4, .int y5, .int y6, .int y7] (by simp) x0a x0b x1a (by omega) x2a x2b x3a x3b x4a x4b x5a x5b
  obtain ⟨nr, e2, x, y, z, rfl, sx, sy, sz⟩ := c_near (n := n + 5) h b s y0 y1 y2 y3 y4 y5 y6 y7 g2 y0a y0b y1a y1b y2a y2b y3a y3b y5a y5b y6a y6b y7a y7b
  have f1 := c_triple_of (n := n + 4) x y z sx sy sz
  have f2 := c_law_triple (n := n + 4) x y z sx sy sz
  rw [← same_told] at f2
  have ty : ∃ d, TO x y z = d ∧ d.isErr = false ∧ callF G (n + 8) 26 [d, d] = .ret (.bl true) := by
    have key : ∀ g, (∀ b s d, g b s = some d → ∃ a b c, d = vc a b c) → (orN (FS g)).isErr = false ∧ callF G (n + 8) 26 [orN (FS g), orN (FS g)] = .ret (.bl true) := fun g hg => by
      cases q : FS g with
      | none => exact ⟨rfl, rfl⟩
      | some d =>
        unfold FS at q
        obtain ⟨i, im, q⟩ := List.exists_of_findSome?_eq_some q
        clear im
        cases i <;> first | (cases q; done) | skip
        rename_i i
        obtain ⟨j, _, q⟩ := List.exists_of_findSome?_eq_some (show (ranged (-9) 19).findSome? (FI (g i)) = some d from q)
        cases j <;> first | (cases q; done) | skip
        obtain ⟨a, b, c, rfl⟩ := hg _ _ _ q
        exact ⟨rfl, same_vc (n := n + 5) a b c⟩
    refine ⟨_, rfl, ?_⟩
    unfold TO
    dsimp only
    split
    · exact ⟨rfl, rfl⟩
    · split
      · exact ⟨rfl, same_vc (n := n + 5) 0 0 0⟩
      · refine key _ fun b s d hd => ?_
        unfold gP at hd
        split at hd
        · cases hd; exact ⟨_, _, _, rfl⟩
        · cases hd
  obtain ⟨d, hd, he, hs⟩ := ty
  rw [hd] at f1 f2
  exact ⟨x0, x1, x2, x3, x4, x5, y0, y1, y2, y3, y4, y5, y6, y7, vc h b s, vc x y z, d, q0, e1, rfl, e2, rfl, f1, f2, he, hs⟩
theorem c_law (ns : List Int) (h : ns.length ≤ 63) (hb : ∀ z ∈ ns, sm 1100000 z) : callF G (n + 9) 37 [.scr ns] = .ret (.bl true) := by
  have c_1 : ∀ {n : Nat} {as : List D}, callF G (n + 1) 37 as = runDef G (callF G n) d_law as := rfl
  obtain ⟨cs, hr, h7, hc⟩ := c_cells (n := n + 7) ns 6 (by decide) h hb
  obtain ⟨c0, c1, c2, c3, c4, c5, cs', rfl⟩ : ∃ c0 c1 c2 c3 c4 c5 cs', cs = c0 :: c1 :: c2 :: c3 :: c4 :: c5 :: cs' := by
    match cs, h7 with
    | c0 :: c1 :: c2 :: c3 :: c4 :: c5 :: cs', _ => exact ⟨_, _, _, _, _, _, _, rfl⟩
  simp only [List.forall_mem_cons] at hc
  obtain ⟨⟨a0, b0⟩, ⟨a1, b1⟩, ⟨a2, b2⟩, ⟨a3, b3⟩, ⟨a4, b4⟩, ⟨a5, b5⟩, -⟩ := hc
  obtain ⟨w0, h0, k0, s0, p0, p0', p0''⟩ := c_cell1 (n := n) c0 0 a0 b0 (by decide) (by decide)
  obtain ⟨w1, h1, k1, s1, p1, p1', p1''⟩ := c_cell1 (n := n) c1 1 a1 b1 (by decide) (by decide)
  obtain ⟨w2, h2, k2, s2, p2, p2', p2''⟩ := c_cell1 (n := n) c2 2 a2 b2 (by decide) (by decide)
  obtain ⟨x0, x1, x2, x3, x4, x5, x6, x7, x8, x9, x10, x11, x12, x13, tx, nx, rx, q1, q2, q3, q4, q5, q6, q7, q8, q9⟩ := c_cell2 (n := n) c3 3 a3 b3 (by decide) (by decide)
  obtain ⟨y0, y1, y2, y3, y4, y5, y6, y7, y8, y9, y10, y11, y12, y13, ty, ny, ry, o1, o2, o3, o4, o5, o6, o7, o8, o9⟩ := c_cell2 (n := n) c4 4 a4 b4 (by decide) (by decide)
  obtain ⟨rs, u0, r0⟩ := c_row (n := n + 7) c5 5 [4, 100, 1000000000000000000000000000000, 36, 5, 19, 16] (lims_of (by decide)) (by decide) a5 b5 (by decide) (by decide)
  obtain ⟨v0, _, rfl, v0a, v0b, r0⟩ := r0.cons
  obtain ⟨v1, _, rfl, v1a, v1b, r0⟩ := r0.cons
  obtain ⟨v2, _, rfl, v2a, v2b, r0⟩ := r0.cons
  obtain ⟨v3, _, rfl, v3a, v3b, r0⟩ := r0.cons
  obtain ⟨v4, _, rfl, v4a, v4b, r0⟩ := r0.cons
  obtain ⟨v5, _, rfl, v5a, v5b, r0⟩ := r0.cons
  obtain ⟨v6, _, rfl, v6a, v6b, r0⟩ := r0.cons
  cases r0.nil
  obtain ⟨v6, rfl, v6b⟩ := nat_of v6a v6b
  obtain ⟨hh, bb, ss, e1, g1, g2, g3, g4⟩ := c_drawn (n := n + 7) v0 v1 v2 v3 v4 v5 [.int (v6 : Int)] (by simp) v0a v0b v1a v1b v2a v2b v3a v3b v4a v4b v5a v5b
  have lv := c_law_vector (n := n + 6) hh bb ss (g2.mono (by decide))
  have od := c_odd (n := n + 7) v6 (by omega) (hh * le ss * ea bb) (hh * le ss * ea (bb + 9)) (hh * 65 * ea ss)
  have rf := c_refused (n := n) v6 (by omega) (hh * le ss * ea bb) (hh * le ss * ea (bb + 9)) (hh * 65 * ea ss)
  have er := f_ok (oddV_err v6 (by omega) (hh * le ss * ea bb) (hh * le ss * ea (bb + 9)) (hh * 65 * ea ss))
  have sm' : callF G (n + 8) 26 [.tup [str "refused", .bl true, .bl false, .bl true], .tup [str "refused", .bl true, .bl false, .bl true]] = .ret (.bl true) := c_same 2 _ rfl (n + 5)
  generalize oddV (hh * le ss * ea bb) (hh * le ss * ea (bb + 9)) (hh * 65 * ea ss) v6 = od' at *
  have p30 : powOk 10 30 = true := by decide
  simp only [List.map_cons, List.map_nil] at hr u0
  have hr' : callF G (n + 8) 24 [.scr ns, .int 6] = _ := hr
  have cut6 : ∀ a0 a1 a2 a3 a4 a5 a6 a7 a8 a9 a10 a11 a12 a13 : D, cutOf (.lst [a0, a1, a2, a3, a4, a5, a6, a7, a8, a9, a10, a11, a12, a13]) (some 6) none = some (.lst [a6, a7, a8, a9, a10, a11, a12, a13]) := fun _ _ _ _ _ _ _ _ _ _ _ _ _ _ => rfl
  simp -implicitDefEqProofs only [c_1, d_law, b_law, hr', p30, p0, p0', p0'', p1, p1', p1'', p2, p2', p2'', q1, q2, f_ok q3, d_ok q3, q4, f_ok q5, d_ok q5, q6, q7, f_ok q8, q9, o1, o2, f_ok o3, d_ok o3, o4, f_ok o5, d_ok o5, o6, o7, f_ok o8, o9, u0, e1, lv, od, er, rf, sm', cut6, bind_ok, bind_exc, st_ok, st_exc, seq_nx, seq_rt, seq_bk, seq_ct, seq_exc, opt_s, lift_s, map_s, get_0, get_s, put_0, put_s, run_eq, fin_nx, fin_rt, fin_exc, d_un, d_own, f_own, d_non, f_non, er_non, d_bl, f_bl, er_bl, d_int, f_int, er_int, d_str, f_str, er_str, d_lst, f_lst, er_lst, d_tup, f_tup, er_tup, d_dct, f_dct, er_dct, d_scr, f_scr, er_scr, d_ty, f_ty, er_ty, d_cls, f_cls, er_cls, b1_con, b2_con, bL_con, b1_glb, b2_glb, bL_glb, b1_bin, b2_bin, bL_bin, b1_neg, b2_neg, bL_neg, b1_not, b2_not, bL_not, b1_and, b2_and, bL_and, b1_or, b2_or, bL_or, b1_cmp, b2_cmp, bL_cmp, b1_chain, b2_chain, bL_chain, b1_ite, b2_ite, bL_ite, b1_tup, b2_tup, bL_tup, b1_lst, b2_lst, bL_lst, b1_dct, b2_dct, bL_dct, b1_idx, b2_idx, bL_idx, b1_slc, b2_slc, bL_slc, b1_call, b2_call, bL_call, b1_bi, b2_bi, bL_bi, b1_comp, b2_comp, bL_comp, b1_pop, b2_pop, bL_pop, b1_meth, b2_meth, bL_meth, b1_efld, b2_efld, bL_efld, b1_eisi, b2_eisi, bL_eisi, b1_var, b2_var, bL_var, isi_int_non, isi_int_bl, isi_int_int, isi_int_str, isi_int_lst, isi_int_tup, isi_int_dct, isi_bool_non, isi_bool_bl, isi_bool_int, isi_bool_str, isi_bool_lst, isi_bool_tup, isi_bool_dct, isi_str_non, isi_str_bl, isi_str_int, isi_str_str, isi_str_lst, isi_str_tup, isi_str_dct, isi_list_non, isi_list_bl, isi_list_int, isi_list_str, isi_list_lst, isi_list_tup, isi_list_dct, isi_tuple_non, isi_tuple_bl, isi_tuple_int, isi_tuple_str, isi_tuple_lst, isi_tuple_tup, isi_tuple_dct, isi_dict_non, isi_dict_bl, isi_dict_int, isi_dict_str, isi_dict_lst, isi_dict_tup, isi_dict_dct, bf_int, bf_intb, bf_abs, bf_lenl, bf_lent, bf_lens, bf_lend, bf_min2, bf_max2, bf_sum, bf_tup, bf_tupt, bf_lst, bf_lstt, bo_add, bo_sub, bo_mul, bo_mod, bo_fdiv, bo_pow, bo_addl, co_lt, co_le, co_gt, co_ge, co_eqi, co_nei, co_eqs, eq_strs, co_is, co_isnot, ix_l, ix_t, tr_bl, tr_int, at_nat, sm_ni, sm_nn, sm_ti, sm_tt, sm_nt, sm_ns, sm_ts, sm_bb, sm_bn, sm_nl, sm_tl, sm_nb, sm_nd, sm_td, ranged_len, lim_lit, asgs_nil, asgs_cons, pat_1, pat_t, forK_nx, forK_ct, forK_bk, forK_rt, forK_exc, forL_nil, forL_cons, it_l, it_t, it_s, ol_l, ow_, mut_l, mut_d, fr_lst, fr_comp, fr_bin, fr_bil, fr_bis, fr_bi1, fr_bi2, fr_slc, fr_dct, sk_nx, sk_rt, sk_bk, sk_ct, sk_exc, ik_ok, ik_exc, fx_nil, fx_cons, fy_nx, fy_ct, fy_bk, fy_rt, fy_exc, tk_nx, tk_rt, tk_bk, tk_ct, tk_e0, tk_e1, w_skip, w_seq, w_set, w_setO, w_unpack, ak_, w_app, w_put, ps_l, ps_d, pl_i, w_aug, ag_add, ag_sub, w_expr, rv_fz, rv_own, w_ret_var, w_retN, w_ite, w_for, w_while, w_brk, w_cnt, w_raise, w_try, w_frz, e_con, e_var, e_glb, e_bin, e_neg, e_not, e_and, e_or, e_cmp, e_chain, e_ite, e_tup, e_lst, e_dct, e_idx, e_slc, ck_ret, ck_exc, e_call, e_bi1, e_bi2, e_comp, lx_nil, e_efld, e_eisi, nil_e, sub_n, sub_s, gone_rt, gone_nx, hush_nx, hush_rt, lt_lit, xr_con, xr_glb, xr_bin, xr_neg, xr_not, xr_and, xr_or, xr_cmp, xr_chain, xr_ite, xr_tup, xr_lst, xr_dct, xr_idx, xr_slc, xr_call, xr_bi, xr_comp, xr_pop, xr_efld, xr_eisi, at_k0, at_k1, at_k2, at_k3, at_k4, at_k5, at_k6, at_k7, at_k8, at_k9, at_k10, at_k11, at_k12, at_k13, at_k14, at_k15, at_k16, at_k17, at_k18, at_k19, at_k20, or_s, lx_cons, ly_some, ly_none, tx_, op_nil, op_cons, we_nil, we_cons, sp_nil, sp_cons, rp_nil, rp_cons, rg_0, rg_1, rg_2, rg_3, rg_4, rg_5, bls_n, bls_c, ints_n, ints_c, bf_all, bf_any, bf_gcd, bm_var, bn_, bm_lst, e_meth, my_ixl, mf_ix, xr_meth, bf_isqrt, bf_lr1, bf_lr2, bf_min1, bf_max1, mk_c, xk_c, asg_nil, evL, evC, evP, evI, List.map, List.length_cons, List.length_nil, List.cons_append, List.nil_append, List.replicate, if_true, reduceIte, Nat.sub_self, Nat.reduceAdd, Nat.reduceSub, Nat.reduceLT, Bool.false_eq_true, if_false, Bool.not_false, Bool.not_true, Bool.false_and, Bool.true_and, Option.isNone_some, Option.map_some, Nat.reduceEqDiff, Nat.zero_add, Nat.add_zero, Nat.reduceLeDiff, Int.reduceLT, Int.reduceLE, Int.reduceMod, Int.reduceAdd, Int.reduceSub, Int.reduceNeg, Int.reduceMul, Int.reduceBEq, decide_true, decide_false, bne_self_eq_false, BEq.rfl, and_self, Bool.false_or, Bool.true_or, Bool.or_false, Bool.or_true, Option.bind_some, Int.zero_add, Int.toNat_natCast, Int.cast_ofNat_Int, Int.natCast_zero, Int.natCast_one, Int.reduceToNat, Int.reducePow, List.all_cons, List.all_nil, List.any_cons, List.any_nil, id, Bool.not_not, List.length_map, Bool.and_true, Bool.and_false]
theorem law_pure (ns : List Int) (h : ns.length ≤ 63) (hb : ∀ z ∈ ns, PySem.Builtin.Int.intBits z ≤ 1048576) : callF G 40 37 [.scr ns] = .ret (.bl true) := c_law (n := 31) ns h fun z hz => bits_sm (hb z hz)
end L

namespace L
open MP PySem PySem.Spec PyProof.Rows L2
abbrev hk : PySem.W.Hook := hookM 6 G M rs
theorem run (w : World) : HandSHeadRun.RunEqI R (PySem.W.view R.prog [0, lawAt]) hk (obM 6 G M rs) 4000 loose w := by
  unfold HandSHeadRun.RunEqI
  kernel_rfl
end L
open PySem PySem.W PySem.Calls PyProof.Rows
theorem PySem.Challenge.cw_cavelegs_k03_triple_of_a_vector_holds : PySem.Challenge.rw_cavelegs_k03_triple_of_a_vector.Holds := by
  w_on; o_law
  refine HandSHeadRun.head_imp (r := L.R) (q := view L.R.prog [0, L.lawAt]) (H := L.hk) (ob := MP.obM 6 L.G L.M L.rs) (M := 4000) (loose := L.loose) (d := HandSHeadRun.topDef L.R.prog L.lawAt) (kwd := []) (MP.obM_eq 6 L.G L.M L.rs)
    L.run (by kernel_rfl) (by kernel_rfl) (by kernel_rfl) (by rfl) (by first | assumption | decide +kernel) (by decide +kernel) ⟨rfl, rfl, rfl, rfl, rfl, by decide +kernel⟩ ?hw ?hc
  case hw => w_witness2
  case hc =>
    refine MP.walk_law (l := PySem.Challenge.rw_cavelegs_k03_triple_of_a_vector) (n := 63) (k := 40) (x := "script") (CX := L2.CX L.R.prog) rfl (by decide) (by kernel_rfl) ⟨rfl, by decide, by decide⟩ ?F ?C
    · intro w mg fa h Y Gn hmg0
      exact MP.facts (N := 40) (f := L.i_law) Y Gn L.chk rfl L.bn.at_ L.gd_37 (r := ⟨Str.ofString "law", L.n_law, L.top L.lawAt⟩) rfl (by
        have e : (HandSHeadRun.topDef L.R.prog L.lawAt).name = (Str.ofString "law") := by kernel_rfl
        rw [← e]
        exact hmg0) rfl rfl 63 L.law_pure
    · intro w H s e s2 z
      obtain ⟨_, _, _, _, _, _, _, _, _, _, _, _, z⟩ := z
      exact z
