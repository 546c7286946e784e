import PyProof.Rows.All
import HandS.ForMost
import HandS.SortInts
import HandS.WideBits
import HandS.Wide
import HandS.TupAny
import HandS.TupMul
import HandS.IsInst
import HandS.Deep
import HandS.Walk
import HandS.Flow
import HandS.Conv
import HandS.Zip
import HandS.SetFor
import HandS.Strs
import HandS.Style
import PyProof.LongRange
import PyProof.ListRange
import KE.GoesZip
import KE.GoesMore
import HandS.NoneIn
import Wide.All
import OpenK.AllK
import Wide.FinOn
import KE.KStateDown
import HandS.WordsExc
import HandS.Defaults
import HandS.Head0
import HandS.Head1
import HandS.Head2
import HandS.HeadEnd
import HandS.HeadHook1
import HandS.HeadHook2
import KE.BitLaws
import PySem.Challenge.RW_quickexact_k29_cells_of_one_place
set_option linter.all false
set_option Elab.async false
set_option autoImplicit false
/-! PXA: a small language of plain values, its checker against the text, its evaluator. -/
namespace PX
open PySem L2

inductive RV where
  | dat (d : PyData)
  | own (ds : List PyData)
  | box
abbrev Sl := Option RV
abbrev Bx := Option (Int × Int × Int)
structure G where
  env : List Sl
  bx : Bx
abbrev Cal := Nat → List RV → Bx → Option (RV × Bx)

inductive Bop where
  | add | sub | mul | fdiv | mod | pow | shl | shr | band | bor
  deriving DecidableEq
inductive Cop where
  | lt | le | gt | ge | eq | ne | is_ | isnot | in_ | notin
  deriving DecidableEq
inductive Bl where
  | abs | int | tuple | list | sum | all | any | min2 | max2 | min1 | max1 | sorted
  deriving DecidableEq
inductive Ty where
  | int | bool | str | list | tuple
  deriving DecidableEq
inductive Tg where
  | nm (i : Nat)
  | tp (is : List Nat)
  | tq (ts : List (Nat ⊕ List Nat))
inductive E where
  | var (i : Nat)
  | con (d : PyData)
  | bin (o : Bop) (a b : E)
  | neg (a : E)
  | not (a : E)
  | cmp (o : Cop) (a b : E)
  | chain (o p : Cop) (a b c : E)
  | and (a b : E)
  | or (a b : E)
  | ite (c a b : E)
  | tup (a : E)
  | lst (a : E)
  | nil
  | cons (a r : E)
  | call (f : Nat) (a : E)
  | callk (f : Nat) (a k : E) (pm : List Nat)
  | bl (b : Bl) (a : E)
  | len (a : E)
  | bits (a : E)
  | isi (a : E) (ts : List Ty)
  | sub (a i : E)
  | slc (a lo hi : E)
  | no
  | lc (own : List Nat) (src : E) (tg : Tg) (c elt : E)
  | rng1 (a : E)
  | rng2 (a b : E)
  | zip (a b : E)
  | enum (a : E)
  | lrng (a : E)
  | it (a : E)
  | callb (f : Nat) (a : E)
  | sset (a : E)
  | rev (a : E)
  | lrngw (a b : E)

/-- the longest list -/
def lim : Nat := 16777216
def szOk (n : Nat) : Bool := decide (n ≤ 16777216)

def RV.pd : RV → Option PyData
  | .dat d => some d
  | .own ds => some (.list ds)
  | .box => none
/-- an argument: a list of one's own is shared from now on -/
def RV.frz : RV → RV
  | .own ds => .dat (.list ds)
  | r => r

def mulOk (i j : Int) : Bool := decide (i.natAbs.log2 < 64) || decide (j.natAbs.log2 < 64) || decide (i.natAbs.log2 + j.natAbs.log2 ≤ 134217000)
def divOk (j : Int) : Bool := decide (j ≠ 0) && decide (j.natAbs.log2 < 9000)
def shlOk (i j : Int) : Bool := decide (0 ≤ j) && decide ((i.natAbs.log2 : Int) + j ≤ 134217000)
def powOk (i j : Int) : Bool := decide (0 ≤ j) && decide (j ≤ 1000000) && decide (i.natAbs.log2 < 64)

def int_ (i : Int) : RV := .dat (.int i)
def bool_ (b : Bool) : RV := .dat (.bool b)

def binop (o : Bop) (x y : PyData) : Option RV :=
  match o, x, y with
  | .add, .int i, .int j => some (.dat (.int (i + j)))
  | .add, .str a, .str b => if szOk (a.length + b.length) then some (.dat (.str (a ++ b))) else none
  | .add, .list a, .list b => if szOk (a.length + b.length) then some (.own (a ++ b)) else none
  | .add, .tuple a, .tuple b => if szOk (a.length + b.length) then some (.dat (.tuple (a ++ b))) else none
  | .sub, .int i, .int j => some (.dat (.int (i - j)))
  | .mul, .int i, .int j => if mulOk i j then some (.dat (.int (i * j))) else none
  | .mul, .list a, .int k => if decide (-(2 ^ 63) ≤ k) && decide (k < 2 ^ 63) && szOk (a.length * k.toNat) then some (.own (List.replicate k.toNat a).flatten) else none
  | .mul, .tuple a, .int k => if !a.isEmpty && decide (2 ≤ k) && decide (k ≤ 1000) && decide (a.length ≤ 1000) then some (.dat (.tuple (List.replicate k.toNat a).flatten)) else none
  | .fdiv, .int i, .int j => if divOk j then some (.dat (.int (i.fdiv j))) else none
  | .mod, .int i, .int j => if decide (j ≠ 0) then some (.dat (.int (i.fmod j))) else none
  | .pow, .int i, .int j => if powOk i j then some (.dat (.int (i ^ j.toNat))) else none
  | .shl, .int i, .int j => if shlOk i j then some (.dat (.int (i * 2 ^ j.toNat))) else none
  | .shr, .int i, .int j => if decide (0 ≤ j) then some (.dat (.int (i / 2 ^ j.toNat))) else none
  | .band, .int i, .int j => some (.dat (.int (Builtin.bitAnd i j)))
  | .bor, .int i, .int j => some (.dat (.int (Builtin.bitOr i j)))
  | _, _, _ => none

def flatD : PyData → Bool
  | .none | .bool _ | .int _ | .str _ => true
  | _ => false
def isNone : PyData → Bool
  | .none => true
  | _ => false
def intsOf : List PyData → Option (List Int)
  | [] => some []
  | .int i :: r => (intsOf r).map (i :: ·)
  | _ => none
def boolsOf : List PyData → Option (List Bool)
  | [] => some []
  | .bool i :: r => (boolsOf r).map (i :: ·)
  | _ => none
def okd (d : PyData) : Bool := SeqAt.shaped d
def cmpop (o : Cop) (x y : PyData) : Option Bool :=
  match o, x, y with
  | .lt, .int i, .int j => some (decide (i < j))
  | .le, .int i, .int j => some (decide (i ≤ j))
  | .gt, .int i, .int j => some (decide (j < i))
  | .ge, .int i, .int j => some (decide (j ≤ i))
  | .eq, x, y => if okd x && okd y then some (PyData.eqv x y) else none
  | .ne, x, y => if okd x && okd y then some (!PyData.eqv x y) else none
  | .is_, x, .none => some (isNone x)
  | .isnot, x, .none => some (!isNone x)
  | .in_, x, .list ds => if okd x && okd (.list ds) then some (ds.any fun z => PyData.eqv z x) else none
  | .notin, x, .list ds => if okd x && okd (.list ds) then some (!ds.any fun z => PyData.eqv z x) else none
  | .in_, x, .tuple ds => if flatD x && ds.all flatD then some (ds.any fun z => PyData.eqv z x) else none
  | .notin, x, .tuple ds => if flatD x && ds.all flatD then some (!ds.any fun z => PyData.eqv z x) else none
  | _, _, _ => none

def truth : RV → Option Bool
  | .dat .none => some false
  | .dat (.bool b) => some b
  | .dat (.int i) => some (i != 0)
  | .dat (.str s) => if szOk s.length then some ((s.length : Int) != 0) else none
  | .dat (.list ds) => some (!ds.isEmpty)
  | .dat (.tuple ds) => some (!ds.isEmpty)
  | .own ds => some (!ds.isEmpty)
  | _ => none

def lenOf : RV → Option Nat
  | .dat (.str s) => if szOk s.length then some s.length else none
  | .dat (.list ds) => some ds.length
  | .dat (.tuple ds) => some ds.length
  | .own ds => some ds.length
  | _ => none
def item (bx : Bx) (x : RV) (i : PyData) : Option PyData :=
  match x, i with
  | .dat (.list ds), .int k => atI ds k
  | .dat (.tuple ds), .int k => atI ds k
  | .own ds, .int k => atI ds k
  | .dat (.str s), .int k => if szOk s.length then (atI s.cps.toList k).map fun c => .str ⟨#[c]⟩ else none
  | .box, .int k => bx.bind fun b => atI [.int b.1, .int b.2.1, .int b.2.2] k
  | _, _ => none
def cutD (xs : List PyData) (lo hi : Option Int) : List PyData := (xs.drop (HT.sIx xs.length 0 lo)).take (HT.sIx xs.length xs.length hi - HT.sIx xs.length 0 lo)
def slice (x : RV) (lo hi : Option Int) : Option RV :=
  match x with
  | .dat (.list ds) => some (.own (cutD ds lo hi))
  | .own ds => some (.own (cutD ds lo hi))
  | .dat (.tuple ds) => some (.dat (.tuple (cutD ds lo hi)))
  | _ => none

def insI (x : Int) : List Int → List Int
  | [] => [x]
  | y :: r => if x ≤ y then x :: y :: r else y :: insI x r
def sortI : List Int → List Int
  | [] => []
  | x :: r => insI x (sortI r)
/-- ascending, each once -/
def insS (x : Int) : List Int → List Int
  | [] => [x]
  | y :: r => if x < y then x :: y :: r else if x = y then y :: r else y :: insS x r
def setI : List Int → List Int
  | [] => []
  | x :: r => insS x (setI r)
def ssetD (r : RV) : Option RV := match r.pd with
  | some (.list ds) => match intsOf ds with
    | some ns => if decide (ns.length ≤ 4000) then some (.own ((setI ns).map .int)) else none
    | none => none
  | _ => none
def revD : RV → Option RV
  | .dat (.list ds) => some (.own ds.reverse)
  | .own ds => some (.own ds.reverse)
  | _ => none
def minI : Int → List Int → Int
  | m, [] => m
  | m, x :: r => minI (if x < m then x else m) r
def maxI : Int → List Int → Int
  | m, [] => m
  | m, x :: r => maxI (if m < x then x else m) r

def blt (b : Bl) (as : List PyData) : Option RV :=
  match b, as with
  | .abs, [.int i] => some (.dat (.int (if i < 0 then -i else i)))
  | .int, [.int i] => some (.dat (.int i))
  | .int, [.bool k] => some (.dat (.int (if k then 1 else 0)))
  | .tuple, [.list ds] => some (.dat (.tuple ds))
  | .tuple, [.tuple ds] => some (.dat (.tuple ds))
  | .list, [.list ds] => some (.own ds)
  | .list, [.tuple ds] => some (.own ds)
  | .sum, [.list ds] => (intsOf ds).map fun ns => .dat (.int ns.sum)
  | .all, [.list ds] => (boolsOf ds).map fun bs => .dat (.bool (bs.all id))
  | .any, [.list ds] => (boolsOf ds).map fun bs => .dat (.bool (bs.any id))
  | .min2, [.int i, .int j] => some (.dat (.int (if j < i then j else i)))
  | .max2, [.int i, .int j] => some (.dat (.int (if j > i then j else i)))
  | .min1, [.list ds] => match intsOf ds with
    | some (n :: ns) => some (.dat (.int (minI n ns)))
    | _ => none
  | .max1, [.list ds] => match intsOf ds with
    | some (n :: ns) => some (.dat (.int (maxI n ns)))
    | _ => none
  | .sorted, [.list ds] => (intsOf ds).map fun ns => .own ((sortI ns).map .int)
  | _, _ => none

def tyOf : PyData → Ty → Bool
  | .int _, .int => true
  | .bool _, .int => true
  | .bool _, .bool => true
  | .str _, .str => true
  | .list _, .list => true
  | .tuple _, .tuple => true
  | _, _ => false
def isData : PyData → Bool
  | .dict _ => false
  | _ => true

def peek (i : Nat) (g : G) : Option RV := match g.env[i]? with
  | some (some r) => some r
  | _ => none
/-- a name is read as a value: a list of one's own is shared from now on -/
def rd (i : Nat) (g : G) : Option (RV × G) := match g.env[i]? with
  | some (some (.own ds)) => some (.dat (.list ds), { g with env := g.env.set i (some (.dat (.list ds))) })
  | some (some r) => some (r, g)
  | _ => none
/-- a name that is only looked into -/
def pk (e : E) (g : G) : Option RV := match e with
  | .var i => peek i g
  | _ => none
def lstOf : RV → Option (List PyData)
  | .dat (.list ds) => some ds
  | .own ds => some ds
  | _ => none
def pairD (a b : PyData) : PyData := .tuple [a, b]
def seqOf : RV → Option (List PyData)
  | .dat (.list ds) => some ds
  | .dat (.tuple ds) => some ds
  | .own ds => some ds
  | _ => none
/-- zip of two lists or tuples -/
def zipOf (x y : RV) : Option (List PyData) := match seqOf x, seqOf y with
  | some xs, some ys => some (List.zipWith pairD xs ys)
  | _, _ => none
def iterOf : RV → Option (List PyData)
  | .dat (.list ds) => some ds
  | .dat (.tuple ds) => some ds
  | .own ds => some ds
  | .dat (.str s) => some (s.cps.toList.map fun c => .str ⟨#[c]⟩)
  | _ => none
def rangeD (lo : Int) (n : Nat) : List PyData := (List.range n).map fun (i : Nat) => .int (lo + i)
/-- stuck at once where n is not told (the kernel would count down a written bound) -/
def smallN : Nat → Bool
  | 0 => true
  | k + 1 => decide (k < 4611686018427387903)
def inR : Int → Bool
  | .ofNat n => smallN n
  | .negSucc n => smallN n
def enumD : Nat → List PyData → List PyData
  | _, [] => []
  | n, d :: r => pairD (.int (n : Int)) d :: enumD (n + 1) r

def setAll : List Nat → List PyData → List Sl → Option (List Sl)
  | [], [], env => some env
  | i :: is, d :: ds, env => setAll is ds (env.set i (some (.dat d)))
  | _, _, _ => none
def setQ : List (Nat ⊕ List Nat) → List PyData → List Sl → Option (List Sl)
  | [], [], env => some env
  | .inl i :: ts, d :: ds, env => setQ ts ds (env.set i (some (.dat d)))
  | .inr is :: ts, .tuple es :: ds, env => match setAll is es env with
    | some env' => setQ ts ds env'
    | none => none
  | .inr is :: ts, .list es :: ds, env => match setAll is es env with
    | some env' => setQ ts ds env'
    | none => none
  | _, _, _ => none
def bindT (t : Tg) (d : PyData) (env : List Sl) : Option (List Sl) := match t with
  | .nm i => some (env.set i (some (.dat d)))
  | .tp is => match d with
    | .tuple ds => setAll is ds env
    | .list ds => setAll is ds env
    | _ => none
  | .tq ts => match d with
    | .tuple ds => setQ ts ds env
    | .list ds => setQ ts ds env
    | _ => none
def wipeE (env : List Sl) : List Nat → List Sl
  | [] => env
  | v :: vs => (wipeE env vs).set v none
def noOwn : Sl → Sl
  | some (.own _) => none
  | s => s
/-- the block's own slots as they were ahead of it -/
def unwipe (old env : List Sl) : List Nat → List Sl
  | [] => env
  | v :: vs => (unwipe old env vs).set v (noOwn (old.getD v none))
def lcL (own : List Nat) (step : PyData → G → Option (Option PyData × G)) : List PyData → G → List PyData → Option (List PyData × G)
  | [], g, acc => some (acc, g)
  | d :: ds, g, acc => match step d { g with env := wipeE g.env own } with
    | some (some y, g') => lcL own step ds g' (acc ++ [y])
    | some (none, g') => lcL own step ds g' acc
    | none => none
/-- a test, where there is one -/
def condOf (no : Bool) (f : G → Option (RV × G)) (g : G) : Option (Bool × G) := if no = true then some (true, g) else match f g with
  | some (x, g') => (truth x).map (·, g')
  | none => none
/-- a turn of a comprehension -/
def lcStep (tg : Tg) (fc : G → Option (Bool × G)) (fe : G → Option (RV × G)) (d : PyData) (g : G) : Option (Option PyData × G) := match bindT tg d g.env with
  | none => none
  | some env => match fc { g with env := env } with
    | none => none
    | some (false, g') => some (none, g')
    | some (true, g') => match fe g' with
      | none => none
      | some (x, g'') => x.pd.map fun y => (some y, g'')
def permL (pm : List Nat) (as : List RV) : Option (List RV) := pm.mapM fun i => as[i]?
def partOf : PyData → Option (Option Int)
  | .int i => some (some i)
  | _ => none
def isNo : E → Bool
  | .no => true
  | _ => false

mutual
def evE (cal : Cal) : E → G → Option (RV × G)
  | .var i, g => rd i g
  | .con d, g => some (.dat d, g)
  | .bin o a b, g => match evE cal a g with
    | some (x, g1) => match evE cal b g1 with
      | some (y, g2) => match x.pd, y.pd with
        | some dx, some dy => (binop o dx dy).map (·, g2)
        | _, _ => none
      | none => none
    | none => none
  | .neg a, g => match evE cal a g with
    | some (.dat (.int i), g1) => some (.dat (.int (-i)), g1)
    | _ => none
  | .not a, g => match evE cal a g with
    | some (x, g1) => (truth x).map fun k => (.dat (.bool (!k)), g1)
    | none => none
  | .cmp o a b, g => match evE cal a g with
    | some (x, g1) => match (match pk b g1 with | some r => some (r, g1) | none => evE cal b g1) with
      | some (y, g2) => match x.pd, y.pd with
        | some dx, some dy => (cmpop o dx dy).map fun k => (.dat (.bool k), g2)
        | _, _ => none
      | none => none
    | none => none
  | .chain o p a b c, g => match evE cal a g with
    | some (x, g1) => match evE cal b g1 with
      | some (y, g2) => match x.pd, y.pd with
        | some dx, some dy => match cmpop o dx dy with
          | some true => match evE cal c g2 with
            | some (z, g3) => match z.pd with
              | some dz => (cmpop p dy dz).map fun k => (.dat (.bool k), g3)
              | none => none
            | none => none
          | some false => some (.dat (.bool false), g2)
          | none => none
        | _, _ => none
      | none => none
    | none => none
  | .and a b, g => match evE cal a g with
    | some (x, g1) => match truth x with
      | some true => evE cal b g1
      | some false => some (x, g1)
      | none => none
    | none => none
  | .or a b, g => match evE cal a g with
    | some (x, g1) => match truth x with
      | some false => evE cal b g1
      | some true => some (x, g1)
      | none => none
    | none => none
  | .ite c a b, g => match evE cal c g with
    | some (x, g1) => match truth x with
      | some true => evE cal a g1
      | some false => evE cal b g1
      | none => none
    | none => none
  | .tup a, g => match evA cal a g with
    | some (as, g1) => match as.mapM RV.pd with
      | some ds => if szOk ds.length then some (.dat (.tuple ds), g1) else none
      | none => none
    | none => none
  | .lst a, g => match evA cal a g with
    | some (as, g1) => match as.mapM RV.pd with
      | some ds => if szOk ds.length then some (.own ds, g1) else none
      | none => none
    | none => none
  | .call f a, g => match evA cal a g with
    | some (as, g1) => (cal f as g1.bx).map fun r => (r.1, { g1 with bx := r.2 })
    | none => none
  | .callk f a k pm, g => match evA cal a g with
    | some (as, g1) => match evA cal k g1 with
      | some (ks, g2) => match permL pm (as ++ ks) with
        | some vs => (cal f vs g2.bx).map fun r => (r.1, { g2 with bx := r.2 })
        | none => none
      | none => none
    | none => none
  | .bl b a, g => match evA cal a g with
    | some (as, g1) => match as.mapM RV.pd with
      | some ds => (blt b ds).map (·, g1)
      | none => none
    | none => none
  | .len a, g => match (match pk a g with | some r => some (r, g) | none => evE cal a g) with
    | some (x, g1) => (lenOf x).map fun (m : Nat) => (RV.dat (PyData.int (Int.ofNat m)), g1)
    | none => none
  | .bits a, g => match evE cal a g with
    | some (.dat (.int i), g1) => some (.dat (.int (Builtin.Int.intBits i : Nat)), g1)
    | _ => none
  | .isi a ts, g => match evE cal a g with
    | some (x, g1) => match x.pd with
      | some d => if isData d then some (.dat (.bool (ts.any (tyOf d))), g1) else none
      | none => none
    | none => none
  | .sub a i, g => match (match pk a g with | some r => some (r, g) | none => evE cal a g) with
    | some (x, g1) => match evE cal i g1 with
      | some (y, g2) => match y.pd with
        | some k => (item g2.bx x k).map fun d => (.dat d, g2)
        | none => none
      | none => none
    | none => none
  | .slc a lo hi, g => match (match pk a g with | some r => some (r, g) | none => evE cal a g) with
    | some (x, g1) => match (if isNo lo then some (none, g1) else match evE cal lo g1 with | some (.dat (.int i), g2) => some (some i, g2) | _ => none) with
      | some (l, g2) => match (if isNo hi then some (none, g2) else match evE cal hi g2 with | some (.dat (.int i), g3) => some (some i, g3) | _ => none) with
        | some (h, g3) => (slice x l h).map (·, g3)
        | none => none
      | none => none
    | none => none
  | .lc own src tg c elt, g => match evI cal src g with
    | some (ds, g1) => if szOk ds.length then
        match lcL own (lcStep tg (condOf (isNo c) fun g => evE cal c g) fun g => evE cal elt g) ds g1 [] with
        | some (ys, g2) => some (.own ys, { g2 with env := unwipe g1.env g2.env own })
        | none => none
      else none
    | none => none
  | .lrng a, g => match evI cal a g with
    | some (ds, g1) => if szOk ds.length then some (.own ds, g1) else none
    | none => none
  | .callb f a, g => match evE cal a g with
    | some (.own [.int x, .int y, .int z], g1) => (cal f [.box] (some (x, y, z))).map fun r => (r.1, g1)
    | _ => none
  | .sset a, g => match evE cal a g with
    | some (x, g1) => (ssetD x).map (·, g1)
    | none => none
  | .rev a, g => match (match pk a g with | some r => some (r, g) | none => evE cal a g) with
    | some (x, g1) => (revD x).map (·, g1)
    | none => none
  | .lrngw a b, g => match evE cal a g with
    | some (.dat (.int i), g1) => match evE cal b g1 with
      | some (.dat (.int j), g2) => if szOk (j - i).toNat then some (.own (rangeD i (j - i).toNat), g2) else none
      | _ => none
    | _ => none
  | .nil, _ => none
  | .cons _ _, _ => none
  | .no, _ => none
  | .rng1 _, _ => none
  | .rng2 _ _, _ => none
  | .zip _ _, _ => none
  | .enum _, _ => none
  | .it _, _ => none
/-- arguments and items, from the left, shared -/
def evA (cal : Cal) : E → G → Option (List RV × G)
  | .nil, g => some ([], g)
  | .cons a r, g => match evE cal a g with
    | some (x, g1) => match evA cal r g1 with
      | some (xs, g2) => some (x.frz :: xs, g2)
      | none => none
    | none => none
  | _, _ => none
/-- what is walked -/
def evI (cal : Cal) : E → G → Option (List PyData × G)
  | .rng1 a, g => match evE cal a g with
    | some (.dat (.int n), g1) => if inR n then some (rangeD 0 n.toNat, g1) else none
    | _ => none
  | .rng2 a b, g => match evE cal a g with
    | some (.dat (.int i), g1) => match evE cal b g1 with
      | some (.dat (.int j), g2) => if inR i && inR j then some (rangeD i (j - i).toNat, g2) else none
      | _ => none
    | _ => none
  | .zip a b, g => match evE cal a g with
    | some (x, g1) => match evE cal b g1 with
      | some (y, g2) => (zipOf x y).map (·, g2)
      | none => none
    | none => none
  | .enum a, g => match evE cal a g with
    | some (x, g1) => (lstOf x).map fun xs => (enumD 0 xs, g1)
    | none => none
  | .it e, g => match evE cal e g with
    | some (x, g1) => (iterOf x).map (·, g1)
    | none => none
  | _, _ => none
end
example (cal : Cal) (d : PyData) (g : G) : evE cal (.con d) g = some (.dat d, g) := rfl
example (cal : Cal) (a b : E) (g : G) : evI cal (.it a) g = match evE cal a g with
    | some (x, g1) => (iterOf x).map (·, g1)
    | none => none := rfl

end PX
set_option Elab.async false
set_option autoImplicit false
set_option maxRecDepth 100000
set_option maxHeartbeats 2000000
/-! PXB: how plain values lie in the abstract heap. -/
namespace PX
open PySem.Spec L2 PyProof.Rows PySem

mutual
inductive Dq (K : PySem.W.Frag) (H : Hp) : V → PyData → Prop
  | non : Dq K H .non .none
  | bl (b : Bool) : Dq K H (.bl b) (.bool b)
  | int (i : Int) : Dq K H (.int i) (.int i)
  | str (x : Str) : Dq K H (.str x) (.str x)
  | lst {a : Addr} {xs : List V} {ds : List PyData} : SqL K H a xs → DqAll K H xs ds → Dq K H (.ref a) (.list ds)
  | tup {a : Addr} {xs : List V} {ds : List PyData} : SqT K H a xs → DqAll K H xs ds → Dq K H (.ref a) (.tuple ds)
inductive DqAll (K : PySem.W.Frag) (H : Hp) : List V → List PyData → Prop
  | nil : DqAll K H [] []
  | cons {v : V} {vs : List V} {d : PyData} {ds : List PyData} : Dq K H v d → DqAll K H vs ds → DqAll K H (v :: vs) (d :: ds)
end
/-- all that D tracks stands in H -/
def Sub (D H : Hp) : Prop := ∀ b o, D b = some o → H b = some o
theorem Sub.refl (H : Hp) : Sub H H := fun _ _ h => h
theorem Sub.trans {A B C : Hp} (x : Sub A B) (y : Sub B C) : Sub A C := fun b o h => y b o (x b o h)
theorem Sub.clear {D H : Hp} (x : Sub D H) {p : Addr} (h : H p = none) : D p = none := by
  cases q : D p with
  | none => rfl
  | some o => rw [x p o q] at h; cases h
theorem Sub.rd {D H : Hp} (x : Sub D H) {a : Addr} {u : HO} (h : Rd D a u) : Rd H a u := by
  rcases h with h | ⟨o, h⟩
  · exact .inl (x _ _ h)
  · exact .inr ⟨o, x _ _ h⟩
theorem Sub.seqT {K : PySem.W.Frag} {D H : Hp} (x : Sub D H) {a : Addr} {xs : List V} (h : SqT K D a xs) : SqT K H a xs := by
  rcases h with h | h
  · exact .inl (x.rd h)
  · exact .inr h
theorem Sub.seqL {K : PySem.W.Frag} {D H : Hp} (x : Sub D H) {a : Addr} {xs : List V} (h : SqL K D a xs) : SqL K H a xs := by
  rcases h with h | h
  · exact .inl (x.rd h)
  · exact .inr h
theorem Sub.upd {D H : Hp} (x : Sub D H) {p : Addr} {o : HO} : Sub (upd D p o) (upd H p o) := fun b u h => by
  by_cases e : b = p
  · subst e; rw [upd_same] at h ⊢; exact h
  · rw [upd_ne e] at h ⊢; exact x b u h
theorem Sub.push {D H : Hp} (x : Sub D H) {p : Addr} {o : HO} (n : H p = none) : Sub D (L2.upd H p o) := fun b u h => by
  have hb := x b u h
  rw [upd_ne (ne_of_none hb n)]; exact hb
theorem Sub.of_new {D : Hp} {p : Addr} {o : HO} (n : D p = none) : Sub D (L2.upd D p o) := fun b u h => by
  rw [upd_ne (ne_of_none h n)]; exact h
mutual
theorem Dq.mono {K : PySem.W.Frag} {D H : Hp} (s : Sub D H) : ∀ {v : V} {d : PyData}, Dq K D v d → Dq K H v d
  | _, _, .non => .non
  | _, _, .bl b => .bl b
  | _, _, .int i => .int i
  | _, _, .str x => .str x
  | _, _, .lst h a => .lst (s.seqL h) (DqAll.mono s a)
  | _, _, .tup h a => .tup (s.seqT h) (DqAll.mono s a)
theorem DqAll.mono {K : PySem.W.Frag} {D H : Hp} (s : Sub D H) : ∀ {vs : List V} {ds : List PyData}, DqAll K D vs ds → DqAll K H vs ds
  | _, _, .nil => .nil
  | _, _, .cons h a => .cons (Dq.mono s h) (DqAll.mono s a)
end
mutual
theorem Dq.dp {K : PySem.W.Frag} {H : Hp} : ∀ {v : V} {d : PyData}, Dq K H v d → Dp K H v d
  | _, _, .non => .non
  | _, _, .bl b => .bl b
  | _, _, .int i => .int i
  | _, _, .str x => .str x
  | _, _, .lst h a => .lst h (DqAll.dp a)
  | _, _, .tup h a => .tup h (DqAll.dp a)
theorem DqAll.dp {K : PySem.W.Frag} {H : Hp} : ∀ {vs : List V} {ds : List PyData}, DqAll K H vs ds → DpAll K H vs ds
  | _, _, .nil => .nil
  | _, _, .cons h a => .cons (Dq.dp h) (DqAll.dp a)
end
section
variable {K : PySem.W.Frag} {H : Hp}
theorem DqAll.len : ∀ {vs : List V} {ds : List PyData}, DqAll K H vs ds → vs.length = ds.length
  | _, _, .nil => rfl
  | _, _, .cons _ a => by rw [List.length_cons, List.length_cons, DqAll.len a]
theorem DqAll.get : ∀ {vs : List V} {ds : List PyData} {i : Nat} {d : PyData}, DqAll K H vs ds → ds[i]? = some d → ∃ v, vs[i]? = some v ∧ Dq K H v d
  | _, _, _, _, .nil, h => by simp at h
  | _, _, 0, _, .cons r _, h => by simp at h; subst h; exact ⟨_, rfl, r⟩
  | _, _, i + 1, d, .cons _ t, h => by
    obtain ⟨v, h1, h2⟩ := DqAll.get (i := i) (d := d) t (by simpa using h)
    exact ⟨v, by simpa using h1, h2⟩
theorem DqAll.get' : ∀ {vs : List V} {ds : List PyData} {i : Nat} {v : V}, DqAll K H vs ds → vs[i]? = some v → ∃ d, ds[i]? = some d ∧ Dq K H v d
  | _, _, _, _, .nil, h => by simp at h
  | _, _, 0, _, .cons r _, h => by simp at h; subst h; exact ⟨_, rfl, r⟩
  | _, _, i + 1, d, .cons _ t, h => by
    obtain ⟨v, h1, h2⟩ := DqAll.get' (i := i) (v := d) t (by simpa using h)
    exact ⟨v, by simpa using h1, h2⟩
theorem DqAll.append : ∀ {vs ws : List V} {ds es : List PyData}, DqAll K H vs ds → DqAll K H ws es → DqAll K H (vs ++ ws) (ds ++ es)
  | _, _, _, _, .nil, b => b
  | _, _, _, _, .cons r t, b => .cons r (DqAll.append t b)
theorem DqAll.take : ∀ {vs : List V} {ds : List PyData} (n : Nat), DqAll K H vs ds → DqAll K H (vs.take n) (ds.take n)
  | _, _, 0, _ => .nil
  | _, _, _ + 1, .nil => .nil
  | _, _, n + 1, .cons r t => .cons r (DqAll.take n t)
theorem DqAll.drop : ∀ {vs : List V} {ds : List PyData} (n : Nat), DqAll K H vs ds → DqAll K H (vs.drop n) (ds.drop n)
  | _, _, 0, r => r
  | _, _, _ + 1, .nil => .nil
  | _, _, n + 1, .cons _ t => DqAll.drop n t
theorem DqAll.set {v : V} {d : PyData} (r : Dq K H v d) : ∀ {vs : List V} {ds : List PyData} (n : Nat), DqAll K H vs ds → DqAll K H (vs.set n v) (ds.set n d)
  | _, _, _, .nil => .nil
  | _, _, 0, .cons _ t => .cons r t
  | _, _, n + 1, .cons q t => .cons q (DqAll.set r n t)
theorem DqAll.rep {vs : List V} {ds : List PyData} (r : DqAll K H vs ds) : ∀ n : Nat, DqAll K H (List.replicate n vs).flatten (List.replicate n ds).flatten
  | 0 => .nil
  | n + 1 => by
    rw [List.replicate_succ, List.replicate_succ, List.flatten_cons, List.flatten_cons]
    exact r.append (DqAll.rep r n)
theorem DqAll.cut {vs : List V} {ds : List PyData} (r : DqAll K H vs ds) (lo hi : Option Int) : DqAll K H (cutV vs lo hi) (cutD ds lo hi) := by
  unfold cutV cutD
  rw [r.len]
  exact (r.drop _).take _
theorem DqAll.at {vs : List V} {ds : List PyData} {k : Int} {d : PyData} (r : DqAll K H vs ds) (h : atI ds k = some d) : ∃ v, atI vs k = some v ∧ Dq K H v d := by
  unfold atI at h ⊢
  rw [r.len]
  cases e : ixN ds.length k with
  | none => rw [e] at h; cases h
  | some j =>
    rw [e] at h
    exact DqAll.get r h
theorem DqAll.ints : ∀ {vs : List V} {ds : List PyData} {ns : List Int}, DqAll K H vs ds → intsOf ds = some ns → vs = ns.map V.int
  | _, _, _, .nil, h => by cases h; rfl
  | _, _, ns, .cons (d := d) (ds := ds) r t, h => by
    cases r with
    | int i =>
      unfold intsOf at h
      cases e : intsOf ds with
      | none => rw [e] at h; cases h
      | some ms =>
        rw [e] at h
        cases h
        rw [DqAll.ints t e]; rfl
    | _ => cases h
theorem DqAll.bools : ∀ {vs : List V} {ds : List PyData} {ns : List Bool}, DqAll K H vs ds → boolsOf ds = some ns → vs = ns.map V.bl
  | _, _, _, .nil, h => by cases h; rfl
  | _, _, ns, .cons (d := d) (ds := ds) r t, h => by
    cases r with
    | bl i =>
      unfold boolsOf at h
      cases e : boolsOf ds with
      | none => rw [e] at h; cases h
      | some ms =>
        rw [e] at h
        cases h
        rw [DqAll.bools t e]; rfl
    | _ => cases h
theorem DqAll.of_ints : ∀ ns : List Int, DqAll K H (ns.map V.int) (ns.map PyData.int)
  | [] => .nil
  | n :: ns => .cons (.int n) (DqAll.of_ints ns)
theorem Dq.isN {v : V} {d : PyData} (h : Dq K H v d) : decide (v = .non) = isNone d := by
  cases h <;> rfl
theorem Dq.flat {v : V} {d : PyData} (h : Dq K H v d) (f : flatD d = true) : flatV v = true := by
  cases h <;> first | rfl | cases f
theorem DqAll.flat : ∀ {vs : List V} {ds : List PyData}, DqAll K H vs ds → ds.all flatD = true → vs.all flatV = true
  | _, _, .nil, _ => rfl
  | _, _, .cons r t, f => by
    rw [List.all_cons, Bool.and_eq_true] at f ⊢
    exact ⟨r.flat f.1, DqAll.flat t f.2⟩
theorem eqV_eqv {x y : V} {d e : PyData} (hx : Dq K H x d) (hy : Dq K H y e) (fx : flatD d = true) (fy : flatD e = true) : eqV x y = PyData.eqv d e := by
  cases hx <;> first | (cases fx; done) | skip
  all_goals (cases hy <;> first | (cases fy; done) | skip)
  all_goals first
    | rfl
    | (simp only [eqV, PyData.eqv])
theorem inV_eqv {x : V} {d : PyData} (hx : Dq K H x d) (fx : flatD d = true) : ∀ {vs : List V} {ds : List PyData}, DqAll K H vs ds → ds.all flatD = true → inV x vs = ds.any fun z => PyData.eqv z d
  | _, _, .nil, _ => rfl
  | _, _, .cons r t, f => by
    rw [List.all_cons, Bool.and_eq_true] at f
    unfold inV
    rw [List.any_cons, List.any_cons, eqV_eqv r hx f.1 fx]
    congr 1
    exact inV_eqv hx fx t f.2
end

/-- what a pure operation gives: z in the heap H', of which D' tells the plain part -/
inductive Res (K : PySem.W.Frag) (D H : Hp) : RV → V → Hp → Hp → Prop
  | same {z : V} {d : PyData} : Dq K D z d → Res K D H (.dat d) z D H
  | tup {p : Addr} {xs : List V} {ds : List PyData} : H p = none → DqAll K D xs ds → Res K D H (.dat (.tuple ds)) (.ref p) (upd D p (.tup xs)) (upd H p (.tup xs))
  | lst {p : Addr} {xs : List V} {ds : List PyData} : H p = none → DqAll K D xs ds → Res K D H (.own ds) (.ref p) D (upd H p (.lst xs))

/-- what is fixed while a def runs: the written part, the box, the heap and its plain part at the entry -/
structure Par where
  K : PySem.W.Frag
  B : Option Addr
  H0 : Hp
  D0 : Hp
variable {P : Par}
structure Own (P : Par) (D H : Hp) (p : Addr) (xs : List V) (ds : List PyData) : Prop where
  at_ : H p = some (.lst xs)
  all : DqAll P.K D xs ds
  no : D p = none
  new : P.H0 p = none
  nb : P.B ≠ some p
def SlOk (P : Par) (D H : Hp) (sl : Sl) (o : Option (Option V)) : Prop := match sl with
  | none => True
  | some (.dat d) => ∃ v, o = some (some v) ∧ Dq P.K D v d
  | some .box => ∃ a, P.B = some a ∧ o = some (some (.ref a))
  | some (.own ds) => ∃ p xs, o = some (some (.ref p)) ∧ Own P D H p xs ds
/-- no slot has a list of one's own at p -/
def Free (g : G) (σ : L2.St) (p : Addr) : Prop := ∀ (i : Nat) (es : List PyData), g.env[i]? = some (some (.own es)) → σ[i]? ≠ some (some (.ref p))
structure Rel (P : Par) (D : Hp) (g : G) (σ : L2.St) (H : Hp) : Prop where
  sub : Sub D H
  old : ∀ b o, P.H0 b = some o → P.B ≠ some b → H b = some o
  new : ∀ b o, P.H0 b = some o → P.D0 b = none → D b = none
  len : g.env.length = σ.length
  slot : ∀ (i : Nat) (sl : Sl), g.env[i]? = some sl → SlOk P D H sl σ[i]?
  dis : ∀ (i j : Nat) (p : Addr) (es fs : List PyData), g.env[i]? = some (some (.own es)) → g.env[j]? = some (some (.own fs)) → σ[i]? = some (some (.ref p)) → σ[j]? = some (some (.ref p)) → i = j
  box : ∀ a, P.B = some a → ∃ x y z, g.bx = some (x, y, z) ∧ H a = some (.lst [.int x, .int y, .int z]) ∧ D a = none
/-- Hs: the heap ahead of the expression -/
def RvOk (P : Par) (Hs D : Hp) (g : G) (σ : L2.St) (H : Hp) (x : V) (r : RV) : Prop := match r with
  | .dat d => Dq P.K D x d
  | .box => ∃ a, P.B = some a ∧ x = .ref a
  | .own ds => ∃ p xs, x = .ref p ∧ Own P D H p xs ds ∧ Free g σ p ∧ Hs p = none
structure Post (P : Par) (D : Hp) (g : G) (σ : L2.St) (H D' : Hp) (g' : G) (H' : Hp) : Prop where
  mono : Sub D D'
  keep : ∀ b o, H b = some o → P.B ≠ some b → H' b = some o
  fresh : ∀ b o, H b = some o → P.B ≠ some b → D b = none → Free g σ b → D' b = none
  owns : ∀ (i : Nat) (es : List PyData), g'.env[i]? = some (some (.own es)) → g.env[i]? = some (some (.own es))
section
variable {D D' D1 D2 H H' H1 H2 Hs : Hp} {g g' g1 g2 : G} {σ : L2.St} {x : V} {r : RV} {p : Addr}
theorem Post.refl : Post P D g σ H D g H := ⟨Sub.refl _, fun _ _ h _ => h, fun _ _ _ _ h _ => h, fun _ _ h => h⟩
theorem Post.free (a : Post P D g σ H D1 g1 H1) (f : Free g σ p) : Free g1 σ p := fun i es h => f i es (a.owns i es h)
theorem Post.trans (a : Post P D g σ H D1 g1 H1) (b : Post P D1 g1 σ H1 D2 g2 H2) : Post P D g σ H D2 g2 H2 :=
  ⟨a.mono.trans b.mono, fun c o h n => b.keep c o (a.keep c o h n) n, fun c o h n d f => b.fresh c o (a.keep c o h n) n (a.fresh c o h n d f) (a.free f), fun i es h => a.owns i es (b.owns i es h)⟩
theorem Post.back (a : Post P D g σ H D1 g1 H1) (R : Rel P D g σ H) (R1 : Rel P D1 g1 σ H1) (h : H1 p = none) : H p = none := by
  cases q : H p with
  | none => rfl
  | some o =>
    by_cases e : P.B = some p
    · obtain ⟨x, y, z, _, h2, _⟩ := R1.box p e
      rw [h2] at h; cases h
    · rw [a.keep p o q e] at h; cases h
theorem Rel.noB (R : Rel P D g σ H) (h : H p = none) : P.B ≠ some p := fun e => by
  obtain ⟨x, y, z, _, h2, _⟩ := R.box p e
  rw [h2] at h; cases h
theorem Rel.no0 (R : Rel P D g σ H) (h : H p = none) : P.H0 p = none := by
  cases q : P.H0 p with
  | none => rfl
  | some o => rw [R.old p o q (R.noB h)] at h; cases h
theorem Own.mono {xs : List V} {ds : List PyData} (o : Own P D H p xs ds) (s : Sub D D') (h : H' p = some (.lst xs)) (n : D' p = none) : Own P D' H' p xs ds :=
  ⟨h, o.all.mono s, n, o.new, o.nb⟩
/-- a result stays a result behind another expression -/
theorem RvOk.after (h : RvOk P Hs D g σ H x r) (a : Post P D g σ H D' g' H') : RvOk P Hs D' g' σ H' x r := by
  cases r with
  | dat d => exact Dq.mono a.mono h
  | box => exact h
  | own ds =>
    obtain ⟨p, xs, e, o, f, n⟩ := h
    exact ⟨p, xs, e, o.mono a.mono (a.keep _ _ o.at_ o.nb) (a.fresh _ _ o.at_ o.nb o.no f), a.free f, n⟩
theorem RvOk.back (h : RvOk P H1 D g σ H x r) (f : ∀ p, H1 p = none → Hs p = none) : RvOk P Hs D g σ H x r := by
  cases r with
  | dat d => exact h
  | box => exact h
  | own ds =>
    obtain ⟨p, xs, e, o, f', n⟩ := h
    exact ⟨p, xs, e, o, f', f p n⟩
theorem Rel.slEq {D' H' : Hp} (R : Rel P D g σ H) (s : Sub D D') (hs : Sub D' H') (k : ∀ b o, H b = some o → P.B ≠ some b → H' b = some o)
    (nn : ∀ b o, P.H0 b = some o → P.D0 b = none → D' b = none) (no : ∀ (i : Nat) (es : List PyData) (q : Addr), g.env[i]? = some (some (.own es)) → σ[i]? = some (some (.ref q)) → D' q = none)
    (bx : ∀ a, P.B = some a → H' a = H a ∧ D' a = none) : Rel P D' g σ H' := by
  refine ⟨hs, fun b o h n => k b o (R.old b o h n) n, nn, R.len, fun i sl e => ?_, R.dis, fun a ha => ?_⟩
  · have q := R.slot i sl e
    cases sl with
    | none => trivial
    | some rv =>
      cases rv with
      | dat d => obtain ⟨v, e1, e2⟩ := q; exact ⟨v, e1, e2.mono s⟩
      | box => exact q
      | own ds =>
        obtain ⟨p, xs, e1, o⟩ := q
        exact ⟨p, xs, e1, o.mono s (k _ _ o.at_ o.nb) (no i ds p e e1)⟩
  · obtain ⟨x, y, z, h1, h2, h3⟩ := R.box a ha
    obtain ⟨q1, q2⟩ := bx a ha
    exact ⟨x, y, z, h1, by rw [q1]; exact h2, q2⟩
theorem Rel.ownAt (R : Rel P D g σ H) {i : Nat} {es : List PyData} {q : Addr} (h : g.env[i]? = some (some (.own es))) (e : σ[i]? = some (some (.ref q))) : ∃ xs, Own P D H q xs es := by
  obtain ⟨p, xs, e1, o⟩ := R.slot i _ h
  rw [e] at e1; cases e1
  exact ⟨xs, o⟩
/-- a new object that nobody's plain part tells of -/
theorem Rel.pushH (R : Rel P D g σ H) {o : HO} (n : H p = none) : Rel P D g σ (upd H p o) := by
  refine R.slEq (Sub.refl _) (R.sub.push n) (fun b u h _ => by rw [upd_ne (ne_of_none h n)]; exact h) R.new (fun i es q h e => ?_) fun a ha => ⟨?_, ?_⟩
  · obtain ⟨xs, ow⟩ := R.ownAt h e
    exact ow.no
  · obtain ⟨x, y, z, _, h2, _⟩ := R.box a ha
    rw [upd_ne (ne_of_none h2 n)]
  · obtain ⟨x, y, z, _, _, h3⟩ := R.box a ha
    exact h3
/-- a new object of the plain part -/
theorem Rel.pushD (R : Rel P D g σ H) {o : HO} (n : H p = none) : Rel P (upd D p o) g σ (upd H p o) := by
  have nD := R.sub.clear n
  refine R.slEq (Sub.of_new nD) R.sub.upd (fun b u h _ => by rw [upd_ne (ne_of_none h n)]; exact h) (fun b u h0 d0 => ?_) (fun i es q h e => ?_) fun a ha => ⟨?_, ?_⟩
  · have : b ≠ p := ne_of_none h0 (R.no0 n)
    rw [upd_ne this]; exact R.new b u h0 d0
  · obtain ⟨xs, ow⟩ := R.ownAt h e
    rw [upd_ne (ne_of_none ow.at_ n)]; exact ow.no
  · obtain ⟨x, y, z, _, h2, _⟩ := R.box a ha
    rw [upd_ne (ne_of_none h2 n)]
  · obtain ⟨x, y, z, _, h2, h3⟩ := R.box a ha
    rw [upd_ne (ne_of_none h2 n)]; exact h3
theorem Post.pushH {o : HO} (n : H p = none) : Post P D g σ H D g (upd H p o) :=
  ⟨Sub.refl _, fun b u h _ => by rw [upd_ne (ne_of_none h n)]; exact h, fun _ _ _ _ h _ => h, fun _ _ h => h⟩
theorem Post.pushD {o : HO} (R : Rel P D g σ H) (n : H p = none) : Post P D g σ H (upd D p o) g (upd H p o) :=
  ⟨Sub.of_new (R.sub.clear n), fun b u h _ => by rw [upd_ne (ne_of_none h n)]; exact h, fun b u h _ d _ => by rw [upd_ne (ne_of_none h n)]; exact d, fun _ _ h => h⟩
theorem Rel.free (R : Rel P D g σ H) (n : H p = none) : Free g σ p := fun i es h e => by
  obtain ⟨xs, ow⟩ := R.ownAt h e
  rw [ow.at_] at n; cases n
theorem Res.go (R : Rel P D g σ H) {z : V} (h : Res P.K D H r z D' H') : Rel P D' g σ H' ∧ Post P D g σ H D' g H' ∧ RvOk P H D' g σ H' z r := by
  cases h with
  | same q => exact ⟨R, Post.refl, q⟩
  | @tup p xs ds n q =>
    have nD := R.sub.clear n
    exact ⟨R.pushD n, Post.pushD R n, .tup (.inl (.inl upd_same)) (q.mono (Sub.of_new nD))⟩
  | @lst p xs ds n q =>
    exact ⟨R.pushH n, Post.pushH n, p, xs, rfl, ⟨upd_same, q, R.sub.clear n, R.no0 n, R.noB n⟩, R.free n, n⟩
/-- a result is shared from now on -/
theorem Rel.share (R : Rel P D g σ H) {Ds : Hp} {gs : G} (a : Post P Ds gs σ Hs D g H) (h : RvOk P Hs D g σ H x r) {d : PyData} (e : r.pd = some d) :
    ∃ D', Rel P D' g σ H ∧ Post P Ds gs σ Hs D' g H ∧ Sub D D' ∧ Dq P.K D' x d := by
  cases r with
  | dat d' => cases e; exact ⟨D, R, a, Sub.refl _, h⟩
  | box => cases e
  | own ds =>
    cases e
    obtain ⟨p, xs, rfl, o, f, n⟩ := h
    have sD := Sub.of_new (o := .lst xs) o.no
    refine ⟨upd D p (.lst xs), ?_, ⟨a.mono.trans sD, a.keep, fun b u h1 h2 h3 h4 => ?_, a.owns⟩, sD, .lst (.inl (.inl upd_same)) (o.all.mono sD)⟩
    · refine R.slEq sD (fun b u h => ?_) (fun _ _ h _ => h) (fun b u h0 d0 => ?_) (fun i es q h e => ?_) fun c hc => ⟨rfl, ?_⟩
      · by_cases e : b = p
        · subst e; rw [upd_same] at h; cases h; exact o.at_
        · rw [upd_ne e] at h; exact R.sub b u h
      · rw [upd_ne (ne_of_none h0 o.new)]; exact R.new b u h0 d0
      · have : q ≠ p := fun z => f i es h (z ▸ e)
        obtain ⟨_, ow⟩ := R.ownAt h e
        rw [upd_ne this]; exact ow.no
      · have : c ≠ p := fun z => o.nb (z ▸ hc)
        obtain ⟨_, _, _, _, _, h3⟩ := R.box c hc
        rw [upd_ne this]; exact h3
    · rw [upd_ne (ne_of_none h1 n)]
      exact a.fresh b u h1 h2 h3 h4
end
end PX
set_option Elab.async false
set_option autoImplicit false
set_option maxRecDepth 100000
set_option maxHeartbeats 4100000
/-! PXC: the operations of plain values. -/
namespace PX
open PySem.Spec L2 PyProof.Rows PySem

theorem slim : sizeLine = 16777216 := sizeLine_eq
theorem szOk_le {n : Nat} (h : szOk n = true) : n ≤ sizeLine := by
  rw [slim]; exact of_decide_eq_true h
section
variable {X : Cx}
theorem lstR {pins : List (Addr × Obj)} {σ : L2.St} {H : Hp} {s : Shared} {l : Addr} {xs : List V} (I : Inv X pins σ H s) (h : SqL X.K H l xs) :
    xs.length ≤ sizeLine ∧ ∃ (its : List Value) (n : Nat) (sl : Array (Option Value)), Vals xs its ∧ xs.length = its.length ∧ s.heap.get? l = some { cls := .type "list", dict := none, data := .seq its.toArray n, slots := sl } := by
  obtain ⟨its, r, ⟨⟨c, dd, dt, sl⟩, n, e, hc, hd, hdt⟩, z⟩ := I.list h
  simp only at hc hd hdt
  subst hc hd hdt
  exact ⟨z, its, n, sl, r, r.length, e⟩
open AutoSeq1 (wpAny_loadPart') in
theorem list_mulW (l : Addr) (items : Array Value) (n : Nat) (dd : Option Addr) (sl : Array (Option Value)) (x : Int) (u : Tok) (hc0 : ¬(!Builtin.List.listFitsIndex x) = true) (hc1 : ¬items.size * x.toNat > (2 ^ 63 - 1) / 8) (hc2 : ¬Builtin.List.listTooLong (items.size * x.toNat) = true) :
    Meets (Builtin.«list.__mul__» ⟨[.ref l, .int x u], []⟩) (fun _ R s => s.heap.get? l = some { cls := .type "list", dict := dd, data := .seq items n, slots := sl } ∧ R (.ok (.ret (Value.ref s.heap.objs.size))) { s with heap := s.heap.push { cls := Value.type "list", data := Data.seq (List.foldl (fun x1 x2 => x1 ++ x2) #[] (List.replicate (if items.isEmpty = true then 0 else x.toNat) items)) }, toks := s.toks }) :=
  .of_wp fun prog w A R s h => by
    obtain ⟨hp, g, d, tk, os⟩ := s; obtain ⟨hl, h⟩ := h
    have hsz := AutoListH.joined_fits hc2
    wp_walk using wpAny_loadPart' hl; refine wpAny_ite_false (decide_eq_false (Nat.not_lt.mpr hsz)) ?_; wp_walk using wpAny_loadPart' hl; exact ⟨_, rfl, h⟩
open AutoSeq1 (wpAny_loadPart') in
theorem int_rmulW (a : Int) (t : Tok) (l : Addr) (items : Array Value) (n : Nat) (dd : Option Addr) (sl : Array (Option Value)) :
    Meets (Builtin.«int.__rmul__» ⟨[.int a t, .ref l], []⟩) (fun _ R s => s.heap.get? l = some { cls := .type "list", dict := dd, data := .seq items n, slots := sl } ∧ R (.ok (.ret Value.notImplemented)) s) :=
  .of_wp fun prog w A R s h => by obtain ⟨hp, g, d, tk, os⟩ := s; obtain ⟨hl, h⟩ := h; wp_walk using wpAny_loadPart' hl; exact ⟨_, rfl, h⟩
def rCatS (K : PySem.W.Frag) : R2 := fun x y H Q => ∃ l b xs zs, x = .ref l ∧ y = .ref b ∧ SqL K H l xs ∧ SqL K H b zs ∧
  xs.length + zs.length ≤ sizeLine ∧ ∀ p, H p = none → Q (.ref p) (upd H p (.lst (xs ++ zs)))
theorem op_catS : OpR X (binaryOp .Add) (rCatS X.K) := by
  intro pins s σ H x y v u Q I rx ry ⟨l, b, xs, zs, e1, e2, hl, hb, hz, q⟩
  subst e1; subst e2
  cases rx; cases ry
  obtain ⟨_, its, n, sl1, r, k1, o1⟩ := lstR I hl
  obtain ⟨_, its2, n2, sl2, r2, k2, o2⟩ := lstR I hb
  have sz : its.toArray.size + its2.toArray.size ≤ sizeLine := by simp only [List.size_toArray]; omega
  refine concat_meets ⟨_, o1, rfl⟩ ⟨_, o2, rfl⟩ noFill_list_add seq_list_add PySem.F.slot_list_add PySem.F.entry_list_add (PySem.F.args_list_add_2 _ _) (list_addW l b its.toArray its2.toArray n n2 none none sl1 sl2 sz) ⟨o1, o2, ?_⟩
  have rr := r.append r2
  have sz2 : (xs ++ zs).length ≤ sizeLine := by rw [List.length_append]; exact hz
  have J := I.lnew (t' := s.toks) rr sz2
  exact ⟨.ref _, _, by simpa using J, rfl, q _ I.fresh⟩
def rRepS (K : PySem.W.Frag) : R2 := fun x y H Q => ∃ l k xs, x = .ref l ∧ y = .int k ∧ SqL K H l xs ∧ -(2 ^ 63) ≤ k ∧ k < 2 ^ 63 ∧ xs.length * k.toNat ≤ sizeLine ∧
  ∀ p, H p = none → Q (.ref p) (upd H p (.lst (List.replicate k.toNat xs).flatten))
theorem op_repS : OpR X (binaryOp .Mult) (rRepS X.K) := by
  intro pins s σ H x y v u Q I rx ry ⟨l, k, xs, e1, e2, hl, h1, h2, hz, q⟩
  subst e1; subst e2
  cases rx
  obtain ⟨t, rfl⟩ := ry
  obtain ⟨_, its, n, sl1, r, k1, o1⟩ := lstR I hl
  have len2 : its.toArray.size * k.toNat ≤ sizeLine := by rw [List.size_toArray, ← k1]; exact hz
  have cap : ¬ its.toArray.size * k.toNat > (2 ^ 63 - 1) / 8 := by
    have : (sizeLine : Nat) ≤ (2 ^ 63 - 1) / 8 := by decide
    omega
  have fit : ¬ (!Builtin.List.listFitsIndex k) = true := by rw [fitsIndex_both h1 h2]; exact Bool.false_ne_true
  have long : ¬ Builtin.List.listTooLong (its.toArray.size * k.toNat) = true := by rw [notLongL len2]; exact Bool.false_ne_true
  have made : List.foldl (fun x1 x2 => x1 ++ x2) #[] (List.replicate (if its.toArray.isEmpty = true then 0 else k.toNat) its.toArray) = (List.replicate k.toNat its).flatten.toArray := by
    have f0 : ∀ m : Nat, List.foldl (fun x1 x2 => x1 ++ x2) #[] (List.replicate m its.toArray) = (List.replicate m its).flatten.toArray := fun m => by
      have z := foldl_rep its m []
      rw [List.nil_append] at z; exact z
    rw [f0]
    cases its with
    | nil => simp
    | cons a r' => rw [if_neg (by simp)]
  have c1 := list_mulW l its.toArray n none sl1 k t fit cap long
  refine wpAny_binaryOp_repeat_ref (T := "list") (U := "int") (by decide) ⟨_, o1, rfl⟩ (fun s' => typeIs_int s' k t) noFill_list_mul F.fills_int_mul F.slot_int_rmul repeat_list
    F.slot_int_index.lookup (call_meets F.slot_int_rmul (typeIs_int s k t) F.entry_int_rmul (F.args_int_rmul_2 _ _) (int_rmulW k t l its.toArray n none sl1)
      ⟨o1, rfl, ⟨_, o1, rfl⟩, call_meets F.slot_list_mul ⟨_, o1, rfl⟩ F.entry_list_mul (F.args_list_mul_2 _ _) c1 ⟨o1, ?_⟩⟩)
  rw [made]
  have J := I.lnew (t' := s.toks) (r.rep k.toNat) (by rw [PyProof.Rows.lm_len_rep_flat, Nat.mul_comm]; exact hz)
  exact ⟨.ref _, _, J, rfl, q _ I.fresh⟩

/-! ### ints -/
theorem log2_64 {i : Int} (h : i.natAbs.log2 < 64) : i.natAbs < 2 ^ 64 := by
  by_cases e : i.natAbs = 0
  · rw [e]; decide
  · exact (Nat.log2_lt e).mp h
theorem mulOk_ok {i j : Int} (h : mulOk i j = true) : IntMulOk i j := by
  unfold mulOk at h
  simp only [Bool.or_eq_true, decide_eq_true_eq] at h
  rcases h with (h | h) | h
  · have := log2_64 h
    exact CMul.ok (.inl ⟨by omega, by omega⟩)
  · have := log2_64 h
    exact CMul.ok (.inr ⟨by omega, by omega⟩)
  · have b : ∀ x : Int, Builtin.Int.intBits x ≤ x.natAbs.log2 + 1 := fun x => by
      unfold Builtin.Int.intBits
      split <;> omega
    have h1 := b i
    have h2 := b j
    refine CMulX.ok (show (Builtin.Int.intBits i : Int) + (Builtin.Int.intBits j : Int) ≤ 134217728 from ?_)
    omega
theorem op_mulZ : OpR X (binaryOp .Mult) (rI (fun i j => mulOk i j = true) fun i j => .int (i * j)) := opI fun _ _ _ _ _ _ _ hc q => mul_int q (mulOk_ok hc)
theorem op_fdivZ : OpR X (binaryOp .FloorDiv) (rI (fun _ j => divOk j = true) fun i j => .int (i.fdiv j)) := opI fun i j _ _ _ _ _ hc q => by
  unfold divOk at hc
  simp only [Bool.and_eq_true, decide_eq_true_eq] at hc
  exact floordiv_int hc.1 q (.inl (PyProof.noPylong_of_log2 hc.2))
theorem shl_of {i j : Int} (h : shlOk i j = true) : CShl i j := by
  unfold shlOk at h
  simp only [Bool.and_eq_true, decide_eq_true_eq] at h
  have b : Builtin.Int.intBits i ≤ i.natAbs.log2 + 1 := by
    unfold Builtin.Int.intBits
    split <;> omega
  refine ⟨h.1, ?_⟩
  have e : (2 : Int) ^ 27 = 134217728 := by decide
  omega
theorem pow_of {i j : Int} (h : powOk i j = true) : CPow i j := by
  unfold powOk at h
  simp only [Bool.and_eq_true, decide_eq_true_eq] at h
  exact ⟨h.1.1, h.1.2, log2_64 h.2⟩

def opOf : Bop → Operator
  | .add => .Add | .sub => .Sub | .mul => .Mult | .fdiv => .FloorDiv | .mod => .Mod | .pow => .Pow | .shl => .LShift | .shr => .RShift | .band => .BitAnd | .bor => .BitOr
/-- a pure operation's reading -/
def rBin (K : PySem.W.Frag) (o : Bop) : R2 := fun x y H Q => ∃ D dx dy r, Sub D H ∧ Dq K D x dx ∧ Dq K D y dy ∧ binop o dx dy = some r ∧ ∀ z D' H', Res K D H r z D' H' → Q z H'
theorem DqAll.nil_iff {K : PySem.W.Frag} {H : Hp} {xs : List V} {ds : List PyData} (h : DqAll K H xs ds) : xs = [] ↔ ds = [] := by
  cases h with
  | nil => exact ⟨fun _ => rfl, fun _ => rfl⟩
  | cons => exact ⟨(by intro z; cases z), (by intro z; cases z)⟩
theorem op_bin (o : Bop) : OpR X (binaryOp (opOf o)) (rBin X.K o) := by
  intro pins s σ H x y v u Q I rx ry ⟨D, dx, dy, r, sub, hx, hy, e, q⟩
  unfold binop at e
  split at e
  · cases hx; cases hy; cases e
    exact op_add pins s σ H _ _ v u Q I rx ry ⟨_, _, rfl, rfl, q _ _ _ (.same (.int _))⟩
  · cases hx; cases hy
    split at e
    · rename_i h; cases e
      exact op_add_str pins s σ H _ _ v u Q I rx ry ⟨_, _, rfl, rfl, szOk_le h, q _ _ _ (.same (.str _))⟩
    · cases e
  · cases hx with
    | lst h1 a1 =>
      cases hy with
      | lst h2 a2 =>
        split at e
        · rename_i h; cases e
          exact op_catS pins s σ H _ _ v u Q I rx ry ⟨_, _, _, _, rfl, rfl, sub.seqL h1, sub.seqL h2, by rw [a1.len, a2.len]; exact szOk_le h, fun p n => q _ _ _ (.lst n (a1.append a2))⟩
        · cases e
  · cases hx with
    | tup h1 a1 =>
      cases hy with
      | tup h2 a2 =>
        split at e
        · rename_i h; cases e
          refine op_catA pins s σ H _ _ v u Q I rx ry ⟨_, _, _, _, rfl, rfl, sub.seqT h1, sub.seqT h2, by rw [a1.len, a2.len]; exact szOk_le h, fun z => ?_, fun _ z => ?_, fun _ _ p n => q _ _ _ (.tup n (a1.append a2))⟩
          · have := a1.nil_iff.mp z
            subst this
            exact q _ _ _ (.same (.tup h2 a2))
          · have := a2.nil_iff.mp z
            subst this
            refine q _ _ _ (.same ?_)
            rw [List.append_nil]
            exact .tup h1 a1
        · cases e
  · cases hx; cases hy; cases e
    exact op_sub pins s σ H _ _ v u Q I rx ry ⟨_, _, rfl, rfl, q _ _ _ (.same (.int _))⟩
  · cases hx; cases hy
    split at e
    · rename_i h; cases e
      exact op_mulZ pins s σ H _ _ v u Q I rx ry ⟨_, _, rfl, rfl, h, q _ _ _ (.same (.int _))⟩
    · cases e
  · cases hy
    cases hx with
    | lst h1 a1 =>
      split at e
      · rename_i h; cases e
        simp only [Bool.and_eq_true, decide_eq_true_eq] at h
        exact op_repS pins s σ H _ _ v u Q I rx ry ⟨_, _, _, rfl, rfl, sub.seqL h1, h.1.1, h.1.2, by rw [a1.len]; exact szOk_le h.2, fun p n => q _ _ _ (.lst n (a1.rep _))⟩
      · cases e
  · cases hy
    cases hx with
    | tup h1 a1 =>
      split at e
      · rename_i h; cases e
        simp only [Bool.and_eq_true, decide_eq_true_eq] at h
        refine op_repT pins s σ H _ _ v u Q I rx ry ⟨_, _, _, rfl, rfl, sub.seqT h1, fun z => ?_, h.1.1.2, h.1.2, by rw [a1.len]; exact h.2, fun p n => q _ _ _ (.tup n (a1.rep _))⟩
        have e := a1.nil_iff.mp z
        have h' := h.1.1.1
        rw [e] at h'
        simp at h'
      · cases e
  · cases hx; cases hy
    split at e
    · rename_i h; cases e
      exact op_fdivZ pins s σ H _ _ v u Q I rx ry ⟨_, _, rfl, rfl, h, q _ _ _ (.same (.int _))⟩
    · cases e
  · cases hx; cases hy
    split at e
    · rename_i h; cases e
      exact op_modN pins s σ H _ _ v u Q I rx ry ⟨_, _, rfl, rfl, of_decide_eq_true h, q _ _ _ (.same (.int _))⟩
    · cases e
  · cases hx; cases hy
    split at e
    · rename_i h; cases e
      exact op_pow pins s σ H _ _ v u Q I rx ry ⟨_, _, rfl, rfl, pow_of h, q _ _ _ (.same (.int _))⟩
    · cases e
  · cases hx; cases hy
    split at e
    · rename_i h; cases e
      exact op_shlW pins s σ H _ _ v u Q I rx ry ⟨_, _, rfl, rfl, shl_of h, q _ _ _ (.same (.int _))⟩
    · cases e
  · cases hx; cases hy
    split at e
    · rename_i h; cases e
      exact op_shr pins s σ H _ _ v u Q I rx ry ⟨_, _, rfl, rfl, of_decide_eq_true h, q _ _ _ (.same (.int _))⟩
    · cases e
  · cases hx; cases hy; cases e
    exact op_and pins s σ H _ _ v u Q I rx ry ⟨_, _, rfl, rfl, q _ _ _ (.same (.int _))⟩
  · cases hx; cases hy; cases e
    exact op_or pins s σ H _ _ v u Q I rx ry ⟨_, _, rfl, rfl, q _ _ _ (.same (.int _))⟩
  · cases e

def copOf : Cop → CmpOp
  | .lt => .Lt | .le => .LtE | .gt => .Gt | .ge => .GtE | .eq => .Eq | .ne => .NotEq | .is_ => .Is | .isnot => .IsNot | .in_ => .In | .notin => .NotIn
def rCmp (K : PySem.W.Frag) (o : Cop) : R2 := fun x y H Q => ∃ dx dy k, Dq K H x dx ∧ Dq K H y dy ∧ cmpop o dx dy = some k ∧ Q (.bl k) H
theorem op_cmp (hu : X.A.units + 65 < cLine) (o : Cop) : OpR X (compareOp (copOf o)) (rCmp X.K o) := by
  have hu4 : X.A.units + 64 < cLine := by omega
  intro pins s σ H x y v u Q I rx ry ⟨dx, dy, k, hx, hy, e, q⟩
  unfold cmpop at e
  split at e
  · cases hx; cases hy; cases e
    exact op_lt pins s σ H _ _ v u Q I rx ry ⟨_, _, rfl, rfl, q⟩
  · cases hx; cases hy; cases e
    exact op_le pins s σ H _ _ v u Q I rx ry ⟨_, _, rfl, rfl, q⟩
  · cases hx; cases hy; cases e
    exact op_gt pins s σ H _ _ v u Q I rx ry ⟨_, _, rfl, rfl, q⟩
  · cases hx; cases hy; cases e
    exact op_ge pins s σ H _ _ v u Q I rx ry ⟨_, _, rfl, rfl, q⟩
  · split at e
    · rename_i h; cases e
      rw [Bool.and_eq_true] at h
      exact op_eqD hu4 pins s σ H _ _ v u Q I rx ry ⟨_, _, hx.dp, hy.dp, h.1, h.2, q⟩
    · cases e
  · split at e
    · rename_i h; cases e
      rw [Bool.and_eq_true] at h
      exact op_neD hu4 pins s σ H _ _ v u Q I rx ry ⟨_, _, hx.dp, hy.dp, h.1, h.2, q⟩
    · cases e
  · cases hy; cases e
    exact op_isN pins s σ H _ _ v u Q I rx ry ⟨rfl, by rw [hx.isN]; exact q⟩
  · cases hy; cases e
    exact op_notN pins s σ H _ _ v u Q I rx ry ⟨rfl, by rw [hx.isN]; exact q⟩
  · split at e
    · rename_i h; cases e
      rw [Bool.and_eq_true] at h
      exact op_inD hu pins s σ H _ _ v u Q I rx ry ⟨_, _, hx.dp, hy.dp, h.1, h.2, q⟩
    · cases e
  · split at e
    · rename_i h; cases e
      rw [Bool.and_eq_true] at h
      exact op_notInD hu pins s σ H _ _ v u Q I rx ry ⟨_, _, hx.dp, hy.dp, h.1, h.2, q⟩
    · cases e
  · split at e
    · rename_i h; cases e
      rw [Bool.and_eq_true] at h
      cases hy with
      | tup h2 a2 =>
        refine op_in_seq pins s σ H _ _ v u Q I rx ry ⟨_, _, rfl, .inr h2, hx.flat h.1, a2.flat h.2, ?_⟩
        rw [inV_eqv hx h.1 a2 h.2]
        exact q
    · cases e
  · split at e
    · rename_i h; cases e
      rw [Bool.and_eq_true] at h
      cases hy with
      | tup h2 a2 =>
        refine op_notIn_seq pins s σ H _ _ v u Q I rx ry ⟨_, _, rfl, .inr h2, hx.flat h.1, a2.flat h.2, ?_⟩
        rw [inV_eqv hx h.1 a2 h.2]
        exact q
    · cases e
  · cases e

/-! ### truth, length, items, slices -/
/-- x is r's value: of a list of one's own too -/
def RvAt (K : PySem.W.Frag) (D H : Hp) (x : V) (r : RV) : Prop := match r with
  | .dat d => Dq K D x d
  | .box => False
  | .own ds => ∃ p xs, x = .ref p ∧ H p = some (.lst xs) ∧ DqAll K D xs ds
theorem RvAt.truth {K : PySem.W.Frag} {D H : Hp} {x : V} {r : RV} {k : Bool} (s : Sub D H) (h : RvAt K D H x r) (e : truth r = some k) : TruV K x H k := by
  have em : ∀ {xs : List V} {ds : List PyData}, DqAll K D xs ds → (!ds.isEmpty) = !xs.isEmpty := fun a => by cases a <;> rfl
  cases r with
  | box => exact h.elim
  | own ds =>
    obtain ⟨p, xs, rfl, hp, a⟩ := h
    cases e
    exact .inl ⟨xs, .inl (.inl hp), em a⟩
  | dat d =>
    have h : Dq K D x d := h
    cases h with
    | non => cases e; rfl
    | bl b => cases e; rfl
    | int i => cases e; rfl
    | str z =>
      unfold PX.truth at e
      simp only at e
      split at e
      · rename_i h; cases e; exact ⟨szOk_le h, rfl⟩
      · cases e
    | lst h1 a => cases e; exact .inl ⟨_, s.seqL h1, em a⟩
    | tup h1 a => cases e; exact .inr (.inl ⟨_, s.seqT h1, em a⟩)
theorem RvAt.lenV {K : PySem.W.Frag} {D H : Hp} {x : V} {r : RV} {n : Nat} (s : Sub D H) (h : RvAt K D H x r) (e : lenOf r = some n) : LenV K x H n := by
  cases r with
  | box => exact h.elim
  | own ds =>
    obtain ⟨p, xs, rfl, hp, a⟩ := h
    cases e
    exact .inl ⟨xs, .inl (.inl hp), a.len.symm⟩
  | dat d =>
    have h : Dq K D x d := h
    cases h with
    | str z =>
      unfold lenOf at e
      simp only at e
      split at e
      · rename_i h; cases e; exact ⟨szOk_le h, rfl⟩
      · cases e
    | lst h1 a => cases e; exact .inl ⟨_, s.seqL h1, a.len.symm⟩
    | tup h1 a => cases e; exact .inr ⟨_, s.seqT h1, a.len.symm⟩
    | _ => cases e
theorem map_some {α β : Type} {f : α → β} {o : Option α} {b : β} (h : o.map f = some b) : ∃ a, o = some a ∧ f a = b := by
  cases o with
  | none => cases h
  | some a => exact ⟨a, rfl, Option.some.inj h⟩
theorem item_ok {K : PySem.W.Frag} {D H : Hp} {x y : V} {r : RV} {dk d : PyData} {bx : Bx} {Q : VK} (s : Sub D H) (h : RvAt K D H x r) (hy : Dq K D y dk) (e : item bx r dk = some d)
    (q : ∀ z, Dq K D z d → Q z H) : rIx K x y H Q := by
  cases hy with
  | int k =>
    cases r with
    | box => exact h.elim
    | own ds =>
      obtain ⟨p, xs, rfl, hp, a⟩ := h
      have e : atI ds k = some d := e
      obtain ⟨v, e1, hv⟩ := a.at e
      exact .inl ⟨p, xs, k, v, rfl, rfl, .inl (.inl hp), e1, q v hv⟩
    | dat d' =>
      have h : Dq K D x d' := h
      cases h with
      | lst h1 a =>
        have e : atI _ k = some d := e
        obtain ⟨v, e1, hv⟩ := a.at e
        exact .inl ⟨_, _, k, v, rfl, rfl, s.seqL h1, e1, q v hv⟩
      | tup h1 a =>
        have e : atI _ k = some d := e
        obtain ⟨v, e1, hv⟩ := a.at e
        exact .inr (.inl ⟨_, _, k, v, rfl, rfl, s.seqT h1, e1, q v hv⟩)
      | str z =>
        have e : (if szOk z.length then (atI z.cps.toList k).map fun c => PyData.str ⟨#[c]⟩ else none) = some d := e
        split at e
        · rename_i hz
          obtain ⟨c, e1, rfl⟩ := map_some e
          exact .inr (.inr ⟨z, k, c, rfl, rfl, szOk_le hz, e1, q _ (.str _)⟩)
        · cases e
      | _ => cases e
  | _ => cases r with
    | box => cases e
    | own ds => cases e
    | dat d' => cases d' <;> cases e
def rSlAll (K : PySem.W.Frag) : V → Option Int → Option Int → Hp → VK → Prop := fun x lo hi H Q => rSlL K x lo hi H Q ∨ rSlA K x lo hi H Q
theorem sl_all : SlR X (rSlAll X.K) := sl_list.or sl_tupA
theorem slice_ok {K : PySem.W.Frag} {D H : Hp} {x : V} {r r' : RV} {lo hi : Option Int} {Q : VK} (s : Sub D H) (h : RvAt K D H x r) (e : slice r lo hi = some r')
    (q : ∀ z D' H', Res K D H r' z D' H' → Q z H') : rSlAll K x lo hi H Q := by
  cases r with
  | box => exact h.elim
  | own ds =>
    obtain ⟨p, xs, rfl, hp, a⟩ := h
    cases e
    exact .inl ⟨p, xs, rfl, .inl (.inl hp), fun l n => q _ _ _ (.lst n (a.cut lo hi))⟩
  | dat d' =>
    have h : Dq K D x d' := h
    cases h with
    | lst h1 a =>
      cases e
      exact .inl ⟨_, _, rfl, s.seqL h1, fun l n => q _ _ _ (.lst n (a.cut lo hi))⟩
    | @tup p xs ds h1 a =>
      cases e
      refine .inr ⟨_, _, rfl, s.seqT h1, fun w => q _ _ _ (.same ?_), fun _ l n => q _ _ _ (.tup n (a.cut lo hi))⟩
      have w' : cutD ds lo hi = ds := by
        rw [a.len] at w
        unfold cutD
        rw [w.1, w.2, List.drop_zero, Nat.sub_zero, List.take_length]
      rw [w']
      exact .tup h1 a
    | _ => cases e

/-! ### built-ins -/
theorem sortI_perm : ∀ ns : List Int, (sortI ns).Perm ns
  | [] => .refl _
  | x :: r => by
    have ins : ∀ (x : Int) (l : List Int), (insI x l).Perm (x :: l) := fun x l => by
      induction l with
      | nil => exact .refl _
      | cons y t ih =>
        unfold insI
        split
        · exact .refl _
        · exact (ih.cons y).trans (.swap x y t)
    exact (ins x _).trans ((sortI_perm r).cons x)
theorem sortI_sorted : ∀ ns : List Int, (sortI ns).Pairwise (· ≤ ·)
  | [] => .nil
  | x :: r => by
    have ins : ∀ (x : Int) (l : List Int), l.Pairwise (· ≤ ·) → (insI x l).Pairwise (· ≤ ·) ∧ ∀ z ∈ insI x l, z = x ∨ z ∈ l := fun x l => by
      induction l with
      | nil => intro _; exact ⟨List.pairwise_singleton _ _, fun z h => .inl (List.mem_singleton.mp h)⟩
      | cons y t ih =>
        intro h
        have h1 := List.pairwise_cons.mp h
        unfold insI
        split
        · rename_i hxy
          refine ⟨List.pairwise_cons.mpr ⟨fun z hz => ?_, h⟩, fun z hz => List.mem_cons.mp hz⟩
          rcases List.mem_cons.mp hz with rfl | hz
          · exact hxy
          · exact Int.le_trans hxy (h1.1 z hz)
        · rename_i hxy
          obtain ⟨i1, i2⟩ := ih h1.2
          refine ⟨List.pairwise_cons.mpr ⟨fun z hz => ?_, i1⟩, fun z hz => ?_⟩
          · rcases i2 z hz with rfl | hz
            · omega
            · exact h1.1 z hz
          · rcases List.mem_cons.mp hz with rfl | hz
            · exact .inr List.mem_cons_self
            · rcases i2 z hz with e | hz
              · exact .inl e
              · exact .inr (List.mem_cons_of_mem _ hz)
    exact (ins x _ (sortI_sorted r)).1
theorem perm_sorted : ∀ {a b : List Int}, a.Perm b → a.Pairwise (· ≤ ·) → b.Pairwise (· ≤ ·) → a = b
  | [], b, p, _, _ => (List.nil_perm.mp p).symm
  | x :: a, [], p, _, _ => absurd p.length_eq (by simp)
  | x :: a, y :: b, p, ha, hb => by
    have h1 := List.pairwise_cons.mp ha
    have h2 := List.pairwise_cons.mp hb
    have e : x = y := by
      have m1 : x ∈ y :: b := p.mem_iff.mp List.mem_cons_self
      have m2 : y ∈ x :: a := p.mem_iff.mpr List.mem_cons_self
      rcases List.mem_cons.mp m1 with e | m1
      · exact e
      · rcases List.mem_cons.mp m2 with e | m2
        · exact e.symm
        · exact Int.le_antisymm (h1.1 y m2) (h2.1 x m1)
    subst e
    rw [perm_sorted (List.perm_cons x |>.mp p) h1.2 h2.2]
theorem sorted_is {ms ns : List Int} (p : ms.Perm ns) (h : ms.Pairwise (· ≤ ·)) : ms = sortI ns := perm_sorted (p.trans (sortI_perm ns).symm) h (sortI_sorted ns)
theorem minI_spec : ∀ (ns : List Int) (m : Int), minI m ns ∈ m :: ns ∧ ∀ y ∈ m :: ns, minI m ns ≤ y
  | [], m => ⟨List.mem_cons_self, fun y h => by rw [List.mem_singleton.mp h]; exact Int.le_refl _⟩
  | x :: r, m => by
    show minI (if x < m then x else m) r ∈ _ ∧ ∀ y ∈ _, minI (if x < m then x else m) r ≤ y
    obtain ⟨i1, i2⟩ := minI_spec r (if x < m then x else m)
    have i3 := i2 _ List.mem_cons_self
    constructor
    · rcases List.mem_cons.mp i1 with e | h
      · rw [e]; split
        · exact List.mem_cons_of_mem _ List.mem_cons_self
        · exact List.mem_cons_self
      · exact List.mem_cons_of_mem _ (List.mem_cons_of_mem _ h)
    · intro y hy
      rcases List.mem_cons.mp hy with rfl | hy
      · split at i3 <;> split <;> omega
      · rcases List.mem_cons.mp hy with rfl | hy
        · split at i3 <;> split <;> omega
        · exact i2 y (List.mem_cons_of_mem _ hy)
theorem maxI_spec : ∀ (ns : List Int) (m : Int), maxI m ns ∈ m :: ns ∧ ∀ y ∈ m :: ns, y ≤ maxI m ns
  | [], m => ⟨List.mem_cons_self, fun y h => by rw [List.mem_singleton.mp h]; exact Int.le_refl _⟩
  | x :: r, m => by
    show maxI (if m < x then x else m) r ∈ _ ∧ ∀ y ∈ _, y ≤ maxI (if m < x then x else m) r
    obtain ⟨i1, i2⟩ := maxI_spec r (if m < x then x else m)
    have i3 := i2 _ List.mem_cons_self
    constructor
    · rcases List.mem_cons.mp i1 with e | h
      · rw [e]; split
        · exact List.mem_cons_of_mem _ List.mem_cons_self
        · exact List.mem_cons_self
      · exact List.mem_cons_of_mem _ (List.mem_cons_of_mem _ h)
    · intro y hy
      rcases List.mem_cons.mp hy with rfl | hy
      · split at i3 <;> split <;> omega
      · rcases List.mem_cons.mp hy with rfl | hy
        · split at i3 <;> split <;> omega
        · exact i2 y (List.mem_cons_of_mem _ hy)

inductive BlName : Bl → Str → Value → Prop where
  | abs : BlName .abs "abs" (.builtin "abs")
  | int : BlName .int "int" (.type "int")
  | tuple : BlName .tuple "tuple" (.type "tuple")
  | list : BlName .list "list" (.type "list")
  | sum : BlName .sum "sum" (.builtin "sum")
  | all : BlName .all "all" (.builtin "all")
  | any : BlName .any "any" (.builtin "any")
  | min2 : BlName .min2 "min" (.builtin "min")
  | max2 : BlName .max2 "max" (.builtin "max")
  | min1 : BlName .min1 "min" (.builtin "min")
  | max1 : BlName .max1 "max" (.builtin "max")
  | sorted : BlName .sorted "sorted" (.builtin "sorted")
def rBlt (K : PySem.W.Frag) (b : Bl) : List V → Hp → VK → Prop := fun vs H Q => ∃ D ds r, Sub D H ∧ DqAll K D vs ds ∧ blt b ds = some r ∧ ∀ z D' H', Res K D H r z D' H' → Q z H'
theorem DqAll.one {K : PySem.W.Frag} {H : Hp} {vs : List V} {d : PyData} (h : DqAll K H vs [d]) : ∃ v, vs = [v] ∧ Dq K H v d := by
  cases h with
  | cons r t => cases t; exact ⟨_, rfl, r⟩
theorem DqAll.two {K : PySem.W.Frag} {H : Hp} {vs : List V} {d e : PyData} (h : DqAll K H vs [d, e]) : ∃ v w, vs = [v, w] ∧ Dq K H v d ∧ Dq K H w e := by
  cases h with
  | cons r t => obtain ⟨w, rfl, q⟩ := t.one; exact ⟨_, w, rfl, r, q⟩
theorem call_blt (hc : X.calm = true) {b : Bl} {x : Str} {f : Value} (n : BlName b x f) : CallR X f (rBlt X.K b) := by
  intro pins s σ H vs us Q I rv ⟨D, ds, r, sub, hv, e, q⟩
  unfold blt at e
  split at e
  · cases n
    obtain ⟨v, rfl, h⟩ := hv.one
    cases h; cases e
    exact call_abs pins s σ H _ us Q I rv ⟨_, rfl, q _ _ _ (.same (.int _))⟩
  · cases n
    obtain ⟨v, rfl, h⟩ := hv.one
    cases h; cases e
    exact call_int1 pins s σ H _ us Q I rv (.inl ⟨_, rfl, q _ _ _ (.same (.int _))⟩)
  · cases n
    obtain ⟨v, rfl, h⟩ := hv.one
    cases h; cases e
    exact call_int1 pins s σ H _ us Q I rv (.inr ⟨_, rfl, q _ _ _ (.same (.int _))⟩)
  · cases n
    obtain ⟨v, rfl, h⟩ := hv.one
    cases h with
    | lst h1 a =>
      cases e
      exact call_tuple_of pins s σ H _ us Q I rv ⟨_, _, rfl, .inl ⟨sub.seqL h1, fun l nl => q _ _ _ (.tup nl a)⟩⟩
  · cases n
    obtain ⟨v, rfl, h⟩ := hv.one
    cases h with
    | tup h1 a =>
      cases e
      exact call_tuple_of pins s σ H _ us Q I rv ⟨_, _, rfl, .inr ⟨sub.seqT h1, q _ _ _ (.same (.tup h1 a))⟩⟩
  · cases n
    obtain ⟨v, rfl, h⟩ := hv.one
    cases h with
    | lst h1 a =>
      cases e
      exact call_list_of pins s σ H _ us Q I rv ⟨_, _, rfl, .inl (sub.seqL h1), fun l nl => q _ _ _ (.lst nl a)⟩
  · cases n
    obtain ⟨v, rfl, h⟩ := hv.one
    cases h with
    | tup h1 a =>
      cases e
      exact call_list_of pins s σ H _ us Q I rv ⟨_, _, rfl, .inr (sub.seqT h1), fun l nl => q _ _ _ (.lst nl a)⟩
  · cases n
    obtain ⟨v, rfl, h⟩ := hv.one
    obtain ⟨ns, e1, rfl⟩ := map_some e
    cases h with
    | lst h1 a =>
      have := a.ints e1
      subst this
      exact cr_sum hc pins s σ H _ us Q I rv ⟨_, ns, rfl, sub.seqL h1, q _ _ _ (.same (.int _))⟩
  · cases n
    obtain ⟨v, rfl, h⟩ := hv.one
    obtain ⟨ns, e1, rfl⟩ := map_some e
    cases h with
    | lst h1 a =>
      have := a.bools e1
      subst this
      exact cr_all hc pins s σ H _ us Q I rv ⟨_, ns, rfl, sub.seqL h1, q _ _ _ (.same (.bl _))⟩
  · cases n
    obtain ⟨v, rfl, h⟩ := hv.one
    obtain ⟨ns, e1, rfl⟩ := map_some e
    cases h with
    | lst h1 a =>
      have := a.bools e1
      subst this
      exact cr_any hc pins s σ H _ us Q I rv ⟨_, ns, rfl, sub.seqL h1, q _ _ _ (.same (.bl _))⟩
  · cases n
    obtain ⟨v, w, rfl, h, h'⟩ := hv.two
    cases h; cases h'; cases e
    exact call_min2 hc pins s σ H _ us Q I rv ⟨_, _, rfl, q _ _ _ (.same (.int _))⟩
  · cases n
    obtain ⟨v, w, rfl, h, h'⟩ := hv.two
    cases h; cases h'; cases e
    exact call_max2 hc pins s σ H _ us Q I rv ⟨_, _, rfl, q _ _ _ (.same (.int _))⟩
  · cases n
    obtain ⟨v, rfl, h⟩ := hv.one
    split at e
    · rename_i m ns e1; cases e
      cases h with
      | lst h1 a =>
        have := a.ints e1
        subst this
        obtain ⟨m1, m2⟩ := minI_spec ns m
        refine cr_min hc pins s σ H _ us Q I rv ⟨_, m :: ns, rfl, sub.seqL h1, by simp, fun z hz hle => ?_⟩
        have : z = minI m ns := Int.le_antisymm (hle _ m1) (m2 _ hz)
        subst this
        exact q _ _ _ (.same (.int _))
    · cases e
  · cases n
    obtain ⟨v, rfl, h⟩ := hv.one
    split at e
    · rename_i m ns e1; cases e
      cases h with
      | lst h1 a =>
        have := a.ints e1
        subst this
        obtain ⟨m1, m2⟩ := maxI_spec ns m
        refine cr_max hc pins s σ H _ us Q I rv ⟨_, m :: ns, rfl, sub.seqL h1, by simp, fun z hz hle => ?_⟩
        have : z = maxI m ns := Int.le_antisymm (m2 _ hz) (hle _ m1)
        subst this
        exact q _ _ _ (.same (.int _))
    · cases e
  · cases n
    obtain ⟨v, rfl, h⟩ := hv.one
    obtain ⟨ns, e1, rfl⟩ := map_some e
    cases h with
    | lst h1 a =>
      have := a.ints e1
      subst this
      refine cr_sortedI pins s σ H _ us Q I rv ⟨_, ns, rfl, sub.seqL h1, fun ms p pm pw np => ?_⟩
      rw [sorted_is pm pw]
      exact q _ _ _ (.lst np (.of_ints _))
  · cases e
end
end PX
set_option Elab.async false
set_option autoImplicit false
set_option maxRecDepth 100000
set_option maxHeartbeats 8100000
/-! PXU: sorted(set(xs)) of a list of ints. -/
namespace PX
open PySem.Spec L2 PyProof.Rows PySem
abbrev setNew (w : World) : Obj := { cls := .type "set", dict := none, data := .set #[] 0 (.fresh 0 0 (!w.params.followText "set-order")) }
section
variable {P : Program} {w : World} {A : Around} {E : Value → Shared → Prop} {s : Shared}
theorem set_of_list {l : Addr} {its : Array Value} (ns : List Int) {Q : Value → Shared → Prop} (hh : A.handled = none) (hl : s.heap.IsList l its) (hit : IntsAre its.toList ns) (hb : ns.length + 1 < scanBound)
    (h : ∀ (h1 : Heap) (tk c : Nat), SetR w h1 s.heap.objs.size (fun j => decide (j ∈ ns)) c → c ≤ ns.length → (∀ b o, s.heap.get? b = some o → h1.get? b = some o) → Q (.ref s.heap.objs.size) { s with heap := h1, toks := tk }) :
    wpAny (model P w) A (call (.type "set") [.ref l]) Q E s := by
  have size_eq : its.size = ns.length := by rw [← Array.length_toList]; exact IntsAre.length hit
  obtain ⟨c, tl, hmro⟩ := F.called_set.mro; have hmade := F.called_set.made; have hsub := F.called_set.sub
  refine wpAny_call (codeAny_of_tree (show wpAny _ _ (callAny (.type "set") _) _ _ _ from wpAny_pure ⟨Code.quiet_builtin _ (by decide +kernel), codeAny_builtin F.entry_type_call ?_⟩))
  rw [Around.under_plain (weight_type_call_type "set" [.ref l] []) rfl]
  have h1 := F.called_set.notType; have h2 := F.called_set.canCreate; have hct := F.typeCall_set_1 (.ref l)
  repeat (any_goals (first | assumption | wp_step))
  refine codeAny_mono (code_set_led1 (.ref l) (E := E) (Q₁ := fun ob s1 => ob = .ref s.heap.objs.size ∧ s1 = { s with heap := s.heap.push (setNew w) }) ⟨rfl, rfl⟩) fun r s1 hr => ?_
  cases r with
  | error e => exact hr
  | ok fl =>
    cases fl with
    | ret ob =>
      obtain ⟨rfl, rfl⟩ := hr
      have at0 : (s.heap.push (setNew w)).get? s.heap.objs.size = some (setNew w) := Heap.get?_push_size _ rfl
      have ty0 : Shared.TypeIs { s with heap := s.heap.push (setNew w) } (.ref s.heap.objs.size) "set" := ⟨_, at0, rfl⟩
      have hli := F.called_set.init.lookup; have hbi := F.called_set.init.bind (.ref s.heap.objs.size)
      repeat (any_goals (first | assumption | wp_step))
      refine codeAny_mono (codeAny_call_builtin (R := wants (fun r s2 => r = .none ∧ ∃ h1 tk c, s2 = { s with heap := h1, toks := tk } ∧ SetR w h1 s.heap.objs.size (fun j => decide (j ∈ ns)) c ∧ c ≤ ns.length ∧
          (∀ b o, s.heap.get? b = some o → h1.get? b = some o)) E) F.called_set.init.plain F.entry_set_init (check_set_init_1 ty0 ?_)) fun r2 s2 hr2 => ?_
      · obtain ⟨⟨ocls, odict, odata, oslots⟩, hol, hcl, nl, hdl⟩ := hl
        simp only at hcl hdl
        subst hcl; subst hdl
        have hol2 : (s.heap.push (setNew w)).get? l = some { cls := .type "list", dict := odict, data := .seq its nl, slots := oslots } := Heap.get?_push_of_some _ hol
        have hsls := F.sub_list_set; have hslf := F.sub_list_frozenset
        have hne : (Value.type "list" == Value.type "dict") = false := by decide
        have hl1 : (s.heap.push (setNew w)).IsList l its := ⟨_, hol2, rfl, nl, rfl⟩
        unfold Builtin.«set.__init__» noKeywords Builtin.Frozenset.updateFrom
        generalize hPI : pyIter = PI
        wp_walk
        subst hPI
        refine wpAny_pyIter_list hl1 (wpAny_bind (wpAny_runValue ?_))
        have hlS : l < s.heap.objs.size := Heap.lt_size hol
        have free3 : A.in1.in1.in1.handled = none := by simp [hh]
        have size1 : (s.heap.push (setNew w)).objs.size = s.heap.objs.size + 1 := Heap.size_push ..
        have neI : l ≠ (s.heap.push (setNew w)).objs.size := by rw [size1]; exact Nat.ne_of_lt (Nat.lt_succ_of_lt hlS)
        have out0 : s.heap.objs.size ∉ [(s.heap.push (setNew w)).objs.size, l] := by
          rw [size1]; simp only [List.mem_cons, List.mem_singleton, List.not_mem_nil, or_false, not_or]; exact ⟨Nat.ne_of_lt (Nat.lt_succ_self _), Nat.ne_of_gt hlS⟩
        have val0 : ∀ (i : Nat) (v : Value), its[i]? = some v → ∃ k t, ns[i]? = some k ∧ v = .int k t := fun i v hv => by
          have hi : i < ns.length := by rw [← size_eq]; exact (Array.getElem?_eq_some_iff.mp hv).1
          obtain ⟨t, e⟩ := PyProof.Rows.IntsAre.int_at hit i v (by rw [Array.getElem?_toList]; exact hv)
          exact ⟨ns[i], t, List.getElem?_eq_getElem hi, by rw [e, List.getD_eq_getElem?_getD, List.getElem?_eq_getElem hi] <;> rfl⟩
        refine set_update_ints ((Walks.list free3 _ l neI its).toS) s.heap.objs.size out0 ns size_eq hb val0 (its.size - 0) 0 _ (by omega) (Nat.zero_le _) ⟨⟨_, Heap.get?_push_size _ rfl, rfl, rfl⟩, (hl1.push _)⟩ ?hS0 ?hR
        case hS0 => exact ⟨0, Nat.le_refl 0, setR_new_at (Heap.get?_push_of_some _ at0)⟩
        case hR =>
          intro s' c' hm hc' hS'
          obtain ⟨h3, g2, d2, tk2, os2⟩ := s'
          have eg : g2 = s.gens := hm.gens; have ed : d2 = s.drawn := hm.drawn; have eo : os2 = s.os := hm.os
          subst eg; subst ed; subst eo
          show wpAny _ _ _ _ _ _
          refine wpAny_pure (show wpAny _ _ (ret Value.none) _ _ _ from ?_)
          rw [size_eq] at hc'
          refine wpAny_pure ⟨rfl, h3, tk2, c', rfl, hS', hc', fun b o e => ?_⟩
          have lt0 : b < s.heap.objs.size := Heap.lt_size e
          have ne2 : b ≠ (s.heap.push (setNew w)).objs.size := by rw [size1]; exact Nat.ne_of_lt (Nat.lt_succ_of_lt lt0)
          exact hm.heap b o (by simp only [List.mem_cons, List.mem_singleton, List.not_mem_nil, or_false, not_or]; exact ⟨Nat.ne_of_lt lt0, ne2⟩) (Heap.get?_push_of_some _ (Heap.get?_push_of_some _ e))
      · cases r2 with
        | error e => exact hr2
        | ok fl2 =>
          cases fl2 with
          | ret r =>
            obtain ⟨rfl, h3, tk, c', rfl, hS', hc', hk'⟩ := hr2
            repeat (any_goals (first | assumption | wp_step))
            exact h _ _ _ hS' hc' hk'
          | _ => exact hr2.elim
    | _ => exact hr.elim

/-- sorted of a set of ints, of any size -/
theorem sorted_setU {a : Addr} {S : Int → Bool} {n : Nat} {Q : Value → Shared → Prop} (R : SetR w s.heap a S n) (hh : A.handled = none)
    (hQ : ∀ s1 p (out : Array Value) (c : Nat) (ns : List Int), (∀ b o, s.heap.get? b = some o → s1.heap.get? b = some o) → s1.gens = s.gens → s1.os = s.os → s.heap.objs.size ≤ p →
      s1.heap.get? p = some (seqObj "list" out c) → IntsAre out.toList ns → ns.Pairwise (· < ·) → (∀ k, k ∈ ns ↔ S k = true) → ns.length = n → Q (.ref p) s1) :
    wpAny (model P w) A (call (.builtin "sorted") [.ref a]) Q E s := by
  obtain ⟨o, es, ep, t, ho, hex, hd, g, nd, hm, hb, hf, hn, hr, hl⟩ := R
  refine Calls.call_function_entry kind_sorted plain_sorted entry_sorted (args_sorted1 _) ?_
  unfold Builtin.«sorted»
  refine wpAny_bind (m := checkCount "sorted" 1 1 _) (wpAny_pure (wpAny_bind (collect_set (A := A.in1) hh ⟨o, ho, hex.1, hd⟩ hf hb hr hl fun s1 vs k1 hz g1 o1 pm => ?_)))
  have len0 : vs.length = n := by rw [pm.length_eq, List.length_map, Array.length_toList]; exact hn
  have small : vs.length ≤ sizeLine := by rw [len0, ← hn]; exact fits_of_scanBound hb
  have ints0 : IntsAre vs (vs.map Builtin.Re.reRawOf) := ints_of vs fun v hv => by
    obtain ⟨e, he, q⟩ := List.mem_map.mp (pm.mem_iff.mp hv)
    obtain ⟨k, tk, h1, _⟩ := g e he
    exact ⟨k, tk, by rw [← q]; exact h1⟩
  have perm0 : (vs.map Builtin.Re.reRawOf).Perm (es.toList.map keyOf) := by
    have q := pm.map Builtin.Re.reRawOf
    rw [List.map_map] at q; exact q
  refine wpAny_bind (wpAny_newList ?_ small)
  have at0 : (s1.heap.push (seqObj "list" vs.toArray 0)).get? s1.heap.objs.size = some (seqObj "list" vs.toArray 0) := Heap.get?_push_size _ rfl
  refine wpAny_bind (wpAny_holding (wpAny_call_entry slot_list_sort ⟨_, at0, rfl⟩ entry_list_sort (SrtO.list_sort_ord SrtO.swo_int at0 small (fun h2 => SrtO.ints_sortable ints0 h2) fun out a1 a2 => ⟨_, rfl, ?_⟩) (args_list_sort _)))
  obtain ⟨k1', k2', k3'⟩ := SrtO.ints_out ints0 a1 a2
  obtain ⟨c, hc⟩ := sortedHeap_at (vs := vs) (out := out.toArray) at0
  have pn : (out.map SrtO.iv).Perm (es.toList.map keyOf) := k2'.trans perm0
  refine wpAny_pure ⟨_, rfl, hQ _ s1.heap.objs.size out.toArray c (out.map SrtO.iv) (fun b u e => ?_) g1 o1 hz hc k1' (lt_of_le_nodup _ k3' (pn.nodup_iff.mpr nd)) (fun k => by rw [pn.mem_iff, ← hm k]) ?_⟩
  · have q := k1 b u e
    have hlt := Heap.lt_size q
    show (sortedHeap (s1.heap.push (seqObj "list" vs.toArray 0)) s1.heap.objs.size vs out.toArray).get? b = some u
    rw [sortedHeap_old (Nat.ne_of_lt hlt) (by rw [size_push']; exact Nat.lt_succ_of_lt hlt)]
    exact Heap.get?_push_of_some _ q
  · rw [pn.length_eq, List.length_map, Array.length_toList]; exact hn
end
/-! ### the rule -/
theorem insS_mem {x k : Int} : ∀ {l : List Int}, k ∈ insS x l ↔ k = x ∨ k ∈ l
  | [] => by unfold insS; simp
  | y :: r => by
    unfold insS
    by_cases h1 : x < y
    · rw [if_pos h1, List.mem_cons]
    · rw [if_neg h1]
      by_cases h2 : x = y
      · subst h2; rw [if_pos rfl, List.mem_cons]; constructor
        · exact .inr
        · rintro (h | h)
          · exact .inl h
          · exact h
      · rw [if_neg h2, List.mem_cons, insS_mem (l := r), List.mem_cons]
        constructor
        · rintro (h | h | h)
          · exact .inr (.inl h)
          · exact .inl h
          · exact .inr (.inr h)
        · rintro (h | h | h)
          · exact .inr (.inl h)
          · exact .inl h
          · exact .inr (.inr h)
theorem insS_pw {x : Int} : ∀ {l : List Int}, l.Pairwise (· < ·) → (insS x l).Pairwise (· < ·)
  | [], _ => List.pairwise_singleton _ _
  | y :: r, h => by
    have h0 := List.pairwise_cons.mp h
    unfold insS
    by_cases h1 : x < y
    · rw [if_pos h1]
      refine List.pairwise_cons.mpr ⟨fun z hz => ?_, h⟩
      rcases List.mem_cons.mp hz with rfl | hz
      · exact h1
      · have := h0.1 z hz; omega
    · rw [if_neg h1]
      by_cases h2 : x = y
      · rw [if_pos h2]; exact h
      · rw [if_neg h2]
        refine List.pairwise_cons.mpr ⟨fun z hz => ?_, insS_pw h0.2⟩
        rcases insS_mem.mp hz with rfl | hz
        · omega
        · exact h0.1 z hz
theorem setI_mem {k : Int} : ∀ {l : List Int}, k ∈ setI l ↔ k ∈ l
  | [] => by unfold setI; simp
  | x :: r => by unfold setI; rw [insS_mem, setI_mem (l := r), List.mem_cons]
theorem setI_pw : ∀ l : List Int, (setI l).Pairwise (· < ·)
  | [] => .nil
  | x :: r => insS_pw (setI_pw r)
theorem asc_eq : ∀ {a b : List Int}, a.Pairwise (· < ·) → b.Pairwise (· < ·) → (∀ k, k ∈ a ↔ k ∈ b) → a = b
  | [], [], _, _, _ => rfl
  | [], y :: b, _, _, h => absurd ((h y).mpr List.mem_cons_self) (by simp)
  | x :: a, [], _, _, h => absurd ((h x).mp List.mem_cons_self) (by simp)
  | x :: a, y :: b, ha, hb, h => by
    have h1 := List.pairwise_cons.mp ha
    have h2 := List.pairwise_cons.mp hb
    have e : x = y := by
      have m1 := (h x).mp List.mem_cons_self
      have m2 := (h y).mpr List.mem_cons_self
      rcases List.mem_cons.mp m1 with e | m1
      · exact e
      · rcases List.mem_cons.mp m2 with e | m2
        · exact e.symm
        · have := h1.1 y m2; have := h2.1 x m1; omega
    subst e
    rw [asc_eq h1.2 h2.2 fun k => ?_]
    constructor
    · intro hk
      rcases List.mem_cons.mp ((h k).mp (List.mem_cons_of_mem _ hk)) with e | q
      · subst e; have := h1.1 k hk; omega
      · exact q
    · intro hk
      rcases List.mem_cons.mp ((h k).mpr (List.mem_cons_of_mem _ hk)) with e | q
      · subst e; have := h2.1 k hk; omega
      · exact q
def tSset (K : PySem.W.Frag) (te : TE) : TE := fun σ H Q => te σ H fun x H1 => ∃ (l : Addr) (ns : List Int), x = .ref l ∧ SqL K H1 l (ns.map V.int) ∧ ns.length ≤ 4000 ∧
  ∀ p, H1 p = none → Q (.ref p) (upd H1 p (.lst ((setI ns).map V.int)))
theorem pe_sset {X : Cx} {e : Expr} {te : TE} {p p2 pos q : Pos} (hc : X.calm = true) (hg : Gl X "sorted") (hm : X.mg "sorted" = none) (hg2 : Gl X "set") (hm2 : X.mg "set" = none) (he : PE X e te)
    (hs : starEach [e] X.env = (false, eval e X.env) :: starEach [] X.env) : PE X (.Call (.Name "sorted" p) [.Call (.Name "set" p2) [e] [] q] [] pos) (tSset X.K te) := by
  refine ⟨fun pins s σ H Q I h => ?_⟩
  refine Call_ (ld_blt I hg hm boot_sorted ?_)
  refine PyProof.Rows.callWith_builtin1 (PyProof.Rows.args_cons ?_ rfl) rfl rfl
  refine Call_ (ld_blt I hg2 hm2 boot_set ?_)
  refine PyProof.Rows.callWith_type1 (PyProof.Rows.args_cons (thn (he.run pins s σ H _ I h) fun v s1 ⟨x, H1, I1, r1, q1⟩ => PyProof.Rows.args_nil ?_) hs) hs rfl
  obtain ⟨l, ns, rfl, hq, hl, q1⟩ := q1
  cases r1
  obtain ⟨its, r, pl, hz⟩ := I1.list hq
  have hd := I1.ok.hd hc
  refine set_of_list ns hd pl.isList (ints_of_vals r) (by unfold scanBound; omega) fun h' tk c R1 hcn k => ?_
  refine PyProof.Rows.args_nil ?_
  refine sorted_setU (s := { s1 with heap := h', toks := tk }) R1 hd fun s2 p0 out c2 ms k2 g2 o2 hp hg3 hi hpw hmem hlen => ?_
  have em : ms = setI ns := asc_eq hpw (setI_pw ns) fun j => by rw [hmem j, decide_eq_true_eq, setI_mem]
  subst em
  have kall : ∀ b u, s1.heap.get? b = some u → s2.heap.get? b = some u := fun b u e => k2 b u (k b u e)
  have hlt : s1.heap.objs.size < h'.objs.size := by
    obtain ⟨o, es, ep, t, ho, _⟩ := R1
    exact Heap.lt_size ho
  have hp' : s1.heap.objs.size ≤ p0 := Nat.le_trans (Nat.le_of_lt hlt) hp
  have hsz : ((setI ns).map V.int).length ≤ sizeLine := by rw [List.length_map, hlen, sizeLine_eq]; omega
  have hn : H1 p0 = none := I1.hok.fresh hp'
  have J : Inv X pins σ (upd H1 p0 (.lst ((setI ns).map V.int))) { s1 with heap := s2.heap, gens := s2.gens, drawn := s2.drawn, toks := s2.toks } :=
    I1.call (ch := []) (Un.laid kall hp' hn) (I1.hok.laid kall hp' ⟨hsz, out.toList, c2, vals_of_ints hi, hg3⟩) (by rw [g2]; exact I1.bare) (fun _ z => nomatch z)
  have e2 : s2 = { s1 with heap := s2.heap, gens := s2.gens, drawn := s2.drawn, toks := s2.toks } := by
    cases s2; cases s1; cases o2; rfl
  rw [e2]
  exact ⟨.ref p0, _, J, rfl, q1 p0 hn⟩
end PX
set_option Elab.async false
set_option autoImplicit false
set_option maxRecDepth 100000
set_option maxHeartbeats 4100000
/-! PXD: the checker of expressions against the text, and what they read. -/
namespace PX
open PySem.Spec L2 PyProof.Rows PySem

/-! ### the checker -/
/-- what is known of a def's body: its names by slot, its scope, the defs of the text (name, parameters), constants of the top, the built-ins that no name of the top hides -/
structure Ck where
  N : List Str
  sc : Scope
  wsc : Scope
  fns : List (Str × List Str)
  cns : List (Str × PyData)
  bls : List Str
  kwl : List (Nat × Nat × List Str)
def Ck.glob (Γ : Ck) (x : Str) : Bool := decide (Γ.sc.names.lookup x = some .globalImplicit) && !(x == ("__debug__" : Str)) && !(x == ("__name__" : Str))
def Ck.vis (Γ : Ck) (x : Str) : Bool := match Γ.sc.names.lookup x with
  | some .local | some .cell | some .free => true
  | _ => false
def Ck.blt (Γ : Ck) (x : Str) : Bool := Γ.glob x && Γ.bls.contains x
def plainE : Expr → Bool
  | .Starred _ _ => false
  | .Set _ _ _ => false
  | .Slice _ _ _ _ => false
  | .SetComp _ _ _ _ => false
  | .DictComp _ _ _ _ _ => false
  | _ => true
def ckC : PyData → Const → Bool
  | .none, .none => true
  | .bool a, .bool b => a == b
  | .int a, .int b => a == b
  | .str a, .str b => a == b
  | _, _ => false
def sameC : PyData → PyData → Bool
  | .none, .none => true
  | .bool a, .bool b => a == b
  | .int a, .int b => a == b
  | .str a, .str b => a == b
  | _, _ => false
def blStr : Bl → Str
  | .abs => "abs" | .int => "int" | .tuple => "tuple" | .list => "list" | .sum => "sum" | .all => "all" | .any => "any"
  | .min2 => "min" | .max2 => "max" | .min1 => "min" | .max1 => "max" | .sorted => "sorted"
def tyStr : Ty → String
  | .int => "int" | .bool => "bool" | .str => "str" | .list => "list" | .tuple => "tuple"
def ckTys (Γ : Ck) : List Ty → List Expr → Bool
  | [], [] => true
  | t :: ts, .Name x _ :: es => decide (x = Str.ofString (tyStr t)) && Γ.blt x && ckTys Γ ts es
  | _, _ => false
def ckTy (Γ : Ck) (ts : List Ty) : Expr → Bool
  | .Name x _ => match ts with
    | [t] => decide (x = Str.ofString (tyStr t)) && Γ.blt x
    | _ => false
  | .Tuple es _ _ => ckTys Γ ts es
  | _ => false
def ckTgs (Γ : Ck) : List Nat → List Expr → Bool
  | [], [] => true
  | i :: is, .Name x _ :: es => decide (Γ.N[i]? = some x) && (match Γ.wsc.names.lookup x with | some .local | some .cell => true | _ => false) && ckTgs Γ is es
  | _, _ => false
def ckTq (Γ : Ck) : List (Nat ⊕ List Nat) → List Expr → Bool
  | [], [] => true
  | .inl i :: ts, .Name x _ :: es => decide (Γ.N[i]? = some x) && (match Γ.wsc.names.lookup x with | some .local | some .cell => true | _ => false) && ckTq Γ ts es
  | .inr is :: ts, .Tuple fs _ _ :: es => ckTgs Γ is fs && !is.isEmpty && ckTq Γ ts es
  | _, _ => false
def ckTg (Γ : Ck) : Tg → Expr → Bool
  | .nm i, .Name x _ => ckTgs Γ [i] [.Name x default]
  | .tp is, .Tuple es _ _ => ckTgs Γ is es && !is.isEmpty
  | .tq ts, .Tuple es _ _ => ckTq Γ ts es && !ts.isEmpty
  | _, _ => false
def tgIn (own : List Nat) : Tg → Bool
  | .nm i => own.contains i
  | .tp is => is.all fun i => own.contains i
  | .tq ts => (ts.flatMap fun t => match t with | .inl i => [i] | .inr is => is).all fun i => own.contains i
def ownOf (N : List Str) (own : List Nat) : List (Str × Nat) := own.map fun i => (N.getD i (Str.ofString ""), i)
def Ck.blk (Γ : Ck) (scope : Scope) : Ck := { Γ with sc := relS scope Γ.sc, wsc := scope }
/-- where each parameter is among the positional arguments and the keywords -/
def permOf (ps : List Str) (n : Nat) (ks : List Str) : List Nat := ps.zipIdx.map fun p => if p.2 < n then p.2 else n + ks.idxOf p.1
def kwNames : List Keyword → Option (List Str)
  | [] => some []
  | ⟨some x, _, _⟩ :: r => (kwNames r).map (x :: ·)
  | ⟨none, _, _⟩ :: _ => none
def ckIfs (no : Bool) (k : Expr → Bool) : List Expr → Bool
  | [] => no
  | [e] => !no && k e
  | _ => false
mutual
def ckE (Γ : Ck) : E → Expr → Bool
  | .var i, .Name x _ => decide (Γ.N[i]? = some x) && Γ.vis x && !(x == ("__debug__" : Str)) && !(x == ("__classdict__" : Str))
  | .con d, .Constant c _ _ => ckC d c
  | .con d, .Name x _ => Γ.glob x && (match Γ.cns.lookup x with | some d' => sameC d d' | none => false)
  | .bin o a b, .BinOp x op y _ => decide (opOf o = op) && ckE Γ a x && ckE Γ b y
  | .neg a, .UnaryOp .USub x _ => ckE Γ a x
  | .not a, .UnaryOp .Not x _ => ckE Γ a x
  | .cmp o a b, .Compare x [op] [y] _ => decide (copOf o = op) && ckE Γ a x && ckE Γ b y
  | .chain o p a b c, .Compare x [op, op'] [y, z] _ => decide (copOf o = op) && decide (copOf p = op') && ckE Γ a x && ckE Γ b y && ckE Γ c z
  | .and a b, .BoolOp .And (x :: y :: rest) pos => ckE Γ a x && (if rest.isEmpty then ckE Γ b y else ckE Γ b (.BoolOp .And (y :: rest) pos))
  | .or a b, .BoolOp .Or (x :: y :: rest) pos => ckE Γ a x && (if rest.isEmpty then ckE Γ b y else ckE Γ b (.BoolOp .Or (y :: rest) pos))
  | .ite c a b, .IfExp x y z _ => ckE Γ c x && ckE Γ a y && ckE Γ b z
  | .tup a, .Tuple es _ _ => ckA Γ a es
  | .lst a, .List es _ => ckA Γ a es
  | .call f a, .Call (.Name x _) es [] _ => Γ.glob x && (match Γ.fns[f]? with | some (y, ps) => decide (x = y) && decide (es.length = ps.length) | none => false) && ckA Γ a es
  | .callk f a k pm, .Call (.Name x _) es kws _ => Γ.glob x && (match Γ.fns[f]?, kwNames kws with
      | some (y, ps), some ks => decide (x = y) && decide (pm = permOf ps es.length ks) && decide (es.length + ks.length = ps.length) && decide ((f, es.length, ks) ∈ Γ.kwl)
      | _, _ => false) && ckA Γ a es && ckA Γ k (kws.map (·.value))
  | .bl b a, .Call (.Name x _) es [] _ => decide (x = blStr b) && Γ.blt x && ckA Γ a es && !es.isEmpty
  | .len a, .Call (.Name x _) [e] [] _ => decide (x = ("len" : Str)) && Γ.blt x && ckE Γ a e
  | .bits a, .Call (.Attribute (.Name x p) m apos) [] [] pos => decide (m = ("bit_length" : Str)) && (apos.endLine == pos.line) && ckE Γ a (.Name x p)
  | .isi a ts, .Call (.Name x _) [e, t] [] _ => decide (x = ("isinstance" : Str)) && Γ.blt x && ckTy Γ ts t && decide (ts.length ≤ 100) && ckE Γ a e
  | .sub a i, .Subscript x y _ => ckE Γ a x && ckE Γ i y
  | .slc a lo hi, .Subscript x (.Slice l h none _) _ => ckE Γ a x && (match l with | none => isNo lo | some e => !isNo lo && ckE Γ lo e) && (match h with | none => isNo hi | some e => !isNo hi && ckE Γ hi e)
  | .lc own src tg c elt, .ListComp y [⟨t, it, ifs, 0⟩] scope _ => blkC Γ.N Γ.sc scope (ownOf Γ.N own) && ckI Γ t src it && ckTg (Γ.blk scope) tg t && tgIn own tg &&
      ckIfs (isNo c) (fun e => ckE (Γ.blk scope) c e) ifs && ckE (Γ.blk scope) elt y
  | .lrng a, .Call (.Name x _) [e] [] _ => decide (x = ("list" : Str)) && Γ.blt x && ckR Γ a e
  | .callb f a, .Call (.Name x _) [e] [] _ => Γ.glob x && (match Γ.fns[f]? with | some (y, ps) => decide (x = y) && decide (1 = ps.length) | none => false) && ckE Γ a e
  | .sset a, .Call (.Name x _) [.Call (.Name y _) [e] [] _] [] _ => decide (x = ("sorted" : Str)) && Γ.blt x && decide (y = ("set" : Str)) && Γ.blt y && ckE Γ a e
  | .lrngw a b, .Call (.Name x _) [.Call (.Name y _) [e1, e2] [] _] [] _ => decide (x = ("list" : Str)) && Γ.blt x && decide (y = ("range" : Str)) && Γ.blt y && ckE Γ a e1 && ckE Γ b e2
  | .rev a, .Subscript x (.Slice none none (some (.UnaryOp .USub (.Constant (.int 1) _ _) _)) _) _ => ckE Γ a x
  | _, _ => false
def ckA (Γ : Ck) : E → List Expr → Bool
  | .nil, [] => true
  | .cons a r, e :: es => ckE Γ a e && ckA Γ r es
  | _, _ => false
/-- a range's call -/
def ckR (Γ : Ck) : E → Expr → Bool
  | .rng1 a, .Call (.Name x _) [e] [] _ => decide (x = ("range" : Str)) && Γ.blt x && ckE Γ a e
  | .rng2 a b, .Call (.Name x _) [e, f] [] _ => decide (x = ("range" : Str)) && Γ.blt x && ckE Γ a e && ckE Γ b f
  | _, _ => false
/-- what is walked, by the target -/
def ckI (Γ : Ck) (t : Expr) : E → Expr → Bool
  | .rng1 a, .Call (.Name x _) [e] [] _ => decide (x = ("range" : Str)) && Γ.blt x && ckE Γ a e
  | .rng2 a b, .Call (.Name x _) [e, f] [] _ => decide (x = ("range" : Str)) && Γ.blt x && ckE Γ a e && ckE Γ b f
  | .zip a b, .Call (.Name x _) [e, f] [] _ => decide (x = ("zip" : Str)) && Γ.blt x && (match t with | .Tuple _ _ _ => true | _ => false) && ckE Γ a e && ckE Γ b f
  | .enum a, .Call (.Name x _) [e] [] _ => decide (x = ("enumerate" : Str)) && Γ.blt x && (match t with | .Tuple _ _ _ => true | _ => false) && ckE Γ a e
  | .it a, e => ckE Γ a e
  | _, _ => false
end
theorem ck_plain {Γ : Ck} {E : E} {e : Expr} (h : ckE Γ E e = true) : plainE e = true := by
  cases e <;> first
    | rfl
    | (cases E <;> simp [ckE] at h)
end PX
set_option Elab.async false
set_option autoImplicit false
set_option maxRecDepth 100000
set_option maxHeartbeats 4100000
/-! PXE: an expression that passes the checker does what the evaluator says. -/
namespace PX
open PySem.Spec L2 PyProof.Rows PySem

theorem PE_imp {X : Cx} {e : Expr} {t t' : TE} (h : PE X e t) (f : ∀ σ H Q, t' σ H Q → t σ H Q) : PE X e t' := ⟨fun pins s σ H Q I q => h.run pins s σ H Q I (f σ H Q q)⟩
theorem PT_imp {X : Cx} {e : Expr} {t t' : TT} (h : PT X e t) (f : ∀ σ H Q, t' σ H Q → t σ H Q) : PT X e t' := ⟨fun pins s σ H Q I q => h.run pins s σ H Q I (f σ H Q q)⟩
theorem PW_imp {X : Cx} {e : Expr} {t t' : TT} (h : PW X e t) (f : ∀ σ H Q, t' σ H Q → t σ H Q) : PW X e t' := ⟨fun wh pins s σ H Q I q => h.run wh pins s σ H Q I (f σ H Q q)⟩
theorem PA_imp {X : Cx} {e : List Expr} {t t' : TA} (h : PA X e t) (f : ∀ σ H Q, t' σ H Q → t σ H Q) : PA X e t' := ⟨fun pos pins s σ H Q I q => h.run pos pins s σ H Q I (f σ H Q q)⟩
theorem PK_imp {X : Cx} {e : List Keyword} {t t' : TA} (h : PK X e t) (f : ∀ σ H Q, t' σ H Q → t σ H Q) : PK X e t' := ⟨fun pos pins s σ H Q I q => h.run pos pins s σ H Q I (f σ H Q q)⟩
theorem PI_imp {X : Cx} {tg e : Expr} {t t' : TI} (h : PI X tg e t) (f : ∀ σ H Q, t' σ H Q → t σ H Q) : PI X tg e t' := ⟨fun pins s σ H Q I q => h.run pins s σ H Q I (f σ H Q q)⟩

structure Fx where
  B : Option Addr
  H0 : Hp
  D0 : Hp
def mkP (K : PySem.W.Frag) (f : Fx) : Par := ⟨K, f.B, f.H0, f.D0⟩

/-! ### readings -/
def ArgOk (P : Par) (D : Hp) (x : V) (r : RV) : Prop := match r with
  | .dat d => Dq P.K D x d
  | .box => ∃ a, P.B = some a ∧ x = .ref a
  | .own _ => False
inductive ArgsOk (P : Par) (D : Hp) : List V → List RV → Prop where
  | nil : ArgsOk P D [] []
  | cons {x : V} {xs : List V} {r : RV} {rs : List RV} : ArgOk P D x r → ArgsOk P D xs rs → ArgsOk P D (x :: xs) (r :: rs)
theorem ArgOk.mono {P : Par} {D D' : Hp} {x : V} {r : RV} (s : Sub D D') (h : ArgOk P D x r) : ArgOk P D' x r := by
  cases r with
  | dat d => exact Dq.mono s h
  | box => exact h
  | own ds => exact h.elim
theorem ArgsOk.mono {P : Par} {D D' : Hp} (s : Sub D D') : ∀ {xs : List V} {rs : List RV}, ArgsOk P D xs rs → ArgsOk P D' xs rs
  | _, _, .nil => .nil
  | _, _, .cons h t => .cons (h.mono s) (ArgsOk.mono s t)
theorem ArgsOk.len {P : Par} {D : Hp} : ∀ {xs : List V} {rs : List RV}, ArgsOk P D xs rs → xs.length = rs.length
  | _, _, .nil => rfl
  | _, _, .cons _ t => by rw [List.length_cons, List.length_cons, ArgsOk.len t]
theorem ArgsOk.append {P : Par} {D : Hp} : ∀ {xs ys : List V} {rs ss : List RV}, ArgsOk P D xs rs → ArgsOk P D ys ss → ArgsOk P D (xs ++ ys) (rs ++ ss)
  | _, _, _, _, .nil, b => b
  | _, _, _, _, .cons h t, b => .cons h (ArgsOk.append t b)
theorem ArgsOk.get {P : Par} {D : Hp} : ∀ {xs : List V} {rs : List RV} {i : Nat} {r : RV}, ArgsOk P D xs rs → rs[i]? = some r → ∃ x, xs[i]? = some x ∧ ArgOk P D x r
  | _, _, _, _, .nil, h => by simp at h
  | _, _, 0, _, .cons r _, h => by simp at h; subst h; exact ⟨_, rfl, r⟩
  | _, _, i + 1, d, .cons _ t, h => by
    obtain ⟨v, h1, h2⟩ := ArgsOk.get (i := i) (r := d) t (by simpa using h)
    exact ⟨v, by simpa using h1, h2⟩
theorem ArgsOk.data {P : Par} {D : Hp} : ∀ {xs : List V} {rs : List RV} {ds : List PyData}, ArgsOk P D xs rs → rs.mapM RV.pd = some ds → DqAll P.K D xs ds
  | _, _, ds, .nil, h => by
    have h : some ([] : List PyData) = some ds := h
    cases h; exact .nil
  | _, _, ds, .cons (r := r) (rs := rs) h t, e => by
    rw [List.mapM_cons] at e
    cases e1 : r.pd with
    | none => rw [e1] at e; cases e
    | some d =>
      rw [e1] at e
      cases e2 : rs.mapM RV.pd with
      | none => rw [e2] at e; cases e
      | some es =>
        rw [e2] at e
        have e : some (d :: es) = some ds := e
        cases e
        refine .cons ?_ (ArgsOk.data t e2)
        cases r with
        | dat d' => cases e1; exact h
        | box => cases e1
        | own _ => exact h.elim
def tE (P : Par) (cal : Cal) (e : E) : TE := fun σ H Q => ∃ D g r g', Rel P D g σ H ∧ evE cal e g = some (r, g') ∧
  ∀ x D' H', Rel P D' g' σ H' → Post P D g σ H D' g' H' → RvOk P H D' g' σ H' x r → Q x H'
def tT (P : Par) (cal : Cal) (e : E) : TT := fun σ H Q => ∃ D g r g' k, Rel P D g σ H ∧ evE cal e g = some (r, g') ∧ truth r = some k ∧
  ∀ D' H', Rel P D' g' σ H' → Post P D g σ H D' g' H' → Q k H'
def tA (P : Par) (cal : Cal) (e : E) : TA := fun σ H Q => ∃ D g rs g', Rel P D g σ H ∧ evA cal e g = some (rs, g') ∧
  ∀ xs D' H', Rel P D' g' σ H' → Post P D g σ H D' g' H' → ArgsOk P D' xs rs → Q xs H'
/-- a walk that gives the items of ds -/
structure WalkD (K : PySem.W.Frag) (D : Hp) (J : It) (ds : List PyData) : Prop where
  goes : ∀ D1 H i, Sub D D1 → Sub D1 H → i < ds.length → J.go i H
  stops : ∀ D1 H, Sub D D1 → Sub D1 H → J.stop ds.length H
  yields : ∀ D1 H i x H', Sub D D1 → Sub D1 H → i < ds.length → J.yld i H x H' → ∃ d D2, ds[i]? = some d ∧ Res K D1 H (.dat d) x D2 H'
def tI (P : Par) (cal : Cal) (e : E) : TI := fun σ H R => ∃ D g ds g', Rel P D g σ H ∧ evI cal e g = some (ds, g') ∧
  ∀ J D' H', Rel P D' g' σ H' → Post P D g σ H D' g' H' → WalkD P.K D' J ds → R J H'
def tR (P : Par) (cal : Cal) (e : E) : L2.St → Hp → (Int → Int → Hp → Prop) → Prop := fun σ H Q => ∃ D g a b g', Rel P D g σ H ∧ evI cal e g = some (rangeD a (b - a).toNat, g') ∧ inR a = true ∧ inR b = true ∧
  ∀ D' H', Rel P D' g' σ H' → Post P D g σ H D' g' H' → Q a b H'
/-- looked into: a list of one's own stays it -/
def RvA (P : Par) (D H : Hp) (x : V) (r : RV) : Prop := match r with
  | .dat d => Dq P.K D x d
  | .box => ∃ a, P.B = some a ∧ x = .ref a
  | .own ds => ∃ p xs, x = .ref p ∧ H p = some (.lst xs) ∧ DqAll P.K D xs ds ∧ P.B ≠ some p
def bo (cal : Cal) (e : E) (g : G) : Option (RV × G) := match pk e g with
  | some r => some (r, g)
  | none => evE cal e g
def tBo (P : Par) (cal : Cal) (e : E) : TE := fun σ H Q => ∃ D g r g', Rel P D g σ H ∧ bo cal e g = some (r, g') ∧
  ∀ x D' H', Rel P D' g' σ H' → Post P D g σ H D' g' H' → RvA P D' H' x r → Q x H'
section
variable {P : Par} {cal : Cal} {σ : L2.St} {H H' H1 H2 Hs D D' D1 D2 : Hp} {g g' g1 g2 : G} {r : RV} {x : V} {e : E} {Q : VK}
theorem RvOk.a (h : RvOk P Hs D g σ H x r) : RvA P D H x r := by
  cases r with
  | dat d => exact h
  | box => exact h
  | own ds =>
    obtain ⟨p, xs, e, o, _, _⟩ := h
    exact ⟨p, xs, e, o.at_, o.all, o.nb⟩
theorem RvA.after (h : RvA P D H x r) (a : Post P D g σ H D' g' H') : RvA P D' H' x r := by
  cases r with
  | dat d => exact Dq.mono a.mono h
  | box => exact h
  | own ds =>
    obtain ⟨p, xs, e, o1, o2, o3⟩ := h
    exact ⟨p, xs, e, a.keep _ _ o1 o3, o2.mono a.mono, o3⟩
theorem RvA.rv (h : RvA P D H x r) (n : r ≠ .box) : RvAt P.K D H x r := by
  cases r with
  | dat d => exact h
  | box => exact absurd rfl n
  | own ds =>
    obtain ⟨p, xs, e, o1, o2, o3⟩ := h
    exact ⟨p, xs, e, o1, o2⟩
theorem truth_nb {k : Bool} (h : truth r = some k) : r ≠ .box := by rintro rfl; cases h
theorem RvOk.tru {k : Bool} (R : Rel P D g σ H) (h : RvOk P Hs D g σ H x r) (e : truth r = some k) : TruV P.K x H k := (h.a.rv (truth_nb e)).truth R.sub e
theorem RvOk.arg (R : Rel P D g σ H) {Ds : Hp} {gs : G} (a : Post P Ds gs σ Hs D g H) (h : RvOk P Hs D g σ H x r) :
    ∃ D', Rel P D' g σ H ∧ Post P Ds gs σ Hs D' g H ∧ Sub D D' ∧ ArgOk P D' x r.frz := by
  cases r with
  | dat d => exact ⟨D, R, a, Sub.refl _, h⟩
  | box => exact ⟨D, R, a, Sub.refl _, h⟩
  | own ds =>
    obtain ⟨D', R', a', s, q⟩ := R.share a h (d := .list ds) rfl
    exact ⟨D', R', a', s, q⟩
theorem shared {d : PyData} (R : Rel P D g σ H) (ev : evE cal e g = some (r, g')) (hd : r.pd = some d)
    (k : ∀ x D' H', Rel P D' g' σ H' → Post P D g σ H D' g' H' → Dq P.K D' x d → Q x H') : tE P cal e σ H Q :=
  ⟨D, g, r, g', R, ev, fun x D' H' R' A rv => by
    obtain ⟨D2, R2, A2, _, q⟩ := R'.share A rv hd
    exact k x D2 H' R2 A2 q⟩
theorem int_of {K : PySem.W.Frag} {i : Int} (h : Dq K D x (.int i)) : x = .int i := by cases h; rfl
theorem finR (R : Rel P D g σ H) (A : Post P D g σ H D2 g2 H2) (R2 : Rel P D2 g2 σ H2)
    (k : ∀ x D' H', Rel P D' g2 σ H' → Post P D g σ H D' g2 H' → RvOk P H D' g2 σ H' x r → Q x H') {z : V} {D3 H3 : Hp} (res : Res P.K D2 H2 r z D3 H3) : Q z H3 := by
  obtain ⟨R3, A3, rv⟩ := Res.go R2 res
  exact k z D3 H3 R3 (A.trans A3) (rv.back fun p n => A.back R R2 n)
end

/-! ### a name -/
section
variable {P : Par} {σ : L2.St} {H D : Hp} {g g' : G} {r : RV}
theorem rd_ok {i : Nat} (R : Rel P D g σ H) (e : rd i g = some (r, g')) : ∃ v D', σ[i]? = some (some v) ∧ Rel P D' g' σ H ∧ Post P D g σ H D' g' H ∧ RvOk P H D' g' σ H v r := by
  unfold rd at e
  split at e
  · rename_i ds hi
    cases e
    obtain ⟨p, xs, e1, o⟩ := R.slot i _ hi
    have hil : i < g.env.length := (List.getElem?_eq_some_iff.mp hi).1
    have sD := Sub.of_new (o := .lst xs) o.no
    have ix : ∀ (j : Nat) (es : List PyData), (g.env.set i (some (.dat (.list ds))))[j]? = some (some (.own es)) → j ≠ i ∧ g.env[j]? = some (some (.own es)) := fun j es h => by
      by_cases hj : i = j
      · subst hj; rw [List.getElem?_set_self hil] at h; cases h
      · rw [List.getElem?_set_ne hj] at h; exact ⟨fun z => hj z.symm, h⟩
    refine ⟨.ref p, upd D p (.lst xs), e1, ⟨fun b u h => ?_, R.old, fun b u h0 d0 => ?_, by rw [List.length_set]; exact R.len, fun j sl h => ?_, fun j l q es fs h1 h2 => R.dis j l q es fs (ix _ _ h1).2 (ix _ _ h2).2, fun a ha => ?_⟩, ⟨sD, fun _ _ h _ => h, fun b u h1 h2 h3 h4 => ?_, fun j es h => (ix _ _ h).2⟩, .lst (.inl (.inl upd_same)) (o.all.mono sD)⟩
    · by_cases e : b = p
      · subst e; rw [upd_same] at h; cases h; exact o.at_
      · rw [upd_ne e] at h; exact R.sub b u h
    · rw [upd_ne (ne_of_none h0 o.new)]; exact R.new b u h0 d0
    · by_cases hj : i = j
      · subst hj; rw [List.getElem?_set_self hil] at h; cases h
        exact ⟨_, e1, .lst (.inl (.inl upd_same)) (o.all.mono sD)⟩
      · rw [List.getElem?_set_ne hj] at h
        have q := R.slot j sl h
        cases sl with
        | none => trivial
        | some rv =>
          cases rv with
          | dat d => obtain ⟨v, q1, q2⟩ := q; exact ⟨v, q1, q2.mono sD⟩
          | box => exact q
          | own es =>
            obtain ⟨p', xs', q1, o'⟩ := q
            have : p' ≠ p := fun z => hj (R.dis i j p ds es hi h e1 (z ▸ q1))
            exact ⟨p', xs', q1, o'.mono sD o'.at_ (by rw [upd_ne this]; exact o'.no)⟩
    · obtain ⟨x, y, z, q1, q2, q3⟩ := R.box a ha
      exact ⟨x, y, z, q1, q2, by rw [upd_ne (show a ≠ p from fun z => o.nb (z ▸ ha))]; exact q3⟩
    · rw [upd_ne (show b ≠ p from fun z => h4 i ds hi (z ▸ e1))]; exact h3
  · rename_i r' hn hi
    cases e
    have q := R.slot i _ hi
    cases r with
    | dat d => obtain ⟨v, q1, q2⟩ := q; exact ⟨v, D, q1, R, Post.refl, q2⟩
    | box => obtain ⟨a, q1, q2⟩ := q; exact ⟨.ref a, D, q2, R, Post.refl, a, q1, rfl⟩
    | own ds => exact absurd rfl (hn ds)
  · cases e
theorem peek_ok {i : Nat} (R : Rel P D g σ H) (e : peek i g = some r) : ∃ v, σ[i]? = some (some v) ∧ RvA P D H v r := by
  unfold peek at e
  split at e
  · rename_i r' hi
    cases e
    have q := R.slot i _ hi
    cases r with
    | dat d => exact q
    | box => obtain ⟨a, q1, q2⟩ := q; exact ⟨.ref a, q2, a, q1, rfl⟩
    | own ds => obtain ⟨p, xs, q1, o⟩ := q; exact ⟨.ref p, q1, p, xs, rfl, o.at_, o.all, o.nb⟩
  · cases e
end

/-! ### a def's promise -/
def BoxOk (B : Option Addr) (D H : Hp) (bx : Bx) : Prop := ∀ a, B = some a → ∃ x y z, bx = some (x, y, z) ∧ H a = some (.lst [.int x, .int y, .int z]) ∧ D a = none
structure RetOk (K : PySem.W.Frag) (B : Option Addr) (D H : Hp) (bx : Bx) (D' H' : Hp) (z : V) (r : RV) : Prop where
  sub : Sub D' H'
  mono : Sub D D'
  keep : ∀ b o, H b = some o → B ≠ some b → H' b = some o
  fresh : ∀ b o, H b = some o → D b = none → D' b = none
  box : BoxOk B D' H' bx
  val : match r with
    | .dat d => Dq K D' z d
    | .own ds => ∃ p xs, z = .ref p ∧ H' p = some (.lst xs) ∧ DqAll K D' xs ds ∧ D' p = none ∧ H p = none ∧ B ≠ some p
    | .box => False
/-- what the def f promises, by the evaluator's calls -/
def spF (cal : Cal) (K : PySem.W.Frag) (f : Nat) : Sp := fun vs H Q _ => ∃ (B : Option Addr) (D : Hp) (rs : List RV) (bx : Bx) (r : RV) (bx' : Bx),
  Sub D H ∧ BoxOk B D H bx ∧ ArgsOk ⟨K, B, H, D⟩ D vs rs ∧ cal f rs bx = some (r, bx') ∧ ∀ z D' H', RetOk K B D H bx' D' H' z r → Q z H'
section
variable {P : Par} {σ : L2.St} {H H' D D' : Hp} {g : G} {r : RV} {z : V} {bx : Bx}
theorem Rel.boxOk (R : Rel P D g σ H) : BoxOk P.B D H g.bx := R.box
theorem RetOk.go (R : Rel P D g σ H) (h : RetOk P.K P.B D H bx D' H' z r) : Rel P D' { g with bx := bx } σ H' ∧ Post P D g σ H D' { g with bx := bx } H' ∧ RvOk P H D' { g with bx := bx } σ H' z r := by
  have A : Post P D g σ H D' { g with bx := bx } H' := ⟨h.mono, h.keep, fun b o h1 _ h3 _ => h.fresh b o h1 h3, fun _ _ q => q⟩
  have R' : Rel P D' { g with bx := bx } σ H' := by
    refine ⟨h.sub, fun b o h1 h2 => h.keep b o (R.old b o h1 h2) h2, fun b o h1 h2 => ?_, R.len, fun i sl hi => ?_, R.dis, h.box⟩
    · by_cases e : P.B = some b
      · obtain ⟨_, _, _, _, _, q⟩ := h.box b e; exact q
      · exact h.fresh b o (R.old b o h1 e) (R.new b o h1 h2)
    · have q := R.slot i sl hi
      cases sl with
      | none => trivial
      | some rv =>
        cases rv with
        | dat d => obtain ⟨v, q1, q2⟩ := q; exact ⟨v, q1, q2.mono h.mono⟩
        | box => exact q
        | own ds =>
          obtain ⟨p, xs, q1, o⟩ := q
          exact ⟨p, xs, q1, o.mono h.mono (h.keep _ _ o.at_ o.nb) (h.fresh _ _ o.at_ o.no)⟩
  refine ⟨R', A, ?_⟩
  have v := h.val
  cases r with
  | dat d => exact v
  | box => exact v.elim
  | own ds =>
    obtain ⟨p, xs, e, h1, h2, h3, h4, h5⟩ := v
    exact ⟨p, xs, e, ⟨h1, h2, h3, R.no0 h4, h5⟩, R.free h4, h4⟩
end
/-- the positional and the keyword values in the parameters' order -/
def selL {α : Type} (n m : Nat) (pm : List Nat) (us ws : List α) : List α := if us.length = n ∧ ws.length = m then pm.filterMap fun i => (us ++ ws)[i]? else []
/-- what a def's body (or a block in it) has around -/
structure CxOk (Γ : Ck) (X : Cx) (cal : Cal) : Prop where
  N : X.N = Γ.N
  nd : X.N.Nodup
  sc : X.env.scope = Γ.sc
  calm : X.calm = true
  units : X.A.units + 65 < cLine
  tgs : ∀ x, (Γ.wsc.names.lookup x = some .local → X.env.scope.names.lookup x = some .local) ∧ (Γ.wsc.names.lookup x = some .cell → X.env.scope.names.lookup x = some .cell ∧ X.fn x = true)
  fns : ∀ f x ps, Γ.fns[f]? = some (x, ps) → ∃ fa fd k, X.mg x = some (.ref fa) ∧ PySem.W.keepIn X.K (.ref fa) = true ∧ Binds X.K fd ps [] ∧ Room k X.A ∧
    FnOk X.prog X.w X.K X.mg X.base CX0 k fa fd ps (spF cal X.K f) ∧
    ∀ n ks, (f, n, ks) ∈ Γ.kwl → KBinds X.K fd ps ks (selL n ks.length (permOf ps n ks)) (selL n ks.length (permOf ps n ks))
  bls : ∀ x ∈ Γ.bls, X.mg x = none
  cns : ∀ x d, Γ.cns.lookup x = some d → ∃ v u, X.mg x = some u ∧ RelV v u ∧ ∀ H, Dq X.K H v d
end PX
set_option Elab.async false
set_option autoImplicit false
set_option maxRecDepth 100000
set_option maxHeartbeats 4100000
/-! PXF: the expressions, one by one. -/
namespace PX
open PySem.Spec L2 PyProof.Rows PySem
section
variable {Γ : Ck} {X : Cx} {cal : Cal} {f : Fx} {a b c : E} {ea eb ec : Expr} {pos : Pos}

theorem e_var {i : Nat} {x : Str} (C : CxOk Γ X cal) (h : ckE Γ (.var i) (.Name x pos) = true) : PE X (.Name x pos) (tE (mkP X.K f) cal (.var i)) := by
  simp only [ckE, Bool.and_eq_true, decide_eq_true_eq, Bool.not_eq_true'] at h
  obtain ⟨⟨⟨h1, h2⟩, h3⟩, h4⟩ := h
  have vis : Vis X.env.scope x := by
    rw [C.sc]
    unfold Ck.vis at h2
    split at h2
    · exact .inl (by assumption)
    · exact .inr (.inl (by assumption))
    · exact .inr (.inr (by assumption))
    · cases h2
  refine PE_imp (pe_var (by rw [C.N]; exact h1) vis h3 h4) fun σ H Q ⟨D, g, r, g', R, ev, k⟩ => ?_
  obtain ⟨v, D', e1, R', A, rv⟩ := rd_ok R ev
  exact ⟨v, e1, k v D' H R' A rv⟩
theorem bo_of (C : CxOk Γ X cal) (h : ckE Γ a ea = true) (he : PE X ea (tE (mkP X.K f) cal a)) : PE X ea (tBo (mkP X.K f) cal a) := by
  by_cases hv : ∃ i, a = .var i
  · obtain ⟨i, rfl⟩ := hv
    cases ea with
    | Name x pos =>
      simp only [ckE, Bool.and_eq_true, decide_eq_true_eq, Bool.not_eq_true'] at h
      obtain ⟨⟨⟨h1, h2⟩, h3⟩, h4⟩ := h
      have vis : Vis X.env.scope x := by
        rw [C.sc]
        unfold Ck.vis at h2
        split at h2
        · exact .inl (by assumption)
        · exact .inr (.inl (by assumption))
        · exact .inr (.inr (by assumption))
        · cases h2
      refine PE_imp (pe_var (by rw [C.N]; exact h1) vis h3 h4) fun σ H Q ⟨D, g, r, g', R, ev, k⟩ => ?_
      unfold bo pk at ev
      simp only at ev
      cases hp : peek i g with
      | some r' =>
        rw [hp] at ev
        cases ev
        obtain ⟨v, e1, q⟩ := peek_ok R hp
        exact ⟨v, e1, k v D H R Post.refl q⟩
      | none =>
        rw [hp] at ev
        obtain ⟨v, D', e1, R', A, rv⟩ := rd_ok R ev
        exact ⟨v, e1, k v D' H R' A rv.a⟩
    | _ => simp [ckE] at h
  · refine PE_imp he fun σ H Q ⟨D, g, r, g', R, ev, k⟩ => ⟨D, g, r, g', R, ?_, fun x D' H' R' A rv => k x D' H' R' A rv.a⟩
    have : pk a g = none := by
      cases a <;> first | rfl | exact absurd ⟨_, rfl⟩ hv
    unfold bo at ev
    rw [this] at ev
    exact ev
theorem e_con {d : PyData} (C : CxOk Γ X cal) (h : ckE Γ (.con d) ea = true) : PE X ea (tE (mkP X.K f) cal (.con d)) := by
  have go : ∀ {v : V} {σ : L2.St} {H : Hp} {Q : VK}, (∀ D, Dq X.K D v d) → tE (mkP X.K f) cal (.con d) σ H Q → Q v H := fun hv ⟨D, g, r, g', R, ev, k⟩ => by
    cases ev
    exact k _ D _ R Post.refl (hv D)
  cases ea with
  | Constant cst k pos =>
    have h : ckC d cst = true := h
    unfold ckC at h
    split at h
    · exact PE_imp pe_non fun σ H Q q => go (fun _ => .non) q
    · obtain rfl := beq_iff_eq.mp h
      exact PE_imp pe_bl fun σ H Q q => go (fun _ => .bl _) q
    · obtain rfl := beq_iff_eq.mp h
      exact PE_imp pe_int fun σ H Q q => go (fun _ => .int _) q
    · obtain rfl := beq_iff_eq.mp h
      exact PE_imp pe_str fun σ H Q q => go (fun _ => .str _) q
    · cases h
  | Name x pos =>
    simp only [ckE, Bool.and_eq_true] at h
    obtain ⟨h1, h2⟩ := h
    unfold Ck.glob at h1
    simp only [Bool.and_eq_true, decide_eq_true_eq, Bool.not_eq_true'] at h1
    split at h2
    · rename_i d' hl
      obtain ⟨v, u, e1, e2, e3⟩ := C.cns x d' hl
      have e : d = d' := by
        unfold sameC at h2
        split at h2
        · rfl
        · rw [beq_iff_eq.mp h2]
        · rw [beq_iff_eq.mp h2]
        · rw [beq_iff_eq.mp h2]
        · cases h2
      subst e
      refine PE_imp (pe_glob (v := v) (show X.env.scope.names.lookup x = _ by rw [C.sc]; exact h1.1.1) e1 e2 h1.1.2) fun σ H Q q => go (fun D => e3 D) q
    · cases h2
  | _ => simp [ckE] at h

theorem e_bin {o : Bop} (ha : PE X ea (tE (mkP X.K f) cal a)) (hb : PE X eb (tE (mkP X.K f) cal b)) : PE X (.BinOp ea (opOf o) eb pos) (tE (mkP X.K f) cal (.bin o a b)) := by
  refine PE_imp (pe_op (op_bin o) ha hb) fun σ H Q ⟨D, g, r, g', R, ev, k⟩ => ?_
  simp only [evE] at ev
  split at ev
  · rename_i x g1 e1
    split at ev
    · rename_i y g2 e2
      split at ev
      · rename_i dx dy h1 h2
        obtain ⟨r', h3, h4⟩ := map_some ev
        cases h4
        exact shared R e1 h1 fun vx D1 H1 R1 A1 q1 => shared R1 e2 h2 fun vy D2 H2 R2 A2 q2 =>
          ⟨D2, dx, dy, r, R2.sub, q1.mono A2.mono, q2, h3, fun z D3 H3 res => finR R (A1.trans A2) R2 k res⟩
      · cases ev
    · cases ev
  · cases ev
theorem e_neg (ha : PE X ea (tE (mkP X.K f) cal a)) : PE X (.UnaryOp .USub ea pos) (tE (mkP X.K f) cal (.neg a)) := by
  refine PE_imp (pe_un un_neg ha) fun σ H Q ⟨D, g, r, g', R, ev, k⟩ => ?_
  simp only [evE] at ev
  split at ev
  · rename_i i g1 e1
    cases ev
    refine shared R e1 (d := .int i) rfl fun vx D1 H1 R1 A1 q1 => ⟨i, int_of q1, finR R A1 R1 k (.same (.int _))⟩
  · cases ev
theorem e_not (ha : PE X ea (tE (mkP X.K f) cal a)) : PE X (.UnaryOp .Not ea pos) (tE (mkP X.K f) cal (.not a)) := by
  refine PE_imp (pe_notT ha) fun σ H Q ⟨D, g, r, g', R, ev, k⟩ => ?_
  simp only [evE] at ev
  split at ev
  · rename_i x g1 e1
    obtain ⟨t, h3, h4⟩ := map_some ev
    cases h4
    exact ⟨D, g, x, g', R, e1, fun vx D1 H1 R1 A1 rv => ⟨t, rv.tru R1 h3, finR R A1 R1 k (.same (.bl _))⟩⟩
  · cases ev
theorem t_not (ha : PT X ea (tT (mkP X.K f) cal a)) : PT X (.UnaryOp .Not ea pos) (tT (mkP X.K f) cal (.not a)) := by
  refine PT_imp (pt_not ha) fun σ H Q ⟨D, g, r, g', t, R, ev, ht, k⟩ => ?_
  simp only [evE] at ev
  split at ev
  · rename_i x g1 e1
    obtain ⟨t', h3, h4⟩ := map_some ev
    cases h4
    cases ht
    exact ⟨D, g, x, g', t', R, e1, h3, fun D1 H1 R1 A1 => k D1 H1 R1 A1⟩
  · cases ev
/-- a comparison, by its parts -/
theorem cmp_inv {o : Cop} {g g' : G} {r : RV} (ev : evE cal (.cmp o a b) g = some (r, g')) : ∃ x g1 y dx dy k, evE cal a g = some (x, g1) ∧ bo cal b g1 = some (y, g') ∧ x.pd = some dx ∧ y.pd = some dy ∧ cmpop o dx dy = some k ∧ r = .dat (.bool k) := by
  simp only [evE] at ev
  split at ev
  · rename_i x g1 e1
    split at ev
    · rename_i y g2 e2
      split at ev
      · rename_i dx dy h1 h2
        obtain ⟨r', h3, h4⟩ := map_some ev
        cases h4
        exact ⟨x, g1, y, dx, dy, r', e1, e2, h1, h2, h3, rfl⟩
      · cases ev
    · cases ev
  · cases ev
theorem rd_cmp {o : Cop} {σ : L2.St} {H : Hp} {Q : VK} (q : tE (mkP X.K f) cal (.cmp o a b) σ H Q) : tOp (rCmp X.K o) (tE (mkP X.K f) cal a) (tBo (mkP X.K f) cal b) σ H Q := by
  obtain ⟨D, g, r, g', R, ev, k⟩ := q
  obtain ⟨x, g1, y, dx, dy, t, e1, e2, h1, h2, h3, rfl⟩ := cmp_inv ev
  refine shared R e1 h1 fun vx D1 H1 R1 A1 q1 => ⟨D1, g1, y, g', R1, e2, fun vy D2 H2 R2 A2 rv => ?_⟩
  have hy : Dq X.K H2 vy dy := by
    cases y with
    | dat d => cases h2; exact Dq.mono R2.sub rv
    | box => cases h2
    | own ds =>
      cases h2
      obtain ⟨p, xs, rfl, p1, p2, p3⟩ := rv
      exact .lst (.inl (.inl p1)) (p2.mono R2.sub)
  exact ⟨dx, dy, t, (q1.mono A2.mono).mono R2.sub, hy, h3, finR R (A1.trans A2) R2 k (.same (.bl _))⟩
/-- a test whose value is a truth value -/
theorem rd_test {e : E} {σ : L2.St} {H : Hp} {Q : Bool → Hp → Prop} (hb : ∀ g r g', evE cal e g = some (r, g') → ∃ k, r = .dat (.bool k)) (q : tT (mkP X.K f) cal e σ H Q) :
    tE (mkP X.K f) cal e σ H fun x H' => ∃ k, x = .bl k ∧ Q k H' := by
  obtain ⟨D, g, r, g', t, R, ev, ht, k⟩ := q
  obtain ⟨b, rfl⟩ := hb _ _ _ ev
  cases ht
  refine ⟨D, g, _, g', R, ev, fun x D' H' R' A rv => ⟨t, ?_, k D' H' R' A⟩⟩
  have rv : Dq X.K D' x (.bool t) := rv
  cases rv; rfl
theorem nm_of {Γ' : Ck} {e' : E} {eb : Expr} (h : ckE Γ' e' eb = true) (op : CmpOp) : behindInMarks op eb = false := by
  have := ck_plain h
  cases eb <;> first | rfl | (simp [plainE] at this)
theorem e_cmp {o : Cop} (hu : X.A.units + 65 < cLine) (hm : behindInMarks (copOf o) eb = false) (ha : PE X ea (tE (mkP X.K f) cal a)) (hb : PE X eb (tBo (mkP X.K f) cal b)) :
    PE X (.Compare ea [copOf o] [eb] pos) (tE (mkP X.K f) cal (.cmp o a b)) :=
  PE_imp (pe_cmpR (op_cmp hu o) ha hb hm) fun σ H Q q => rd_cmp q
theorem t_cmp {o : Cop} (hu : X.A.units + 65 < cLine) (hm : behindInMarks (copOf o) eb = false) (ha : PE X ea (tE (mkP X.K f) cal a)) (hb : PE X eb (tBo (mkP X.K f) cal b)) :
    PT X (.Compare ea [copOf o] [eb] pos) (tT (mkP X.K f) cal (.cmp o a b)) :=
  PT_imp (pt_cmpR (op_cmp hu o) ha hb hm) fun σ H Q q => rd_cmp (rd_test (fun g r g' ev => by
    obtain ⟨_, _, _, _, _, k, _, _, _, _, _, e⟩ := cmp_inv ev
    exact ⟨k, e⟩) q)
theorem chain_inv {o p : Cop} {g g' : G} {r : RV} (ev : evE cal (.chain o p a b c) g = some (r, g')) : ∃ x g1 y g2 dx dy, evE cal a g = some (x, g1) ∧ evE cal b g1 = some (y, g2) ∧ x.pd = some dx ∧ y.pd = some dy ∧
    ((cmpop o dx dy = some false ∧ r = .dat (.bool false) ∧ g' = g2) ∨ (cmpop o dx dy = some true ∧ ∃ z dz k, evE cal c g2 = some (z, g') ∧ z.pd = some dz ∧ cmpop p dy dz = some k ∧ r = .dat (.bool k))) := by
  simp only [evE] at ev
  split at ev
  · rename_i x g1 e1
    split at ev
    · rename_i y g2 e2
      split at ev
      · rename_i dx dy h1 h2
        split at ev
        · rename_i h3
          split at ev
          · rename_i z g3 e3
            split at ev
            · rename_i dz h4
              obtain ⟨k, h5, h6⟩ := map_some ev
              cases h6
              exact ⟨x, g1, y, g2, dx, dy, e1, e2, h1, h2, .inr ⟨h3, z, dz, k, e3, h4, h5, rfl⟩⟩
            · cases ev
          · cases ev
        · rename_i h3
          cases ev
          exact ⟨x, g1, y, _, dx, dy, e1, e2, h1, h2, .inl ⟨h3, rfl, rfl⟩⟩
        · cases ev
      · cases ev
    · cases ev
  · cases ev
theorem rd_chain {o p : Cop} {σ : L2.St} {H : Hp} {Q : VK} (q : tE (mkP X.K f) cal (.chain o p a b c) σ H Q) : tChain (rCmp X.K o) (rCmp X.K p) (tE (mkP X.K f) cal a) (tE (mkP X.K f) cal b) (tE (mkP X.K f) cal c) σ H Q := by
  obtain ⟨D, g, r, g', R, ev, k⟩ := q
  obtain ⟨x, g1, y, g2, dx, dy, e1, e2, h1, h2, h3⟩ := chain_inv ev
  refine shared R e1 h1 fun vx D1 H1 R1 A1 q1 => shared R1 e2 h2 fun vy D2 H2 R2 A2 q2 => ?_
  rcases h3 with ⟨h3, rfl, rfl⟩ | ⟨h3, z, dz, t, e3, h4, h5, rfl⟩
  · refine ⟨dx, dy, false, (q1.mono A2.mono).mono R2.sub, q2.mono R2.sub, h3, false, rfl, ?_⟩
    rw [if_neg Bool.false_ne_true]
    exact finR R (A1.trans A2) R2 k (.same (.bl _))
  · refine ⟨dx, dy, true, (q1.mono A2.mono).mono R2.sub, q2.mono R2.sub, h3, true, rfl, ?_⟩
    rw [if_pos rfl]
    refine shared R2 e3 h4 fun vz D3 H3 R3 A3 q3 => ⟨dy, dz, t, (q2.mono A3.mono).mono R3.sub, q3.mono R3.sub, h5, finR R ((A1.trans A2).trans A3) R3 k (.same (.bl _))⟩
theorem lm_of {e1 e2 : E} {eb ec : Expr} {o p : CmpOp} {Γ' : Ck} (h : ckE Γ' e1 eb = true) (h' : ckE Γ' e2 ec = true) : lastMarks [o, p] [eb, ec] = false := by
  show behindInMarks p ec = false
  exact nm_of h' p
theorem e_chain {o p : Cop} (hu : X.A.units + 65 < cLine) (hm : lastMarks [copOf o, copOf p] [eb, ec] = false) (ha : PE X ea (tE (mkP X.K f) cal a)) (hb : PE X eb (tE (mkP X.K f) cal b)) (hc : PE X ec (tE (mkP X.K f) cal c)) :
    PE X (.Compare ea [copOf o, copOf p] [eb, ec] pos) (tE (mkP X.K f) cal (.chain o p a b c)) :=
  PE_imp (pe_chain (op_cmp hu o) (op_cmp hu p) ha hb hc hm) fun σ H Q q => rd_chain q
theorem t_chain {o p : Cop} (hu : X.A.units + 65 < cLine) (hm : lastMarks [copOf o, copOf p] [eb, ec] = false) (ha : PE X ea (tE (mkP X.K f) cal a)) (hb : PE X eb (tE (mkP X.K f) cal b)) (hc : PE X ec (tE (mkP X.K f) cal c)) :
    PT X (.Compare ea [copOf o, copOf p] [eb, ec] pos) (tT (mkP X.K f) cal (.chain o p a b c)) :=
  PT_imp (pt_chain (op_cmp hu o) (op_cmp hu p) ha hb hc hm) fun σ H Q q => rd_chain (rd_test (fun g r g' ev => by
    obtain ⟨_, _, _, _, _, _, _, _, _, _, h⟩ := chain_inv ev
    rcases h with ⟨_, e, _⟩ | ⟨_, _, _, k, _, _, _, e⟩
    · exact ⟨false, e⟩
    · exact ⟨k, e⟩) q)

/-! ### and, or, if -/
theorem and_inv {g g' : G} {r : RV} (ev : evE cal (.and a b) g = some (r, g')) : ∃ x g1, evE cal a g = some (x, g1) ∧ ((truth x = some true ∧ evE cal b g1 = some (r, g')) ∨ (truth x = some false ∧ r = x ∧ g' = g1)) := by
  simp only [evE] at ev
  split at ev
  · rename_i x g1 e1
    split at ev
    · rename_i h; exact ⟨x, g1, e1, .inl ⟨h, ev⟩⟩
    · rename_i h; cases ev; exact ⟨_, _, e1, .inr ⟨h, rfl, rfl⟩⟩
    · cases ev
  · cases ev
theorem or_inv {g g' : G} {r : RV} (ev : evE cal (.or a b) g = some (r, g')) : ∃ x g1, evE cal a g = some (x, g1) ∧ ((truth x = some false ∧ evE cal b g1 = some (r, g')) ∨ (truth x = some true ∧ r = x ∧ g' = g1)) := by
  simp only [evE] at ev
  split at ev
  · rename_i x g1 e1
    split at ev
    · rename_i h; exact ⟨x, g1, e1, .inl ⟨h, ev⟩⟩
    · rename_i h; cases ev; exact ⟨_, _, e1, .inr ⟨h, rfl, rfl⟩⟩
    · cases ev
  · cases ev
theorem ite_inv {g g' : G} {r : RV} (ev : evE cal (.ite c a b) g = some (r, g')) : ∃ x g1 k, evE cal c g = some (x, g1) ∧ truth x = some k ∧ (if k = true then evE cal a g1 else evE cal b g1) = some (r, g') := by
  simp only [evE] at ev
  split at ev
  · rename_i x g1 e1
    split at ev
    · rename_i h; exact ⟨x, g1, true, e1, h, ev⟩
    · rename_i h; exact ⟨x, g1, false, e1, h, ev⟩
    · cases ev
  · cases ev
/-- the rest is read from a later state -/
theorem later {P : Par} {e : E} {σ : L2.St} {H H1 D D1 : Hp} {g g1 g' : G} {r : RV} {Q : VK} (R : Rel P D g σ H) (A1 : Post P D g σ H D1 g1 H1) (R1 : Rel P D1 g1 σ H1) (ev : evE cal e g1 = some (r, g'))
    (k : ∀ x D' H', Rel P D' g' σ H' → Post P D g σ H D' g' H' → RvOk P H D' g' σ H' x r → Q x H') : tE P cal e σ H1 Q :=
  ⟨D1, g1, r, g', R1, ev, fun x D2 H2 R2 A2 rv => k x D2 H2 R2 (A1.trans A2) (rv.back fun p n => A1.back R R1 n)⟩
theorem laterT {P : Par} {e : E} {σ : L2.St} {H H1 D D1 : Hp} {g g1 g' : G} {r : RV} {t : Bool} {Q : Bool → Hp → Prop} (A1 : Post P D g σ H D1 g1 H1) (R1 : Rel P D1 g1 σ H1) (ev : evE cal e g1 = some (r, g')) (ht : truth r = some t)
    (k : ∀ D' H', Rel P D' g' σ H' → Post P D g σ H D' g' H' → Q t H') : tT P cal e σ H1 Q :=
  ⟨D1, g1, r, g', t, R1, ev, ht, fun D2 H2 R2 A2 => k D2 H2 R2 (A1.trans A2)⟩
theorem e_and {es : List Expr} (ha : PE X ea (tE (mkP X.K f) cal a)) (hb : PE X (.BoolOp .And (eb :: es) pos) (tE (mkP X.K f) cal b)) : PE X (.BoolOp .And (ea :: eb :: es) pos) (tE (mkP X.K f) cal (.and a b)) := by
  refine PE_imp (pe_andT ha hb) fun σ H Q ⟨D, g, r, g', R, ev, k⟩ => ?_
  obtain ⟨x, g1, e1, h⟩ := and_inv ev
  refine ⟨D, g, x, g1, R, e1, fun vx D1 H1 R1 A1 rv => ?_⟩
  rcases h with ⟨h, e2⟩ | ⟨h, rfl, rfl⟩
  · refine ⟨true, rv.tru R1 h, ?_⟩
    rw [if_pos rfl]
    exact later R A1 R1 e2 k
  · refine ⟨false, rv.tru R1 h, ?_⟩
    rw [if_neg Bool.false_ne_true]
    exact k vx D1 H1 R1 A1 rv
theorem e_or {es : List Expr} (ha : PE X ea (tE (mkP X.K f) cal a)) (hb : PE X (.BoolOp .Or (eb :: es) pos) (tE (mkP X.K f) cal b)) : PE X (.BoolOp .Or (ea :: eb :: es) pos) (tE (mkP X.K f) cal (.or a b)) := by
  refine PE_imp (pe_orT ha hb) fun σ H Q ⟨D, g, r, g', R, ev, k⟩ => ?_
  obtain ⟨x, g1, e1, h⟩ := or_inv ev
  refine ⟨D, g, x, g1, R, e1, fun vx D1 H1 R1 A1 rv => ?_⟩
  rcases h with ⟨h, e2⟩ | ⟨h, rfl, rfl⟩
  · refine ⟨false, rv.tru R1 h, ?_⟩
    rw [if_neg Bool.false_ne_true]
    exact later R A1 R1 e2 k
  · refine ⟨true, rv.tru R1 h, ?_⟩
    rw [if_pos rfl]
    exact k vx D1 H1 R1 A1 rv
theorem w_and {es : List Expr} (ha : PT X ea (tT (mkP X.K f) cal a)) (hb : PW X (.BoolOp .And (eb :: es) pos) (tT (mkP X.K f) cal b)) : PW X (.BoolOp .And (ea :: eb :: es) pos) (tT (mkP X.K f) cal (.and a b)) := by
  refine PW_imp (pw_and ha hb) fun σ H Q ⟨D, g, r, g', t, R, ev, ht, k⟩ => ?_
  obtain ⟨x, g1, e1, h⟩ := and_inv ev
  rcases h with ⟨h, e2⟩ | ⟨h, rfl, rfl⟩
  · refine ⟨D, g, x, g1, true, R, e1, h, fun D1 H1 R1 A1 => iteT (laterT A1 R1 e2 ht k)⟩
  · refine ⟨D, g, r, g', false, R, e1, h, fun D1 H1 R1 A1 => iteF ?_⟩
    rw [h] at ht; cases ht
    exact k D1 H1 R1 A1
theorem w_or {es : List Expr} (ha : PT X ea (tT (mkP X.K f) cal a)) (hb : PW X (.BoolOp .Or (eb :: es) pos) (tT (mkP X.K f) cal b)) : PW X (.BoolOp .Or (ea :: eb :: es) pos) (tT (mkP X.K f) cal (.or a b)) := by
  refine PW_imp (pw_or ha hb) fun σ H Q ⟨D, g, r, g', t, R, ev, ht, k⟩ => ?_
  obtain ⟨x, g1, e1, h⟩ := or_inv ev
  rcases h with ⟨h, e2⟩ | ⟨h, rfl, rfl⟩
  · refine ⟨D, g, x, g1, false, R, e1, h, fun D1 H1 R1 A1 => iteF (laterT A1 R1 e2 ht k)⟩
  · refine ⟨D, g, r, g', true, R, e1, h, fun D1 H1 R1 A1 => iteT ?_⟩
    rw [h] at ht; cases ht
    exact k D1 H1 R1 A1
theorem e_ite (hc : PT X ec (tT (mkP X.K f) cal c)) (ha : PE X ea (tE (mkP X.K f) cal a)) (hb : PE X eb (tE (mkP X.K f) cal b)) : PE X (.IfExp ec ea eb pos) (tE (mkP X.K f) cal (.ite c a b)) := by
  refine PE_imp (pe_ifExp hc ha hb) fun σ H Q ⟨D, g, r, g', R, ev, k⟩ => ?_
  obtain ⟨x, g1, t, e1, h, e2⟩ := ite_inv ev
  refine ⟨D, g, x, g1, t, R, e1, h, fun D1 H1 R1 A1 => ?_⟩
  cases t with
  | true => rw [if_pos rfl] at e2; exact iteT (later R A1 R1 e2 k)
  | false => rw [if_neg Bool.false_ne_true] at e2; exact iteF (later R A1 R1 e2 k)
theorem pt_ifExp {ta tb tc : TT} (hc : PT X ec tc) (ha : PT X ea ta) (hb : PT X eb tb) : PT X (.IfExp ec ea eb pos) (fun σ H Q => tc σ H fun k H1 => if k = true then ta σ H1 Q else tb σ H1 Q) := by
  refine ⟨fun pins s σ H Q I h => ?_⟩
  refine isTrue_IfExp (thn (hc.run pins s σ H _ I h) fun d s1 ⟨H1, I1, q1⟩ => ?_)
  cases d with
  | true => exact ha.run pins s1 σ H1 Q I1 q1
  | false => exact hb.run pins s1 σ H1 Q I1 q1
theorem t_ite (hc : PT X ec (tT (mkP X.K f) cal c)) (ha : PT X ea (tT (mkP X.K f) cal a)) (hb : PT X eb (tT (mkP X.K f) cal b)) : PT X (.IfExp ec ea eb pos) (tT (mkP X.K f) cal (.ite c a b)) := by
  refine PT_imp (pt_ifExp hc ha hb) fun σ H Q ⟨D, g, r, g', t', R, ev, ht, k⟩ => ?_
  obtain ⟨x, g1, t, e1, h, e2⟩ := ite_inv ev
  refine ⟨D, g, x, g1, t, R, e1, h, fun D1 H1 R1 A1 => ?_⟩
  cases t with
  | true => rw [if_pos rfl] at e2; exact iteT (laterT A1 R1 e2 ht k)
  | false => rw [if_neg Bool.false_ne_true] at e2; exact iteF (laterT A1 R1 e2 ht k)
/-- any other expression as a test -/
theorem t_any {e : E} (ha : PE X ea (tE (mkP X.K f) cal e)) (he : ∀ whole, isTrue ea X.env whole = (do let v ← whole; standAt ea.pos; holding [v] (truthy v))) : PT X ea (tT (mkP X.K f) cal e) :=
  PT_imp (pt_truth ha he) fun σ H Q ⟨D, g, r, g', t, R, ev, ht, k⟩ => ⟨D, g, r, g', R, ev, fun x D' H' R' A rv => ⟨t, rv.tru R' ht, k D' H' R' A⟩⟩

/-! ### lists of expressions, displays, calls -/
theorem a_nil : PA X [] (tA (mkP X.K f) cal .nil) := PA_imp pa_nil fun σ H Q ⟨D, g, rs, g', R, ev, k⟩ => by
  cases ev
  exact k [] D H R Post.refl .nil
theorem star_of {Γ' : Ck} {e : E} {ea : Expr} {es : List Expr} {env : Env} (h : ckE Γ' e ea = true) : starEach (ea :: es) env = (false, eval ea env) :: starEach es env := by
  have := ck_plain h
  cases ea <;> first | rfl | (simp [plainE] at this)
theorem a_cons {r : E} {es : List Expr} (hs : starEach (ea :: es) X.env = (false, eval ea X.env) :: starEach es X.env) (ha : PE X ea (tE (mkP X.K f) cal a)) (hr : PA X es (tA (mkP X.K f) cal r)) : PA X (ea :: es) (tA (mkP X.K f) cal (.cons a r)) := by
  refine PA_imp (pa_cons ha hr hs) fun σ H Q ⟨D, g, rs, g', R, ev, k⟩ => ?_
  simp only [evA] at ev
  split at ev
  · rename_i x g1 e1
    split at ev
    · rename_i xs g2 e2
      cases ev
      refine ⟨D, g, x, g1, R, e1, fun vx D1 H1 R1 A1 rv => ?_⟩
      obtain ⟨D1', R1', A1', s, q⟩ := rv.arg R1 A1
      exact ⟨D1', g1, xs, g', R1', e2, fun vs D2 H2 R2 A2 qs => k (vx :: vs) D2 H2 R2 (A1'.trans A2) (.cons (q.mono A2.mono) qs)⟩
    · cases ev
  · cases ev
theorem fin_args {P : Par} {e : E} {σ : L2.St} {H D : Hp} {g g' : G} {rs : List RV} {ds : List PyData} {Q : List V → Hp → Prop} (R : Rel P D g σ H) (ev : evA cal e g = some (rs, g')) (hd : rs.mapM RV.pd = some ds)
    (k : ∀ xs D' H', Rel P D' g' σ H' → Post P D g σ H D' g' H' → DqAll P.K D' xs ds → Q xs H') : tA P cal e σ H Q :=
  ⟨D, g, rs, g', R, ev, fun xs D' H' R' A q => k xs D' H' R' A (q.data hd)⟩
theorem e_tup {es : List Expr} {x1 : Nat} (ha : PA X es (tA (mkP X.K f) cal a)) : PE X (.Tuple es x1 pos) (tE (mkP X.K f) cal (.tup a)) := by
  refine PE_imp (pe_tup ha) fun σ H Q ⟨D, g, r, g', R, ev, k⟩ => ?_
  simp only [evE] at ev
  split at ev
  · rename_i rs g1 e1
    split at ev
    · rename_i ds h1
      split at ev
      · rename_i h2; cases ev
        exact fin_args R e1 h1 fun xs D1 H1 R1 A1 q => ⟨by rw [q.len]; exact szOk_le h2, fun p n => finR R A1 R1 k (.tup n q)⟩
      · cases ev
    · cases ev
  · cases ev
theorem e_lst {es : List Expr} (ha : PA X es (tA (mkP X.K f) cal a)) : PE X (.List es pos) (tE (mkP X.K f) cal (.lst a)) := by
  refine PE_imp (pe_lst ha) fun σ H Q ⟨D, g, r, g', R, ev, k⟩ => ?_
  simp only [evE] at ev
  split at ev
  · rename_i rs g1 e1
    split at ev
    · rename_i ds h1
      split at ev
      · rename_i h2; cases ev
        exact fin_args R e1 h1 fun xs D1 H1 R1 A1 q => ⟨by rw [q.len]; exact szOk_le h2, fun p n => finR R A1 R1 k (.lst n q)⟩
      · cases ev
    · cases ev
  · cases ev
theorem boot_bl (b : Bl) : ∃ v, BlName b (blStr b) v ∧ bootBuiltins (blStr b) = some v ∧ blStr b ≠ "__name__" ∧ (blStr b == ("__debug__" : Str)) = false := by
  cases b
  · exact ⟨_, .abs, by decide +kernel, by decide, by decide⟩
  · exact ⟨_, .int, by decide +kernel, by decide, by decide⟩
  · exact ⟨_, .tuple, by decide +kernel, by decide, by decide⟩
  · exact ⟨_, .list, by decide +kernel, by decide, by decide⟩
  · exact ⟨_, .sum, by decide +kernel, by decide, by decide⟩
  · exact ⟨_, .all, by decide +kernel, by decide, by decide⟩
  · exact ⟨_, .any, by decide +kernel, by decide, by decide⟩
  · exact ⟨_, .min2, by decide +kernel, by decide, by decide⟩
  · exact ⟨_, .max2, by decide +kernel, by decide, by decide⟩
  · exact ⟨_, .min1, by decide +kernel, by decide, by decide⟩
  · exact ⟨_, .max1, by decide +kernel, by decide, by decide⟩
  · exact ⟨_, .sorted, by decide +kernel, by decide, by decide⟩
theorem gl_of {x : Str} (C : CxOk Γ X cal) (h : Γ.glob x = true) : Gl X x ∧ (x == ("__debug__" : Str)) = false ∧ x ≠ "__name__" := by
  unfold Ck.glob at h
  simp only [Bool.and_eq_true, decide_eq_true_eq, Bool.not_eq_true'] at h
  exact ⟨show X.env.scope.names.lookup x = _ by rw [C.sc]; exact h.1.1, h.1.2, by simpa using h.2⟩
theorem blt_of {x : Str} (C : CxOk Γ X cal) (h : Γ.blt x = true) : Gl X x ∧ X.mg x = none := by
  unfold Ck.blt at h
  rw [Bool.and_eq_true] at h
  exact ⟨(gl_of C h.1).1, C.bls x (by simpa using h.2)⟩
/-- all arguments are plain -/
theorem plain_of {Γ : Ck} {env : Env} : ∀ {a : E} {es : List Expr}, ckA Γ a es = true → ∀ pos : Pos, (backTo pos (starEach es env)).any (·.1) = false
  | .nil, [], _, _ => rfl
  | .nil, _ :: _, h, _ => by simp [ckA] at h
  | .cons a r, [], h, _ => by simp [ckA] at h
  | .cons a r, e :: es, h, pos => by
    simp only [ckA, Bool.and_eq_true] at h
    rw [star_of h.1]
    show (false || (backTo pos (starEach es env)).any (·.1)) = false
    rw [plain_of (es := es) h.2 pos]; rfl
  | .var _, _, h, _ => by simp [ckA] at h
  | .con _, _, h, _ => by simp [ckA] at h
  | .bin _ _ _, _, h, _ => by simp [ckA] at h
  | .neg _, _, h, _ => by simp [ckA] at h
  | .not _, _, h, _ => by simp [ckA] at h
  | .cmp _ _ _, _, h, _ => by simp [ckA] at h
  | .chain _ _ _ _ _, _, h, _ => by simp [ckA] at h
  | .and _ _, _, h, _ => by simp [ckA] at h
  | .or _ _, _, h, _ => by simp [ckA] at h
  | .ite _ _ _, _, h, _ => by simp [ckA] at h
  | .tup _, _, h, _ => by simp [ckA] at h
  | .lst _, _, h, _ => by simp [ckA] at h
  | .call _ _, _, h, _ => by simp [ckA] at h
  | .callk _ _ _ _, _, h, _ => by simp [ckA] at h
  | .bl _ _, _, h, _ => by simp [ckA] at h
  | .len _, _, h, _ => by simp [ckA] at h
  | .bits _, _, h, _ => by simp [ckA] at h
  | .isi _ _, _, h, _ => by simp [ckA] at h
  | .sub _ _, _, h, _ => by simp [ckA] at h
  | .slc _ _ _, _, h, _ => by simp [ckA] at h
  | .no, _, h, _ => by simp [ckA] at h
  | .lc _ _ _ _ _, _, h, _ => by simp [ckA] at h
  | .rng1 _, _, h, _ => by simp [ckA] at h
  | .rng2 _ _, _, h, _ => by simp [ckA] at h
  | .zip _ _, _, h, _ => by simp [ckA] at h
  | .enum _, _, h, _ => by simp [ckA] at h
  | .lrng _, _, h, _ => by simp [ckA] at h
  | .it _, _, h, _ => by simp [ckA] at h
  | .sset _, _, h, _ => by simp [ckA] at h
  | .rev _, _, h, _ => by simp [ckA] at h
  | .lrngw _ _, _, h, _ => by simp [ckA] at h
theorem ckA_cons {Γ : Ck} {a : E} {e : Expr} {es : List Expr} (h : ckA Γ a (e :: es) = true) : ∃ b r, a = .cons b r ∧ ckE Γ b e = true ∧ ckA Γ r es = true := by
  cases a <;> first | (simp [ckA] at h; done) | skip
  simp only [ckA, Bool.and_eq_true] at h
  exact ⟨_, _, rfl, h.1, h.2⟩
theorem e_bl {bl : Bl} {es : List Expr} {p : Pos} (C : CxOk Γ X cal) (hg : Γ.blt (blStr bl) = true) (hk : ckA Γ a (ea :: es) = true) (ha : PA X (ea :: es) (tA (mkP X.K f) cal a)) :
    PE X (.Call (.Name (blStr bl) p) (ea :: es) [] pos) (tE (mkP X.K f) cal (.bl bl a)) := by
  obtain ⟨gl, mg⟩ := blt_of C hg
  obtain ⟨b, ar, rfl, k1, k2⟩ := ckA_cons hk
  obtain ⟨v, n1, n2, n3, n4⟩ := boot_bl bl
  have main : PE X (.Call (.Name (blStr bl) p) (ea :: es) [] pos) (tCB (rBlt X.K bl) (tA (mkP X.K f) cal (.cons b ar))) := by
    have hc := call_blt C.calm n1
    cases n1 <;> first
      | exact pe_callB hc gl mg n2 ha n3 n4 (star_of k1) (plain_of (es := es) k2 pos)
      | exact pe_callTy hc gl mg n2 ha n3 n4 (star_of k1) (plain_of (es := es) k2 pos)
  refine PE_imp main fun σ H Q ⟨D, g, r', g', R, ev, k⟩ => ?_
  simp only [evE] at ev
  split at ev
  · rename_i rs g1 e1
    split at ev
    · rename_i ds h1
      obtain ⟨r2, h2, h3⟩ := map_some ev
      cases h3
      exact fin_args R e1 h1 fun xs D1 H1 R1 A1 q => ⟨D1, ds, r', R1.sub, q, h2, fun z D3 H3 res => finR R A1 R1 k res⟩
    · cases ev
  · cases ev
theorem e_len {p : Pos} (C : CxOk Γ X cal) (hg : Γ.blt "len" = true) (hk : ckE Γ a ea = true) (ha : PE X ea (tBo (mkP X.K f) cal a)) : PE X (.Call (.Name "len" p) [ea] [] pos) (tE (mkP X.K f) cal (.len a)) := by
  obtain ⟨gl, mg⟩ := blt_of C hg
  refine PE_imp (pe_callB call_len gl mg boot_len (pa_cons ha pa_nil (star_of hk)) (by decide) (by decide) (star_of hk) rfl) fun σ H Q ⟨D, g, r, g', R, ev, k⟩ => ?_
  simp only [evE] at ev
  split at ev
  · rename_i x g1 e1
    obtain ⟨n, h2, h3⟩ := map_some ev
    cases h3
    refine ⟨D, g, x, g', R, e1, fun vx D1 H1 R1 A1 rv => ⟨vx, n, rfl, ?_, finR R A1 R1 k (.same (.int _))⟩⟩
    exact (rv.rv (by rintro rfl; cases h2)).lenV R1.sub h2
  · cases ev
theorem e_bits {x : Str} {p apos : Pos} (hl : (apos.endLine == pos.line) = true) (ha : PE X (.Name x p) (tE (mkP X.K f) cal a)) : PE X (.Call (.Attribute (.Name x p) "bit_length" apos) [] [] pos) (tE (mkP X.K f) cal (.bits a)) := by
  refine PE_imp (pe_bits ha rfl hl) fun σ H Q ⟨D, g, r, g', R, ev, k⟩ => ?_
  simp only [evE] at ev
  split at ev
  · rename_i i g1 e1
    cases ev
    exact shared R e1 (d := .int i) rfl fun vx D1 H1 R1 A1 q1 => ⟨i, int_of q1, finR R A1 R1 k (.same (.int _))⟩
  · cases ev
theorem ix_of {Γ' : Ck} {e' : E} {eb : Expr} (h : ckE Γ' e' eb = true) : PlainIx eb := fun o i => by
  have := ck_plain h
  cases eb <;> first | rfl | (simp [plainE] at this)
theorem e_sub (hs : PlainIx eb) (ha : PE X ea (tBo (mkP X.K f) cal a)) (hb : PE X eb (tE (mkP X.K f) cal b)) : PE X (.Subscript ea eb pos) (tE (mkP X.K f) cal (.sub a b)) := by
  refine PE_imp (pe_ix ix_seq ha hb hs) fun σ H Q ⟨D, g, r, g', R, ev, k⟩ => ?_
  simp only [evE] at ev
  split at ev
  · rename_i x g1 e1
    split at ev
    · rename_i y g2 e2
      split at ev
      · rename_i dk h1
        obtain ⟨d, h2, h3⟩ := map_some ev
        cases h3
        refine ⟨D, g, x, g1, R, e1, fun vx D1 H1 R1 A1 rv => shared R1 e2 h1 fun vy D2 H2 R2 A2 q2 => ?_⟩
        have rv2 := rv.after A2
        cases x with
        | box =>
          obtain ⟨a, b1, rfl⟩ := rv2
          obtain ⟨u, v, w, b2, b3, _⟩ := R2.box a b1
          cases q2 with
          | int kk =>
            have h2 : (g'.bx.bind fun b => atI [PyData.int b.1, .int b.2.1, .int b.2.2] kk) = some d := h2
            rw [b2] at h2
            have h2 : atI [PyData.int u, .int v, .int w] kk = some d := h2
            have da : DqAll X.K D2 [V.int u, .int v, .int w] [.int u, .int v, .int w] := .cons (.int u) (.cons (.int v) (.cons (.int w) .nil))
            obtain ⟨z, z1, z2⟩ := da.at h2
            exact .inl ⟨a, _, kk, z, rfl, rfl, .inl (.inl b3), z1, finR R (A1.trans A2) R2 k (.same z2)⟩
          | _ => cases h2
        | dat d' => exact item_ok R2.sub (rv2.rv (fun z => nomatch z)) q2 h2 fun z hz => finR R (A1.trans A2) R2 k (.same hz)
        | own ds => exact item_ok R2.sub (rv2.rv (fun z => nomatch z)) q2 h2 fun z hz => finR R (A1.trans A2) R2 k (.same hz)
      · cases ev
    · cases ev
  · cases ev
/-- a slice's part -/
def tO (P : Par) (cal : Cal) (e : E) : TO := fun σ H Q => ∃ D g o g', Rel P D g σ H ∧ (if isNo e then some (none, g) else match evE cal e g with | some (.dat (.int i), g2) => some (some i, g2) | _ => none) = some (o, g') ∧
  ∀ D' H', Rel P D' g' σ H' → Post P D g σ H D' g' H' → Q o H'
theorem PO_imp {e : Option Expr} {t t' : TO} (h : PO X e t) (k : ∀ σ H Q, t' σ H Q → t σ H Q) : PO X e t' := ⟨fun pins s σ H Q I q => h.run pins s σ H Q I (k σ H Q q)⟩
theorem o_none (h : isNo a = true) : PO X none (tO (mkP X.K f) cal a) := PO_imp po_none fun σ H Q ⟨D, g, o, g', R, ev, k⟩ => by
  rw [h, if_pos rfl] at ev
  cases ev
  exact k D H R Post.refl
theorem o_some (h : isNo a = false) (ha : PE X ea (tE (mkP X.K f) cal a)) : PO X (some ea) (tO (mkP X.K f) cal a) := PO_imp (po_some ha) fun σ H Q ⟨D, g, o, g', R, ev, k⟩ => by
  rw [h, if_neg Bool.false_ne_true] at ev
  split at ev
  · rename_i i g2 e1
    cases ev
    exact shared R e1 (d := .int i) rfl fun vx D1 H1 R1 A1 q1 => ⟨i, int_of q1, k D1 H1 R1 A1⟩
  · cases ev
theorem e_slc {l h : Option Expr} {p2 : Pos} (ha : PE X ea (tBo (mkP X.K f) cal a)) (hl : PO X l (tO (mkP X.K f) cal b)) (hh : PO X h (tO (mkP X.K f) cal c)) :
    PE X (.Subscript ea (.Slice l h none p2) pos) (tE (mkP X.K f) cal (.slc a b c)) := by
  refine PE_imp (pe_slice sl_all ha hl hh) fun σ H Q ⟨D, g, r, g', R, ev, k⟩ => ?_
  simp only [evE] at ev
  split at ev
  · rename_i x g1 e1
    split at ev
    · rename_i lo g2 e2
      split at ev
      · rename_i hi g3 e3
        obtain ⟨r', h2, h3⟩ := map_some ev
        cases h3
        refine ⟨D, g, x, g1, R, e1, fun vx D1 H1 R1 A1 rv => ⟨D1, g1, lo, g2, R1, e2, fun D2 H2 R2 A2 => ⟨D2, g2, hi, g', R2, e3, fun D3 H3 R3 A3 => ?_⟩⟩⟩
        have rv3 := (rv.after A2).after A3
        exact slice_ok R3.sub (rv3.rv (by rintro rfl; cases h2)) h2 fun z D4 H4 res => finR R ((A1.trans A2).trans A3) R3 k res
      · cases ev
    · cases ev
  · cases ev
theorem e_sset {p p2 q : Pos} (C : CxOk Γ X cal) (hg : Γ.blt "sorted" = true) (hg2 : Γ.blt "set" = true) (hk : ckE Γ a ea = true) (ha : PE X ea (tE (mkP X.K f) cal a)) :
    PE X (.Call (.Name "sorted" p) [.Call (.Name "set" p2) [ea] [] q] [] pos) (tE (mkP X.K f) cal (.sset a)) := by
  obtain ⟨gl, mg⟩ := blt_of C hg
  obtain ⟨gl2, mg2⟩ := blt_of C hg2
  refine PE_imp (pe_sset C.calm gl mg gl2 mg2 ha (star_of hk)) fun σ H Q ⟨D, g, r, g', R, ev, k⟩ => ?_
  simp only [evE] at ev
  split at ev
  · rename_i x g1 e1
    obtain ⟨r', h2, h3⟩ := map_some ev
    cases h3
    unfold ssetD at h2
    split at h2
    · rename_i ds hx
      split at h2
      · rename_i ns hi
        split at h2
        · rename_i hl
          cases h2
          refine shared R e1 hx fun vx D1 H1 R1 A1 q1 => ?_
          cases q1 with
          | lst h4 al =>
            have := al.ints hi
            subst this
            exact ⟨_, ns, rfl, R1.sub.seqL h4, of_decide_eq_true hl, fun p0 np => finR R A1 R1 k (.lst np (.of_ints _))⟩
        · cases h2
      · cases h2
    · cases h2
  · cases ev
theorem DqAll.reverse {K : PySem.W.Frag} {H : Hp} : ∀ {vs : List V} {ds : List PyData}, DqAll K H vs ds → DqAll K H vs.reverse ds.reverse
  | _, _, .nil => .nil
  | _, _, .cons h t => by rw [List.reverse_cons, List.reverse_cons]; exact (DqAll.reverse t).append (.cons h .nil)
theorem e_rev {k : Nat} {p1 p2 p3 : Pos} (ha : PE X ea (tBo (mkP X.K f) cal a)) :
    PE X (.Subscript ea (.Slice none none (some (.UnaryOp .USub (.Constant (.int 1) k p1) p2)) p3) pos) (tE (mkP X.K f) cal (.rev a)) := by
  refine PE_imp (pe_revL ha) fun σ H Q ⟨D, g, r, g', R, ev, k⟩ => ?_
  simp only [evE] at ev
  split at ev
  · rename_i x g1 e1
    obtain ⟨r', h2, h3⟩ := map_some ev
    cases h3
    refine ⟨D, g, x, g', R, e1, fun vx D1 H1 R1 A1 rv => ?_⟩
    cases x with
    | box => cases h2
    | own ds =>
      cases h2
      obtain ⟨p, xs, rfl, o1, o2, o3⟩ := rv
      exact ⟨p, xs, rfl, .inl (.inl o1), fun l n => finR R A1 R1 k (.lst n o2.reverse)⟩
    | dat d =>
      have rv : Dq X.K D1 vx d := rv
      cases d <;> first | (cases h2; done) | skip
      cases h2
      cases rv with
      | lst h1 al => exact ⟨_, _, rfl, R1.sub.seqL h1, fun l n => finR R A1 R1 k (.lst n al.reverse)⟩
  · cases ev
theorem e_call {i : Nat} {x : Str} {ps : List Str} {es : List Expr} {p : Pos} (C : CxOk Γ X cal) (hf : Γ.fns[i]? = some (x, ps)) (hg : Γ.glob x = true) (hk : ckA Γ a es = true) (ha : PA X es (tA (mkP X.K f) cal a)) :
    PE X (.Call (.Name x p) es [] pos) (tE (mkP X.K f) cal (.call i a)) := by
  obtain ⟨fa, fd, k, m1, m2, m3, m4, m5, _⟩ := C.fns i x ps hf
  obtain ⟨gl, g2, _⟩ := gl_of C hg
  have red : ∀ (σ : L2.St) (H : Hp) (Q : VK), tE (mkP X.K f) cal (.call i a) σ H Q → tCall (spF cal X.K i) [] E0 (tA (mkP X.K f) cal a) σ H Q := fun σ H Q ⟨D, g, r, g', R, ev, k⟩ => by
    simp only [evE] at ev
    split at ev
    · rename_i rs g1 e1
      obtain ⟨rr, h2, h3⟩ := map_some ev
      cases h3
      obtain ⟨r2, b2⟩ := rr
      refine ⟨D, g, rs, g1, R, e1, fun xs D1 H1 R1 A1 q => ?_⟩
      show spF cal X.K i (xs ++ []) H1 Q E0
      rw [List.append_nil]
      have q' : ArgsOk ⟨X.K, f.B, H1, D1⟩ D1 xs rs := by
        have conv : ∀ {xs : List V} {rs : List RV}, ArgsOk (mkP X.K f) D1 xs rs → ArgsOk ⟨X.K, f.B, H1, D1⟩ D1 xs rs := fun h => by
          induction h with
          | nil => exact .nil
          | cons h t ih => exact .cons h ih
        exact conv q
      refine ⟨f.B, D1, rs, g1.bx, r2, b2, R1.sub, R1.box, q', h2, fun z D' H' ro => ?_⟩
      obtain ⟨R2, A2, rv⟩ := RetOk.go R1 ro
      exact k z D' H' R2 (A1.trans A2) (rv.back fun p n => A1.back R R1 n)
    · cases ev
  cases es with
  | nil =>
    refine PE_imp (pe_call0 m5 m4 gl m1 m2 m3 .nil pass0 g2) fun σ H Q q => ?_
    obtain ⟨D, g, r, g', R, ev, k⟩ := q
    have hn : a = .nil := by
      cases a <;> first | rfl | (simp [ckA] at hk)
    subst hn
    obtain ⟨D, g, rs, g1, R, e1, k⟩ := red σ H Q ⟨D, g, r, g', R, ev, k⟩
    cases e1
    exact k [] D H R Post.refl .nil
  | cons e es =>
    obtain ⟨b, r, rfl, k1, k2⟩ := ckA_cons hk
    exact PE_imp (pe_call m5 m4 gl m1 m2 m3 .nil pass0 ha g2 (star_of k1) (plain_of (es := es) k2 pos)) red
/-- f(a new list of three ints): the list is the callee's box -/
theorem e_callb {i : Nat} {x : Str} {ps : List Str} {p : Pos} (C : CxOk Γ X cal) (hf : Γ.fns[i]? = some (x, ps)) (hg : Γ.glob x = true) (hk : ckE Γ a ea = true) (ha : PE X ea (tE (mkP X.K f) cal a)) :
    PE X (.Call (.Name x p) [ea] [] pos) (tE (mkP X.K f) cal (.callb i a)) := by
  obtain ⟨fa, fd, k, m1, m2, m3, m4, m5, _⟩ := C.fns i x ps hf
  obtain ⟨gl, g2, _⟩ := gl_of C hg
  refine PE_imp (pe_call m5 m4 gl m1 m2 m3 .nil pass0 (pa_cons ha pa_nil (star_of hk)) g2 (star_of hk) rfl) fun σ H Q ⟨D, g, r, g', R, ev, k⟩ => ?_
  simp only [evE] at ev
  split at ev
  · rename_i bx by_ bz g9 e1
    obtain ⟨rr, h2, h3⟩ := map_some ev
    cases h3
    obtain ⟨r2, b2⟩ := rr
    refine ⟨D, g, _, g', R, e1, fun xv D1 H1 R1 A1 q => ?_⟩
    obtain ⟨pb, zs, rfl, o, fr, hn⟩ := q
    have hz : zs = [.int bx, .int by_, .int bz] := by
      have := o.all
      cases this with
      | cons a1 t =>
        cases t with
        | cons a2 t =>
          cases t with
          | cons a3 t =>
            cases t
            rw [int_of a1, int_of a2, int_of a3]
    subst hz
    show spF cal X.K i ([.ref pb] ++ []) H1 Q E0
    refine ⟨some pb, D1, [.box], some (bx, by_, bz), r2, b2, R1.sub, fun b hb => ?_, .cons ⟨pb, rfl, rfl⟩ .nil, h2, fun z D' H' ro => ?_⟩
    · cases hb; exact ⟨_, _, _, rfl, o.at_, o.no⟩
    · have keep : ∀ b o', H1 b = some o' → b ≠ pb → H' b = some o' := fun b o' h n => ro.keep b o' h fun e => n (Option.some.inj e).symm
      have hB : ∀ b, (mkP X.K f).B = some b → b ≠ pb := fun b h e => o.nb (by rw [← e]; exact h)
      have R2 : Rel (mkP X.K f) D' g' σ H' := by
        refine ⟨ro.sub, fun b o' h1 h2 => keep b o' (R1.old b o' h1 h2) (ne_of_none h1 o.new), fun b o' h1 h2 => ?_, R1.len, fun j sl hj => ?_, R1.dis, fun b hb => ?_⟩
        · by_cases e : (mkP X.K f).B = some b
          · obtain ⟨_, _, _, _, q2, q3⟩ := R1.box b e
            exact ro.fresh b _ q2 q3
          · exact ro.fresh b o' (R1.old b o' h1 e) (R1.new b o' h1 h2)
        · have q := R1.slot j sl hj
          cases sl with
          | none => trivial
          | some rv =>
            cases rv with
            | dat d => obtain ⟨v, q1, q2⟩ := q; exact ⟨v, q1, q2.mono ro.mono⟩
            | box => exact q
            | own ds =>
              obtain ⟨p', xs', q1, o'⟩ := q
              have : p' ≠ pb := fun z => fr j ds hj (z ▸ q1)
              exact ⟨p', xs', q1, o'.mono ro.mono (keep _ _ o'.at_ this) (ro.fresh _ _ o'.at_ o'.no)⟩
        · obtain ⟨x, y, z, q1, q2, q3⟩ := R1.box b hb
          exact ⟨x, y, z, q1, keep b _ q2 (hB b hb), ro.fresh b _ q2 q3⟩
      have A2 : Post (mkP X.K f) D g σ H D' g' H' := by
        refine ⟨A1.mono.trans ro.mono, fun b o' h n => keep b o' (A1.keep b o' h n) (ne_of_none h hn), fun b o' h1 h2 h3 h4 => ?_, A1.owns⟩
        exact ro.fresh b o' (A1.keep b o' h1 h2) (A1.fresh b o' h1 h2 h3 h4)
      refine k z D' H' R2 A2 ?_
      have v := ro.val
      cases r2 with
      | dat d => exact v
      | box => exact v.elim
      | own ds =>
        obtain ⟨p2, xs2, e2, w1, w2, w3, w4, w5⟩ := v
        exact ⟨p2, xs2, e2, ⟨w1, w2, w3, R1.no0 w4, fun z => by
          obtain ⟨_, _, _, _, q2, _⟩ := R1.box p2 z
          rw [w4] at q2; cases q2⟩, R1.free w4, A1.back R R1 w4⟩
  · cases ev
end
end PX
set_option Elab.async false
set_option autoImplicit false
set_option maxRecDepth 100000
set_option maxHeartbeats 4100000
/-! PXLR: list(range(a, b)) with bounds of any size. -/
namespace PX
open PySem.Spec L2 PyProof.Rows PySem
section
variable {prog : Program} {w : World} {A : Around} {E : Value → Shared → Prop} {s : Shared}
abbrev lrO (a n c : Int) : Obj := { cls := .type "longrange_iterator", data := .fields #[rawInt a, rawInt n, rawInt c] }
theorem lr_ext {Rq : Result → Shared → Prop} {rr : Addr} {a b c : Int} {t1 t2 t3 : Tok} {m : Nat} (nh : A.handled = none) (is : IsRange s.heap rr a b c t1 t2 t3) (big : Builtin.Range.small a b c = false)
    (sz : Builtin.Range.rangeSize a b c = m) (ml : m ≤ 2 ^ 24) (D : Addr) (out : Value) (c0 : Nat) (hD : s.heap.get? D = some { cls := .type "list", data := .seq #[] c0 })
    (fin : ∀ hp tk xs cc, (∀ x o, x ≠ D → s.heap.get? x = some o → hp.get? x = some o) → hp.get? D = some { cls := .type "list", dict := none, data := .seq xs cc, slots := #[] } →
      ItemsOf (fun i v => ∃ t, v = .int (a + i * c) t) xs m → Rq (.ok (.ret out)) { s with heap := hp, toks := tk }) :
    wpAny (model prog w) A.in1 (Builtin.List.listExtendWith (.ref D) (.ref rr) out)
      (fun f s2 => match f with | .done y => Rq (.ok y) s2 | .again cd => cd.quiet = true ∧ codeAny (model prog w) A cd Rq s2) (fun e s2 => Rq (.error e) s2) s := by
  have ne : D ≠ rr := fun q => by rw [q, is] at hD; simp at hD
  have neI : D ≠ s.heap.objs.size := Nat.ne_of_lt (Heap.lt_size hD)
  have nf : D ∉ [s.heap.objs.size] := fun q => neI (List.mem_singleton.mp q)
  have wk := (Walks.longrange (prog := prog) (w := w) (A := A.in1) nh s.heap.objs.size a c m).toS
  have go : ∀ (hp : Heap) (c1 tk : Nat), IsLongIter hp s.heap.objs.size (a + ((0 : Nat) : Int) * c) ((m : Int) - ((0 : Nat) : Int)) c → (∀ x o, x ≠ D → s.heap.get? x = some o → hp.get? x = some o) →
      hp.get? D = some { cls := .type "list", data := .seq #[] c1 } → codeAny (model prog w) A (.builtin "list.extend.loop" ⟨[.ref D, .ref s.heap.objs.size, out], []⟩) Rq { s with heap := hp, toks := tk } := fun hp c1 tk it kp hD1 => by
    refine codeAny_extend_loopS wk (by rw [sizeLine_eq]; omega) D nf out m 0 _ #[] c1 rfl (Nat.zero_le _) it hD1 (ItemsOf.nil _) fun s2 xs cc mv hD2 al => ?_
    rw [Moved.eq_with mv]
    refine fin s2.heap s2.toks xs cc (fun x o hx e => mv.heap x o (fun q => ?_) (kp x o hx e)) hD2 al
    rcases List.mem_cons.mp q with q | q
    · exact hx q
    · rw [List.mem_singleton.mp q] at e
      exact Nat.lt_irrefl _ (Heap.lt_size e)
  have n1 : Builtin.List.listSameRef (.ref D) (.ref rr) = false := by simp [Builtin.List.listSameRef, ne]
  unfold Builtin.List.listExtendWith
  refine wpAny_bind (wpAny_typeOf (T := "range") ⟨_, is, rfl⟩ ?_)
  simp only [n1, show (Value.type "range" == Value.type "list") = false by decide, show (Value.type "range" == Value.type "tuple") = false by decide, Bool.or_false, Bool.false_eq_true, if_false]
  refine wpAny_bind (wpAny_pyIter_longrange is big ?_)
  refine wpAny_bind (wpAny_holding (wpAny_hint_range (n := m) (Heap.get?_push_of_some _ is) sz ml ?_))
  have it1 : IsLongIter (s.heap.push (lrO a (Builtin.Range.rangeSize a b c) c)) s.heap.objs.size (a + ((0 : Nat) : Int) * c) ((m : Int) - ((0 : Nat) : Int)) c := by
    show IsLongIter _ _ _ _ _; rw [sz]; simpa using Heap.get?_push_size _ rfl
  have hD1 := Heap.get?_push_of_some (lrO a (Builtin.Range.rangeSize a b c) c) hD
  refine wpAny_ite_split (fun _ => ?_) (fun _ => wpAny_pure ⟨plainId_quiet F.plain_extend_loop _, go _ c0 _ it1 (fun x o _ e => Heap.get?_push_of_some _ e) hD1⟩)
  refine wpAny_bind (wpAny_rule (wpAny_bind ?_))
  show wpAny _ _ (updateSeq D (·.push .none) >>= fun _ => updateSeq D (·.pop)) _ _ _
  refine wpAny_bind (wpAny_updateSeq hD1 rfl ?_)
  have hD2 := Heap.get?_update_self (Obj.mapSeq (·.push Value.none)) hD1 rfl
  refine wpAny_updateSeq (hz := by seq_fits) hD2 rfl (wpAny_pure ⟨plainId_quiet F.plain_extend_loop _, go _ _ _ ?_ (fun x o hx e => ?_) (Heap.get?_update_self (Obj.mapSeq (·.pop)) hD2 rfl)⟩)
  · exact (Heap.get?_update_other _ _ neI).trans ((Heap.get?_update_other _ _ neI).trans it1)
  · exact (Heap.get?_update_other _ _ (Ne.symm hx)).trans ((Heap.get?_update_other _ _ (Ne.symm hx)).trans (Heap.get?_push_of_some _ e))
theorem lr_call {Q : Value → Shared → Prop} {rr : Addr} {a b c : Int} {t1 t2 t3 : Tok} {m : Nat} (nh : A.handled = none) (is : IsRange s.heap rr a b c t1 t2 t3) (big : Builtin.Range.small a b c = false)
    (sz : Builtin.Range.rangeSize a b c = m) (ml : m ≤ 2 ^ 24)
    (fin : ∀ hp tk xs cc, (∀ x o, s.heap.get? x = some o → hp.get? x = some o) → hp.get? s.heap.objs.size = some { cls := .type "list", dict := none, data := .seq xs cc, slots := #[] } →
      ItemsOf (fun i v => ∃ t, v = .int (a + i * c) t) xs m → Q (.ref s.heap.objs.size) { s with heap := hp, toks := tk }) : wpAny (model prog w) A (call (.type "list") [.ref rr]) Q E s := by
  refine callType_codes (Q₁ := fun o s2 => o = .ref s.heap.objs.size ∧ s2 = { s with heap := s.heap.push { cls := .type "list", data := .seq #[] } }) F.called_list (F.typeCall_list_1 _) F.entry_list_init (code_list_new _ ⟨rfl, rfl⟩) fun o s2 q => ?_
  obtain ⟨rfl, rfl⟩ := q
  have hD : (s.heap.push { cls := .type "list", data := .seq #[] }).get? s.heap.objs.size = some { cls := .type "list", data := .seq #[] } := Heap.get?_push_size _ rfl
  have is1 := Heap.get?_push_of_some { cls := .type "list", data := .seq #[] } is
  have ne : s.heap.objs.size ≠ rr := fun q => by
    have l := Heap.lt_size is
    rw [← q] at l
    exact Nat.lt_irrefl _ l
  refine ⟨⟨_, hD, rfl⟩, F.args_list_init_2 _ _, ?_⟩
  show wpAny _ _ (do let old ← Builtin.List.listItems (.ref s.heap.objs.size); Builtin.List.listUpdate (.ref s.heap.objs.size) (fun _ => #[]); letGo old.toList.reverse; Builtin.List.listExtendWith (.ref s.heap.objs.size) (.ref rr) .none) _ _ _
  refine wpAny_bind ?_
  unfold Builtin.List.listItems
  refine wpAny_bind (wpAny_seqItems hD rfl (wpAny_pure ?_))
  refine wpAny_bind (m := Builtin.List.listUpdate _ _) (wpAny_updateSeq hD rfl ?_)
  have hD2 := Heap.get?_update_self (Obj.mapSeq (fun _ => (#[] : Array Value))) hD rfl
  have oth : ∀ x o, x ≠ s.heap.objs.size → (s.heap.push { cls := .type "list", data := .seq #[] }).get? x = some o → ((s.heap.push { cls := .type "list", data := .seq #[] }).update s.heap.objs.size (Obj.mapSeq (fun _ => (#[] : Array Value)))).get? x = some o :=
    fun x o hx e => (Heap.get?_update_other _ _ (Ne.symm hx)).trans e
  refine wpAny_bind (wpAny_letGo ?_)
  refine lr_ext (A := A.in1) nh (oth rr _ (Ne.symm ne) is1) big sz ml _ .none _ hD2 fun hp tk xs cc kp hD3 al => ?_
  exact ⟨rfl, fin hp tk xs cc (fun x o e => kp x o (Nat.ne_of_lt (Heap.lt_size e)) (oth x o (Nat.ne_of_lt (Heap.lt_size e)) (Heap.get?_push_of_some _ e))) hD3 al⟩
end
section
variable {X : Cx} {e : Expr} {te : L2.St → Hp → (Int → Int → Hp → Prop) → Prop}
def tLstRgW (te : L2.St → Hp → (Int → Int → Hp → Prop) → Prop) : TE := fun σ H Q => te σ H fun a b H1 => (b - a).toNat ≤ 2 ^ 24 ∧ ∀ q, H1 q = none → Q (.ref q) (upd H1 q (.lst (rgV a b)))
theorem pe_lstRgW {p pos : Pos} (cm : X.calm = true) (gl : Gl X "list") (mg : X.mg "list" = none) (pr : PRg X e te) (na : starEach [e] X.env = (false, eval e X.env) :: starEach [] X.env := by rfl) : PE X (.Call (.Name "list" p) [e] [] pos) (tLstRgW te) := by
  refine ⟨fun pins s σ H Q I h => ?_⟩
  refine Call_ (ld_blt I gl mg boot_list (PyProof.Rows.callWith_type1 (args_cons (thn (pr pins s σ H _ I h) fun x s1 ⟨r, a, b, t, u, v, H1, ex, is, I1, ok, q⟩ => args_nil ?_) na) na))
  subst ex
  have done : ∀ (hp : Heap) (tk : Nat) (xs : Array Value) (cc : Nat), (∀ x o, s1.heap.get? x = some o → hp.get? x = some o) → hp.get? s1.heap.objs.size = some { cls := .type "list", dict := none, data := .seq xs cc, slots := #[] } →
      ItemsOf (fun i v => ∃ t, v = .int (a + i * 1) t) xs (b - a).toNat → ∃ x H', Inv X pins σ H' { s1 with heap := hp, toks := tk } ∧ RelV x (.ref s1.heap.objs.size) ∧ Q x H' := fun hp tk xs cc kp lay al =>
    ⟨.ref s1.heap.objs.size, upd H1 s1.heap.objs.size (.lst (rgV a b)), I1.laid kp (Nat.le_refl _) (show ObjOk X.prog X.w _ _ _ (.lst (rgV a b)) from ⟨by rw [rgV_length, sizeLine_eq]; omega, xs.toList, cc, vals_rg al, by rw [Array.toArray_toList]; exact lay⟩), rfl, q _ (I1.hok.fresh (Nat.le_refl _))⟩
  cases big : Builtin.Range.small a b 1 with
  | true => exact call_list_range (n := (b - a).toNat) (I1.ok.hd cm) is big (rangeSize_nat a b) ok fun hp tk xs cc kp lay al => done hp tk xs cc kp lay al
  | false => exact lr_call (m := (b - a).toNat) (I1.ok.hd cm) is big (rangeSize_nat a b) ok fun hp tk xs cc kp lay al => done hp tk xs cc kp lay al
end
end PX
set_option Elab.async false
set_option autoImplicit false
set_option maxRecDepth 100000
set_option maxHeartbeats 4100000
/-! PXZ: zip over two sequences of any kind (list, tuple). -/
namespace PX
open PySem.Spec L2 PyProof.Rows PySem

/-- t: a tuple -/
def SqB (K : PySem.W.Frag) (t : Bool) (H : Hp) (a : Addr) (xs : List V) : Prop := match t with
  | true => SqT K H a xs
  | false => SqL K H a xs
def ItB (t : Bool) (h : Heap) (i a : Addr) (k : Nat) : Prop := match t with
  | true => h.IsTupleIter i a k
  | false => h.IsListIter i a k
def HasB (t : Bool) (h : Heap) (a : Addr) (its : Array Value) : Prop := match t with
  | true => h.IsTuple a its
  | false => h.IsList a its
theorem ItB.ex {t : Bool} {h : Heap} {i a : Addr} {k : Nat} (x : ItB t h i a k) : ∃ o, h.get? i = some o ∧ ∃ u, o.data = .fields u := by
  cases t
  · obtain ⟨o, e, _, d⟩ := x; exact ⟨o, e, _, d⟩
  · obtain ⟨o, e, _, d⟩ := x; exact ⟨o, e, _, d⟩
theorem ItB.at {t : Bool} {h h' : Heap} {i a : Addr} {k : Nat} (x : ItB t h i a k) (f : ∀ o, h.get? i = some o → h'.get? i = some o) : ItB t h' i a k := by
  cases t
  · exact Heap.IsListIter.at x f
  · exact Heap.IsTupleIter.at x f
theorem drawsB {prog : Program} {w : World} {A : Around} (t : Bool) (hh : A.handled = none) (it l : Addr) (hne : l ≠ it) (items : Array Value) :
    Draws prog w A it [it, l] items.size (fun i v => items[i]? = some v) (fun i h => ItB t h it l i ∧ HasB t h l items) := by
  cases t
  · exact Draws.list hh it l hne items
  · exact Draws.tuple hh it l hne items
def objB (t : Bool) (l : Addr) : Obj := match t with
  | true => { cls := .type "tuple_iterator", data := .fields #[.ref l, .int 0 0] }
  | false => { cls := .type "list_iterator", data := .fields #[.ref l, .int 0 0] }
theorem beginsB (t : Bool) (l : Addr) (items : Array Value) : Begins (.ref l) (objB t l) fun h => HasB t h l items := by
  cases t
  · exact begins_list l items
  · exact begins_tuple l items
theorem itB_of {t : Bool} {h : Heap} {i l : Addr} (e : h.get? i = some (objB t l)) : ItB t h i l 0 := by
  cases t
  · exact ⟨_, e, rfl, rfl⟩
  · exact ⟨_, e, rfl, rfl⟩
section
variable {X : Cx} {pins : List (Addr × Obj)} {σ : L2.St} {H : Hp} {s : Shared} {a : Addr} {xs ys : List V} {t : Bool}
theorem seqB (I : Inv X pins σ H s) (h : SqB X.K t H a xs) : ∃ its : List Value, Vals xs its ∧ HasB t s.heap a its.toArray ∧ a < s.heap.objs.size := by
  cases t
  · obtain ⟨its, r, p, _⟩ := I.list h
    exact ⟨its, r, p.isList, p.lt⟩
  · obtain ⟨its, r, p, _⟩ := I.tuple h
    have q := p
    obtain ⟨o, e, _⟩ := q
    exact ⟨its, r, p, Heap.lt_size e⟩
theorem seqB_inj (I : Inv X pins σ H s) (h : SqB X.K t H a xs) (h' : SqB X.K t H a ys) : xs = ys := by
  cases t
  · exact I.list_inj h h'
  · exact I.tuple_inj h h'
end
def ItzB (K : PySem.W.Frag) (t u : Bool) (a b : Addr) : It :=
  ⟨fun i H => ∃ (xs ys : List V) (x y : V), SqB K t H a xs ∧ SqB K u H b ys ∧ xs[i]? = some x ∧ ys[i]? = some y,
    fun i H v H' => ∃ T x y, v = .ref T ∧ H T = none ∧ H' = upd H T (.tup [x, y]) ∧ (∀ xs, SqB K t H a xs → xs[i]? = some x) ∧ ∀ ys, SqB K u H b ys → ys[i]? = some y,
    fun i H => ∃ xs ys : List V, SqB K t H a xs ∧ SqB K u H b ys ∧ i = min xs.length ys.length⟩
structure Apart2 (z TI TO i1 i2 a b : Addr) : Prop where
  sep : ZipSep2 z TI TO i1 i2 [i1, a] [i2, b]
  ai : a ≠ i1
  bi : b ≠ i2
theorem apart2 (n a b : Nat) (ha : a < n) (hb : b < n) : Apart2 (n + 4) (n + 2) (n + 3) n (n + 1) a b := by
  refine ⟨⟨?_, ?_, ?_, ?_, ?_, ?_, ?_, ?_, ?_, ?_, ?_, ?_, ?_⟩, ?_, ?_⟩ <;>
    first
      | (exact fun e => by have e : _ = _ := e; omega)
      | simp
      | skip
  all_goals (first | done | exact Nat.ne_of_gt (show _ < _ by omega) | exact Nat.ne_of_lt (show _ < _ by omega))
theorem five {p : Addr → Prop} {z TI TO i1 i2 : Addr} (a : p z) (b : p TI) (c : p TO) (d : p i1) (e : p i2) : ∀ x ∈ [z, TI, TO, i1, i2], p x := fun x hx => by
  simp only [List.mem_cons, List.not_mem_nil, or_false] at hx
  rcases hx with rfl | rfl | rfl | rfl | rfl <;> assumption
/-- the zip's own cells between two turns -/
structure Cells (t u : Bool) (a b z TI TO i1 i2 : Addr) (k : Nat) (h : Heap) : Prop where
  zp : IsZip h z TI TO .none
  its : IsPair h TI (.ref i1) (.ref i2)
  tup : ∃ x y, IsPair h TO x y
  i1 : ItB t h i1 a k
  i2 : ItB u h i2 b k
section
variable {t u : Bool} {a b z TI TO i1 i2 : Addr} {k : Nat} {h h' : Heap}
theorem Cells.all (c : Cells t u a b z TI TO i1 i2 k h) : ∀ x ∈ [z, TI, TO, i1, i2], ∃ o, h.get? x = some o ∧ ∀ v, o.data ≠ .cell v := by
  obtain ⟨_, _, qTO⟩ := c.tup
  obtain ⟨_, g1, _, d1⟩ := c.i1.ex
  obtain ⟨_, g2, _, d2⟩ := c.i2.ex
  exact five ⟨_, c.zp, nofun⟩ ⟨_, c.its, nofun⟩ ⟨_, qTO, nofun⟩ ⟨_, g1, fun v e => by rw [d1] at e; cases e⟩ ⟨_, g2, fun v e => by rw [d2] at e; cases e⟩
theorem Cells.old (c : Cells t u a b z TI TO i1 i2 k h) : ∀ x ∈ [z, TI, TO, i1, i2], x < h.objs.size := fun x hx => by
  obtain ⟨_, e, _⟩ := c.all x hx
  exact Heap.lt_size e
theorem Cells.keep (c : Cells t u a b z TI TO i1 i2 k h) (f : ∀ x ∈ [z, TI, TO, i1, i2], ∀ o, h.get? x = some o → h'.get? x = some o) : Cells t u a b z TI TO i1 i2 k h' := by
  obtain ⟨x, y, qTO⟩ := c.tup
  have f2 : ∀ x, x = z ∨ x = TI ∨ x = TO ∨ x = i1 ∨ x = i2 → ∀ o, h.get? x = some o → h'.get? x = some o := fun x hx => f x (by simpa using hx)
  exact ⟨f2 z (.inl rfl) _ c.zp, f2 TI (.inr (.inl rfl)) _ c.its, ⟨x, y, f2 TO (.inr (.inr (.inl rfl))) _ qTO⟩, c.i1.at (f2 i1 (.inr (.inr (.inr (.inl rfl))))), c.i2.at (f2 i2 (.inr (.inr (.inr (.inr rfl)))))⟩
end
/-- what stays outside of the four cells that a turn writes -/
theorem stays {z TI TO i1 i2 : Addr} {h h' : Heap} (f : ∀ c o, c ≠ z → c ≠ TO → c ≠ i1 → c ≠ i2 → h.get? c = some o → h'.get? c = some o) {c : Addr} {o : Obj} (n : c ∉ [z, TI, TO, i1, i2]) (e : h.get? c = some o) : h'.get? c = some o := by
  simp only [List.mem_cons, List.not_mem_nil, or_false, not_or] at n
  exact f c o n.1 n.2.2.1 n.2.2.2.1 n.2.2.2.2 e
theorem turn_zipB {P : Program} {w : World} {K : PySem.W.Frag} {elts : List Expr} {kk : Nat} {tpos : Pos} {t u : Bool} {a b z TI TO i1 i2 : Addr} (D : Apart2 z TI TO i1 i2 a b) :
    Turn P w K (.Tuple elts kk tpos) (ItzB K t u a b) [z, TI, TO, i1, i2] z (Cells t u a b z TI TO i1 i2) where
  mem := List.mem_cons_self
  obj := fun _ _ c => c.all
  keep := fun _ _ _ c f => c.keep f
  self := fun _ _ _ _ _ c q => wpAny_pyIter_zip c.zp q
  item := fun X hP hw hK hc k pins s σ H E I hf c ⟨xs, ys, x, y, sx, sy, gx, gy⟩ => by
    subst hP hw hK
    obtain ⟨us, ru, pu, _⟩ := seqB I sx
    obtain ⟨vs, rv, pv, _⟩ := seqB I sy
    obtain ⟨p, ep, rp⟩ := ru.get gx
    obtain ⟨q, eq, rq⟩ := rv.get gy
    obtain ⟨_, _, qTO⟩ := c.tup
    have oldz := c.old z List.mem_cons_self
    have hd : X.A.in1.handled = none := I.ok.hd hc
    have k1 : k < us.toArray.size := by simpa using (List.getElem?_eq_some_iff.mp ep).1
    have k2 : k < vs.toArray.size := by simpa using (List.getElem?_eq_some_iff.mp eq).1
    refine wpAny_pyNext_zipD2_item D.sep (drawsB t hd i1 a D.ai us.toArray) (drawsB u hd i2 b D.bi vs.toArray) c.zp c.its qTO ⟨c.i1, pu⟩ ⟨c.i2, pv⟩ k1 k2 fun p' q' h1 tk ep' eq' z1 TO1 st1 st2 T1 _ same => ?_
    have pp : p' = p := Option.some.inj ((show us.toArray[k]? = some p' from ep').symm.trans (by rw [List.getElem?_toArray]; exact ep))
    have qq : q' = q := Option.some.inj ((show vs.toArray[k]? = some q' from eq').symm.trans (by rw [List.getElem?_toArray]; exact eq))
    subst pp qq
    refine ⟨_, rfl, wpAny_letOwnedTupleGo_zip (s := { s with heap := h1, toks := tk }) z1 fun h2 z2 only => ?_⟩
    have back : ∀ x, x ≠ z → h2.get? x = h1.get? x := only.2
    have n1 : i1 ≠ z := fun e => D.sep.zf1 (e ▸ D.sep.mem1)
    have n2 : i2 ≠ z := fun e => D.sep.zf2 (e ▸ D.sep.mem2)
    have T2 := (back _ (Nat.ne_of_gt oldz)).trans T1
    have made : ObjOk X.prog X.w (upd H s.heap.objs.size (.tup [x, y])) h2 s.heap.objs.size (.tup [x, y]) := ⟨(by decide : 2 ≤ sizeLine), [p', q'], .cons rp (.cons rq .nil), ⟨_, T2, rfl, _, rfl⟩⟩
    have J := I.turnedNew (t' := tk) (h' := h2) (ch := [z, TI, TO, i1, i2]) (fun x o nx e => (back x fun e => nx (e ▸ List.mem_cons_self)).trans (stays same nx e)) hf (Nat.le_refl _) made
    refine ⟨.ref s.heap.objs.size, _, J, rfl, ⟨_, x, y, rfl, I.hok.fresh (Nat.le_refl _), rfl, fun zs hz => (seqB_inj I hz sx) ▸ gx, fun zs hz => (seqB_inj I hz sy) ▸ gy⟩, ⟨z2, ?_, ⟨p', q', (back _ D.sep.TOz).trans TO1⟩, st1.1.at fun o e => (back _ n1).trans e, st2.1.at fun o e => (back _ n2).trans e⟩, fun x hx => ?_⟩
    · exact (back _ D.sep.TIz).trans (same _ _ D.sep.TIz D.sep.TITO D.sep.TIi1 D.sep.TIi2 c.its)
    · exact (upd_ne (Nat.ne_of_lt (c.old x hx))).trans (hf x hx).1
  done := fun X hP hw hK hc k pins s σ H E I hf c ⟨xs, ys, sx, sy, e⟩ => by
    subst hP hw hK
    obtain ⟨us, ru, pu, _⟩ := seqB I sx
    obtain ⟨vs, rv, pv, _⟩ := seqB I sy
    obtain ⟨_, _, qTO⟩ := c.tup
    have lu : us.toArray.size = xs.length := by rw [ru.length, List.size_toArray]
    have lv : vs.toArray.size = ys.length := by rw [rv.length, List.size_toArray]
    have hd : X.A.in1.handled = none := I.ok.hd hc
    exact wpAny_pyNext_zipD2_end D.sep (drawsB t hd i1 a D.ai us.toArray) (drawsB u hd i2 b D.bi vs.toArray) c.zp c.its qTO ⟨c.i1, pu⟩ ⟨c.i2, pv⟩ (by omega) (by omega) (by omega)
      fun h1 tk same => ⟨rfl, I.turnedL (t' := tk) (ch := [z, TI, TO, i1, i2]) (fun x o nx e => stays same nx e) hf⟩

def iZipB (K : PySem.W.Frag) (ta : TA) : TI := fun σ H R => ta σ H fun vs H1 => ∃ t u a b xs ys, vs = [.ref a, .ref b] ∧ SqB K t H1 a xs ∧ SqB K u H1 b ys ∧ R (ItzB K t u a b) H1
theorem pi_zipB {X : Cx} {e e2 : Expr} {ta : TA} {p pos tpos : Pos} {elts : List Expr} {kk : Nat} (hg : Gl X "zip") (hm : X.mg "zip" = none) (ha : PA X [e, e2] ta)
    (st : starEach [e, e2] X.env = (false, eval e X.env) :: starEach [e2] X.env) (pl : (backTo pos (starEach [e2] X.env)).any (·.1) = false) :
    PI X (.Tuple elts kk tpos) (.Call (.Name "zip" p) [e, e2] [] pos) (iZipB X.K ta) := ⟨fun pins s σ H R I hz => by
  refine Call_ (ld_blt I hg hm boot_zip (callWith_type1 (thn (ha.run pos pins s σ H _ I hz) fun us s1 ⟨vs, H1, J, rel, t, u, a, b, xs, ys, ex, sx, sy, q⟩ => ?_) st pl))
  subst ex
  obtain ⟨u1, u2, rfl, r1, r2⟩ := Vals.two rel
  cases r1
  cases r2
  obtain ⟨its, _, hx, la⟩ := seqB J sx
  obtain ⟨its2, _, hy, lb⟩ := seqB J sy
  refine zip_begins2 (beginsB t a its.toArray) (beginsB u b its2.toArray) hx hy fun h2 c1 c2 c3 c4 c5 _ same => wpAny_pyIter_zip c1 ?_
  have young : ∀ c, s1.heap.objs.size ≤ c → FpOk X pins H1 c := fun c le => J.fpOk le (J.hok.fresh le)
  exact ⟨_, [s1.heap.objs.size + 4, s1.heap.objs.size + 2, s1.heap.objs.size + 3, s1.heap.objs.size, s1.heap.objs.size + 1], _, _, H1, rfl, J.kept (t' := s1.toks) same, turn_zipB (apart2 s1.heap.objs.size a b la lb), ⟨c1, c2, ⟨_, _, c3⟩, itB_of c4, itB_of c5⟩,
    five (young _ (Nat.le_add_right _ 4)) (young _ (Nat.le_add_right _ 2)) (young _ (Nat.le_add_right _ 3)) (young _ (Nat.le_refl _)) (young _ (Nat.le_add_right _ 1)), q⟩⟩
end PX
set_option Elab.async false
set_option autoImplicit false
set_option maxRecDepth 100000
set_option maxHeartbeats 4100000
/-! PXG: targets, walks, isinstance, calls with keywords. -/
namespace PX
open PySem.Spec L2 PyProof.Rows PySem
section
variable {Γ : Ck} {X : Cx} {cal : Cal} {f : Fx} {a b c : E} {ea eb ec : Expr} {pos : Pos}

/-! ### targets -/
def gNames : List Nat → TGs
  | [] => gNil
  | i :: is => gCons (gName i) (gNames is)
/-- a tuple or a list, unpacked -/
def gSeq (K : PySem.W.Frag) (n : Nat) (t : TGs) : TG := fun v σ H Q => ∃ a xs, v = .ref a ∧ (SqT K H a xs ∨ SqL K H a xs) ∧ xs.length = n ∧ t xs σ H Q
theorem pg_seq {X : Cx} {es : List Expr} {k n : Nat} {t : TGs} {pos : Pos} (hc : X.calm = true) (h : PGs X es t) (hn : (assignEach es X.env).length = n) (hst : (assignEach es X.env).findIdx? (·.1) = none) : PG X (.Tuple es k pos) (gSeq X.K n t) := by
  refine ⟨fun pins s σ H v u Q I r ⟨a, xs, e1, hq, hl, hw⟩ => ?_⟩
  rcases hq with hq | hq
  · exact (pg_tup (X := X) (k := k) (pos := pos) hc h hn hst).run pins s σ H v u Q I r ⟨a, xs, e1, hq, hl, hw⟩
  · exact (pg_unl (X := X) (k := k) (pos := pos) hc h hn hst).run pins s σ H v u Q I r ⟨a, xs, e1, hq, hl, hw⟩
def gItem (K : PySem.W.Frag) : Nat ⊕ List Nat → TG
  | .inl i => gName i
  | .inr is => gSeq K is.length (gNames is)
def gItems (K : PySem.W.Frag) : List (Nat ⊕ List Nat) → TGs
  | [] => gNil
  | t :: ts => gCons (gItem K t) (gItems K ts)
def gT (K : PySem.W.Frag) : Tg → TG
  | .nm i => gName i
  | .tp is => gSeq K is.length (gNames is)
  | .tq ts => gSeq K ts.length (gItems K ts)
theorem g_name {i : Nat} {x : Str} (C : CxOk Γ X cal) (h1 : Γ.N[i]? = some x) (h2 : (match Γ.wsc.names.lookup x with | some .local | some .cell => true | _ => false) = true) : PG X (.Name x pos) (gName i) := by
  obtain ⟨t1, t2⟩ := C.tgs x
  have hi : X.N[i]? = some x := by rw [C.N]; exact h1
  split at h2
  · rename_i e
    exact pg_name C.nd hi (.inl (t1 e)) (.inr (t1 e))
  · rename_i e
    exact pg_name C.nd hi (.inr (t2 e).1) (.inl (t2 e).2)
  · cases h2
theorem g_names (C : CxOk Γ X cal) : ∀ {is : List Nat} {es : List Expr}, ckTgs Γ is es = true → PGs X es (gNames is) ∧ (assignEach es X.env).length = is.length ∧ (assignEach es X.env).findIdx? (·.1) = none
  | [], [], _ => ⟨pgs_nil, rfl, rfl⟩
  | [], _ :: _, h => by simp [ckTgs] at h
  | i :: is, [], h => by simp [ckTgs] at h
  | i :: is, e :: es, h => by
    cases e with
    | Name x pos =>
      simp only [ckTgs, Bool.and_eq_true, decide_eq_true_eq] at h
      obtain ⟨p1, p2, p3⟩ := g_names C h.2
      refine ⟨pgs_cons (g_name C h.1.1 h.1.2) p1 rfl, ?_, ?_⟩
      · show (assignEach es X.env).length + 1 = _
        rw [p2]; rfl
      · show List.findIdx? _ ((false, assign (.Name x pos) X.env) :: assignEach es X.env) = none
        rw [List.findIdx?_cons]
        simp only [Bool.false_eq_true, if_false]
        rw [p3]; rfl
    | _ => simp [ckTgs] at h
theorem g_items (C : CxOk Γ X cal) : ∀ {ts : List (Nat ⊕ List Nat)} {es : List Expr}, ckTq Γ ts es = true → PGs X es (gItems X.K ts) ∧ (assignEach es X.env).length = ts.length ∧ (assignEach es X.env).findIdx? (·.1) = none
  | [], [], _ => ⟨pgs_nil, rfl, rfl⟩
  | [], _ :: _, h => by simp [ckTq] at h
  | t :: ts, [], h => by cases t <;> simp [ckTq] at h
  | .inl i :: ts, e :: es, h => by
    cases e with
    | Name x pos =>
      simp only [ckTq, Bool.and_eq_true, decide_eq_true_eq] at h
      obtain ⟨p1, p2, p3⟩ := g_items C h.2
      refine ⟨pgs_cons (g_name C h.1.1 h.1.2) p1 rfl, ?_, ?_⟩
      · show (assignEach es X.env).length + 1 = _
        rw [p2]; rfl
      · show List.findIdx? _ ((false, assign (.Name x pos) X.env) :: assignEach es X.env) = none
        rw [List.findIdx?_cons]
        simp only [Bool.false_eq_true, if_false]
        rw [p3]; rfl
    | _ => simp [ckTq] at h
  | .inr is :: ts, e :: es, h => by
    cases e with
    | Tuple fs kk pos =>
      simp only [ckTq, Bool.and_eq_true] at h
      obtain ⟨p1, p2, p3⟩ := g_items C h.2
      obtain ⟨q1, q2, q3⟩ := g_names C h.1.1
      refine ⟨pgs_cons (pg_seq C.calm q1 q2 q3) p1 rfl, ?_, ?_⟩
      · show (assignEach es X.env).length + 1 = _
        rw [p2]; rfl
      · show List.findIdx? _ ((false, assign (.Tuple fs kk pos) X.env) :: assignEach es X.env) = none
        rw [List.findIdx?_cons]
        simp only [Bool.false_eq_true, if_false]
        rw [p3]; rfl
    | _ => simp [ckTq] at h
theorem g_tg {tg : Tg} (C : CxOk Γ X cal) (h : ckTg Γ tg ea = true) : PG X ea (gT X.K tg) := by
  cases tg with
  | nm i =>
    cases ea with
    | Name x pos =>
      simp only [ckTg, ckTgs, Bool.and_eq_true, decide_eq_true_eq] at h
      exact g_name C h.1.1 h.1.2
    | _ => simp [ckTg] at h
  | tp is =>
    cases ea with
    | Tuple es k pos =>
      simp only [ckTg, Bool.and_eq_true] at h
      obtain ⟨p1, p2, p3⟩ := g_names C h.1
      exact pg_seq C.calm p1 p2 p3
    | _ => simp [ckTg] at h
  | tq ts =>
    cases ea with
    | Tuple es k pos =>
      simp only [ckTg, Bool.and_eq_true] at h
      obtain ⟨p1, p2, p3⟩ := g_items C h.1
      exact pg_seq C.calm p1 p2 p3
    | _ => simp [ckTg] at h
/-- a name is stored -/
theorem Rel.setD {P : Par} {D H : Hp} {g : G} {σ : L2.St} {i : Nat} {v : V} {d : PyData} (R : Rel P D g σ H) (q : Dq P.K D v d) : Rel P D { g with env := g.env.set i (some (.dat d)) } (σ.set i (some v)) H := by
  have ix : ∀ (j : Nat) (es : List PyData), (g.env.set i (some (.dat d)))[j]? = some (some (.own es)) → i ≠ j ∧ g.env[j]? = some (some (.own es)) := fun j es h => by
    by_cases hj : i = j
    · subst hj
      by_cases hl : i < g.env.length
      · rw [List.getElem?_set_self hl] at h; cases h
      · rw [List.getElem?_eq_none (by rw [List.length_set]; omega)] at h; cases h
    · rw [List.getElem?_set_ne hj] at h; exact ⟨hj, h⟩
  refine ⟨R.sub, R.old, R.new, by simp [R.len], fun j sl h => ?_, fun j l p es fs h1 h2 e1 e2 => ?_, R.box⟩
  · by_cases hj : i = j
    · subst hj
      by_cases hl : i < g.env.length
      · rw [List.getElem?_set_self hl] at h; cases h
        exact ⟨v, List.getElem?_set_self (by rw [← R.len]; exact hl), q⟩
      · rw [List.getElem?_eq_none (by rw [List.length_set]; omega)] at h; cases h
    · rw [List.getElem?_set_ne hj] at h ⊢
      exact R.slot j sl h
  · obtain ⟨n1, k1⟩ := ix _ _ h1
    obtain ⟨n2, k2⟩ := ix _ _ h2
    rw [List.getElem?_set_ne n1] at e1
    rw [List.getElem?_set_ne n2] at e2
    exact R.dis j l p es fs k1 k2 e1 e2
theorem Free.setD {g : G} {σ : L2.St} {i : Nat} {v : V} {d : PyData} {p : Addr} (F : Free g σ p) : Free { g with env := g.env.set i (some (.dat d)) } (σ.set i (some v)) p := fun j es h e => by
  by_cases hj : i = j
  · subst hj
    have h : (g.env.set i (some (.dat d)))[i]? = some (some (.own es)) := h
    by_cases hl : i < g.env.length
    · rw [List.getElem?_set_self hl] at h; cases h
    · rw [List.getElem?_eq_none (by rw [List.length_set]; omega)] at h; cases h
  · have h : (g.env.set i (some (.dat d)))[j]? = some (some (.own es)) := h
    rw [List.getElem?_set_ne hj] at h e
    exact F j es h e
/-- behind a target's store: no new list of one's own, the other slots stay -/
structure BindOk (is : List Nat) (g : G) (σ : L2.St) (g' : G) (σ' : L2.St) : Prop where
  free : ∀ p, Free g σ p → Free g' σ' p
  owns : ∀ (j : Nat) (es : List PyData), g'.env[j]? = some (some (.own es)) → g.env[j]? = some (some (.own es))
  out : ∀ j, j ∉ is → σ'[j]? = σ[j]?
  len : σ'.length = σ.length
def tgIs : Tg → List Nat
  | .nm i => [i]
  | .tp is => is
  | .tq ts => ts.flatMap fun t => match t with | .inl i => [i] | .inr is => is
theorem BindOk.trans {is js : List Nat} {g g1 g2 : G} {σ σ1 σ2 : L2.St} (a : BindOk is g σ g1 σ1) (b : BindOk js g1 σ1 g2 σ2) : BindOk (is ++ js) g σ g2 σ2 :=
  ⟨fun p h => b.free p (a.free p h), fun j es h => a.owns j es (b.owns j es h), fun j hj => (b.out j fun z => hj (List.mem_append_right _ z)).trans (a.out j fun z => hj (List.mem_append_left _ z)), b.len.trans a.len⟩
theorem setAll_len : ∀ {is : List Nat} {ds : List PyData} {env env' : List Sl}, setAll is ds env = some env' → ds.length = is.length := by
  intro is
  induction is with
  | nil => intro ds env env' h; cases ds with | nil => rfl | cons => cases h
  | cons i is ih => intro ds env env' h; cases ds with | nil => cases h | cons d ds => rw [List.length_cons, List.length_cons, ih h]
theorem setQ_len : ∀ {ts : List (Nat ⊕ List Nat)} {ds : List PyData} {env env' : List Sl}, setQ ts ds env = some env' → ds.length = ts.length := by
  intro ts
  induction ts with
  | nil => intro ds env env' h; cases ds with | nil => rfl | cons => cases h
  | cons t ts ih =>
    intro ds env env' h
    cases ds with
    | nil => cases t <;> cases h
    | cons d ds =>
      rw [List.length_cons, List.length_cons]
      cases t with
      | inl i => rw [ih h]
      | inr is =>
        cases d <;> first | (cases h; done) | skip
        all_goals
          rename_i es
          have h : (match setAll is es env with | some env' => setQ ts ds env' | none => none) = some env' := h
          split at h
          · rw [ih h]
          · cases h
theorem own_set {g : G} {i j : Nat} {d : PyData} {es : List PyData} (h : (g.env.set i (some (.dat d)))[j]? = some (some (.own es))) : g.env[j]? = some (some (.own es)) := by
  by_cases hj : i = j
  · subst hj
    by_cases hl : i < g.env.length
    · rw [List.getElem?_set_self hl] at h; cases h
    · rw [List.getElem?_eq_none (by rw [List.length_set]; omega)] at h; cases h
  · rw [List.getElem?_set_ne hj] at h; exact h
theorem g_run {P : Par} {D H : Hp} {Q : L2.St → Hp → Prop} : ∀ {is : List Nat} {vs : List V} {ds : List PyData} {g : G} {σ : L2.St} {env : List Sl}, Rel P D g σ H → DqAll P.K D vs ds → setAll is ds g.env = some env →
    (∀ σ', Rel P D { g with env := env } σ' H → BindOk is g σ { g with env := env } σ' → Q σ' H) → gNames is vs σ H Q
  | [], vs, [], g, σ, env, R, q, e, k => by
    cases e
    cases q
    exact ⟨rfl, k σ R ⟨fun _ h => h, fun _ _ h => h, fun _ _ => rfl, rfl⟩⟩
  | [], vs, d :: ds, g, σ, env, R, q, e, k => by cases e
  | i :: is, vs, [], g, σ, env, R, q, e, k => by cases e
  | i :: is, vs, d :: ds, g, σ, env, R, q, e, k => by
    cases q with
    | cons h t => exact ⟨_, _, rfl, g_run (R.setD h) t e fun σ' R' b => k σ' R' ⟨fun p F => b.free p (F.setD), fun j es h => own_set (b.owns j es h), fun j hj => (b.out j fun z => hj (List.mem_cons_of_mem _ z)).trans (List.getElem?_set_ne (by intro z; exact hj (by rw [← z]; exact List.mem_cons_self))), b.len.trans (List.length_set ..)⟩⟩
theorem gq_run {P : Par} {D H : Hp} {Q : L2.St → Hp → Prop} : ∀ {ts : List (Nat ⊕ List Nat)} {vs : List V} {ds : List PyData} {g : G} {σ : L2.St} {env : List Sl}, Rel P D g σ H → DqAll P.K D vs ds → setQ ts ds g.env = some env →
    (∀ σ', Rel P D { g with env := env } σ' H → BindOk (tgIs (.tq ts)) g σ { g with env := env } σ' → Q σ' H) → gItems P.K ts vs σ H Q
  | [], vs, [], g, σ, env, R, q, e, k => by
    cases e
    cases q
    exact ⟨rfl, k σ R ⟨fun _ h => h, fun _ _ h => h, fun _ _ => rfl, rfl⟩⟩
  | [], vs, d :: ds, g, σ, env, R, q, e, k => by cases e
  | .inl i :: ts, vs, [], g, σ, env, R, q, e, k => by cases e
  | .inr i :: ts, vs, [], g, σ, env, R, q, e, k => by cases e
  | .inl i :: ts, vs, d :: ds, g, σ, env, R, q, e, k => by
    cases q with
    | cons h t =>
      have e : setQ ts ds (g.env.set i (some (.dat d))) = some env := e
      refine ⟨_, _, rfl, gq_run (R.setD h) t e fun σ' R' b => k σ' R' (BindOk.trans (is := [i]) ⟨fun p F => F.setD, fun j es h => own_set h, fun j hj => List.getElem?_set_ne (by intro z; exact hj (by rw [← z]; exact List.mem_cons_self)), List.length_set ..⟩ b)⟩
  | .inr is :: ts, vs, d :: ds, g, σ, env, R, q, e, k => by
    cases q with
    | cons h t =>
      cases h with
      | @tup a xs es h1 al =>
        have e : (match setAll is es g.env with | some env' => setQ ts ds env' | none => none) = some env := e
        cases e1 : setAll is es g.env with
        | none => rw [e1] at e; cases e
        | some env1 =>
          rw [e1] at e
          refine ⟨_, _, rfl, a, xs, rfl, .inl (R.sub.seqT h1), by rw [al.len, setAll_len e1], g_run R al e1 fun σ1 R1 b1 => ?_⟩
          exact gq_run (g := { g with env := env1 }) R1 t e fun σ' R' b => k σ' R' (b1.trans b)
      | @lst a xs es h1 al =>
        have e : (match setAll is es g.env with | some env' => setQ ts ds env' | none => none) = some env := e
        cases e1 : setAll is es g.env with
        | none => rw [e1] at e; cases e
        | some env1 =>
          rw [e1] at e
          refine ⟨_, _, rfl, a, xs, rfl, .inr (R.sub.seqL h1), by rw [al.len, setAll_len e1], g_run R al e1 fun σ1 R1 b1 => ?_⟩
          exact gq_run (g := { g with env := env1 }) R1 t e fun σ' R' b => k σ' R' (b1.trans b)
      | _ => cases e
theorem gT_run {P : Par} {D H : Hp} {Q : L2.St → Hp → Prop} {tg : Tg} {v : V} {d : PyData} {g : G} {σ : L2.St} {env : List Sl} (R : Rel P D g σ H) (q : Dq P.K D v d) (e : bindT tg d g.env = some env)
    (k : ∀ σ', Rel P D { g with env := env } σ' H → BindOk (tgIs tg) g σ { g with env := env } σ' → Q σ' H) : gT P.K tg v σ H Q := by
  cases tg with
  | nm i =>
    cases e
    exact k _ (R.setD q) ⟨fun p F => F.setD, fun j es h => own_set h, fun j hj => List.getElem?_set_ne (by intro z; exact hj (by rw [← z]; exact List.mem_cons_self)), List.length_set ..⟩
  | tp is =>
    unfold bindT at e
    split at e
    · rename_i h; cases h
    · rename_i is' h
      cases h
      split at e
      · rename_i ds
        cases q with
        | @tup a xs _ h1 al => exact ⟨a, xs, rfl, .inl (R.sub.seqT h1), by rw [al.len, setAll_len e], g_run R al e fun σ' R' e' => k σ' R' e'⟩
      · rename_i ds
        cases q with
        | @lst a xs _ h1 al => exact ⟨a, xs, rfl, .inr (R.sub.seqL h1), by rw [al.len, setAll_len e], g_run R al e fun σ' R' e' => k σ' R' e'⟩
      · cases e
    · rename_i is' h; cases h
  | tq ts =>
    unfold bindT at e
    split at e
    · rename_i h; cases h
    · rename_i is' h; cases h
    · rename_i ts' h
      cases h
      split at e
      · rename_i ds
        cases q with
        | @tup a xs _ h1 al => exact ⟨a, xs, rfl, .inl (R.sub.seqT h1), by rw [al.len, setQ_len e], gq_run R al e fun σ' R' e' => k σ' R' e'⟩
      · rename_i ds
        cases q with
        | @lst a xs _ h1 al => exact ⟨a, xs, rfl, .inr (R.sub.seqL h1), by rw [al.len, setQ_len e], gq_run R al e fun σ' R' e' => k σ' R' e'⟩
      · cases e

/-! ### walks -/
section
variable {K : PySem.W.Frag} {D H : Hp}
theorem res_at {xs : List V} {ds : List PyData} {i : Nat} {x : V} {D1 : Hp} (s : Sub D D1) (al : DqAll K D xs ds) (h : xs[i]? = some x) : ∃ d D2, ds[i]? = some d ∧ Res K D1 H (.dat d) x D2 H := by
  obtain ⟨d, h1, h2⟩ := al.get' h
  exact ⟨d, D1, h1, .same (h2.mono s)⟩
theorem wd_list {a : Addr} {xs : List V} {ds : List PyData} (h : SqL K D a xs) (al : DqAll K D xs ds) : WalkD K D (Itl K a) ds := by
  have w := walk_list (K := K) (a := a) (xs := xs)
  rw [al.len] at w
  exact ⟨fun D1 H i s1 s2 hi => w.goes i H hi (s2.seqL (s1.seqL h)), fun D1 H s1 s2 => w.stops H (s2.seqL (s1.seqL h)), fun D1 H i x H' s1 s2 hi y => by
    obtain ⟨rfl, e⟩ := w.yields i H x H' hi (s2.seqL (s1.seqL h)) y
    exact res_at s1 al e⟩
theorem wd_tup {a : Addr} {xs : List V} {ds : List PyData} (h : SqT K D a xs) (al : DqAll K D xs ds) : WalkD K D (Itt K a) ds := by
  have w := walk_tup (K := K) (a := a) (xs := xs)
  rw [al.len] at w
  exact ⟨fun D1 H i s1 s2 hi => w.goes i H hi (s2.seqT (s1.seqT h)), fun D1 H s1 s2 => w.stops H (s2.seqT (s1.seqT h)), fun D1 H i x H' s1 s2 hi y => by
    obtain ⟨rfl, e⟩ := w.yields i H x H' hi (s2.seqT (s1.seqT h)) y
    exact res_at s1 al e⟩
theorem wd_range {lo : Int} {n : Nat} : WalkD K D (Itr lo n) (rangeD lo n) := by
  have hl : (rangeD lo n).length = n := by unfold rangeD; simp
  refine ⟨fun D1 H i s1 s2 hi => ?_, fun D1 H s1 s2 => ?_, fun D1 H i x H' s1 s2 hi y => ?_⟩
  · rw [hl] at hi; exact hi
  · rw [hl]; exact Nat.le_refl n
  · obtain ⟨rfl, rfl⟩ := y
    rw [hl] at hi
    refine ⟨.int (lo + i), D1, ?_, .same (.int _)⟩
    unfold rangeD
    rw [List.getElem?_map, List.getElem?_range hi]; rfl
theorem wd_str {z : Str} : WalkD K D (Its z) (z.cps.toList.map fun c => .str ⟨#[c]⟩) := by
  have hl : (z.cps.toList.map fun c => PyData.str ⟨#[c]⟩).length = z.cps.size := by simp
  refine ⟨fun D1 H i s1 s2 hi => ?_, fun D1 H s1 s2 => ?_, fun D1 H i x H' s1 s2 hi y => ?_⟩
  · rw [hl] at hi; exact hi
  · rw [hl]; exact Nat.le_refl _
  · obtain ⟨rfl, c, h1, rfl⟩ := y
    refine ⟨.str ⟨#[c]⟩, D1, ?_, .same (.str _)⟩
    rw [List.getElem?_map, Array.getElem?_toList, h1]; rfl
theorem enumD_len : ∀ (n : Nat) (ds : List PyData), (enumD n ds).length = ds.length
  | _, [] => rfl
  | n, d :: r => by show (enumD (n + 1) r).length + 1 = _; rw [enumD_len (n + 1) r]; rfl
theorem enumD_get : ∀ (n : Nat) (ds : List PyData) (i : Nat) (d : PyData), ds[i]? = some d → (enumD n ds)[i]? = some (pairD (.int ((n + i : Nat) : Int)) d)
  | _, [], _, _, h => by simp at h
  | n, d :: r, 0, e, h => by simp at h; subst h; rfl
  | n, d :: r, i + 1, e, h => by
    have := enumD_get (n + 1) r i e (by simpa using h)
    show (enumD (n + 1) r)[i]? = _
    rw [this]
    congr 4
    omega
theorem wd_pair {J : It} {n : Nat} {ps : List PyData} {W : Hp → Prop} {fx fy : Nat → Option V} {gx gy : Nat → Option PyData} (hn : ps.length = n) (w : Walk J n W (YPair fx fy)) (hW : ∀ D1 H, Sub D D1 → Sub D1 H → W H)
    (hx : ∀ i x, i < n → fx i = some x → ∃ d, gx i = some d ∧ Dq K D x d) (hy : ∀ i x, i < n → fy i = some x → ∃ d, gy i = some d ∧ Dq K D x d) (hp : ∀ i d e, i < n → gx i = some d → gy i = some e → ps[i]? = some (pairD d e)) : WalkD K D J ps := by
  subst hn
  refine ⟨fun D1 H i s1 s2 hi => w.goes i H hi (hW D1 H s1 s2), fun D1 H s1 s2 => w.stops H (hW D1 H s1 s2), fun D1 H i x H' s1 s2 hi y => ?_⟩
  obtain ⟨T, u, v, rfl, nT, rfl, e1, e2⟩ := w.yields i H x H' hi (hW D1 H s1 s2) y
  obtain ⟨d, d1, d2⟩ := hx i u hi e1
  obtain ⟨e, f1, f2⟩ := hy i v hi e2
  exact ⟨pairD d e, _, hp i d e hi d1 f1, .tup nT (.cons (d2.mono s1) (.cons (f2.mono s1) .nil))⟩
theorem wd_enum {a : Addr} {xs : List V} {ds : List PyData} (h : SqL K D a xs) (al : DqAll K D xs ds) : WalkD K D (Ite K a) (enumD 0 ds) := by
  have w := walk_enum (K := K) (a := a) (xs := xs)
  rw [al.len] at w
  refine wd_pair (gx := fun i => some (.int (i : Nat))) (gy := fun i => ds[i]?) (enumD_len 0 ds) w (fun D1 H s1 s2 => s2.seqL (s1.seqL h)) (fun i x _ e => ?_) (fun i x _ e => al.get' e) fun i d e _ h1 h2 => ?_
  · cases e; exact ⟨_, rfl, .int _⟩
  · cases h1
    have := enumD_get 0 ds i e h2
    rw [Nat.zero_add] at this
    exact this
theorem zip_get {xs ys : List PyData} {i : Nat} {d e : PyData} (h1 : xs[i]? = some d) (h2 : ys[i]? = some e) : (List.zipWith pairD xs ys)[i]? = some (pairD d e) := by
  rw [List.getElem?_zipWith, h1, h2]
theorem walk_zipB {t u : Bool} {a b : Addr} {xs ys : List V} {n : Nat} (hn : n = min xs.length ys.length) : Walk (ItzB K t u a b) n (fun H => SqB K t H a xs ∧ SqB K u H b ys) (YPair (fun i => xs[i]?) (fun i => ys[i]?)) := by
  subst hn
  refine ⟨fun i _ hi q => ?_, fun _ q => ⟨xs, ys, q.1, q.2, rfl⟩, fun i H v H' _ q y => ?_⟩
  · exact ⟨xs, ys, xs[i]'(by omega), ys[i]'(by omega), q.1, q.2, List.getElem?_eq_getElem _, List.getElem?_eq_getElem _⟩
  · obtain ⟨T, x, z, h1, h2, h3, h4, h5⟩ := y
    exact ⟨T, x, z, h1, h2, h3, h4 xs q.1, h5 ys q.2⟩
theorem Sub.seqB {t : Bool} {D H : Hp} {a : Addr} {xs : List V} (s : Sub D H) (h : SqB K t D a xs) : SqB K t H a xs := by
  cases t
  · exact s.seqL h
  · exact s.seqT h
theorem wd_zipB {t u : Bool} {a b : Addr} {xs ys : List V} {ds es : List PyData} (h : SqB K t D a xs) (al : DqAll K D xs ds) (h' : SqB K u D b ys) (al' : DqAll K D ys es) : WalkD K D (ItzB K t u a b) (List.zipWith pairD ds es) := by
  refine wd_pair (gx := fun i => ds[i]?) (gy := fun i => es[i]?) rfl (walk_zipB (K := K) (t := t) (u := u) (a := a) (b := b) (xs := xs) (ys := ys) (by rw [List.length_zipWith, al.len, al'.len])) (fun D1 H s1 s2 => ⟨s2.seqB (s1.seqB h), s2.seqB (s1.seqB h')⟩)
    (fun i x _ e => al.get' e) (fun i x _ e => al'.get' e) fun i d e _ h1 h2 => zip_get h1 h2
theorem dq_seq {d : PyData} {ds : List PyData} {r : RV} {x : V} (hr : r.pd = some d) (h : seqOf r = some ds) (q : Dq K D x d) : ∃ t a xs, x = .ref a ∧ SqB K t D a xs ∧ DqAll K D xs ds := by
  cases r with
  | box => cases h
  | own es =>
    cases h; cases hr
    cases q with
    | lst h1 al => exact ⟨false, _, _, rfl, h1, al⟩
  | dat d' =>
    cases hr
    cases d <;> first | (cases h; done) | skip
    · cases h
      cases q with
      | lst h1 al => exact ⟨false, _, _, rfl, h1, al⟩
    · cases h
      cases q with
      | tup h1 al => exact ⟨true, _, _, rfl, h1, al⟩
theorem seqOf_pd {r : RV} {ds : List PyData} (h : seqOf r = some ds) : ∃ d, r.pd = some d := by
  cases r with
  | box => cases h
  | own es => exact ⟨_, rfl⟩
  | dat d => exact ⟨_, rfl⟩
end

/-! ### sources -/
theorem i_list {tg : Expr} (ha : PE X ea (tE (mkP X.K f) cal a)) : PI X tg ea (tI (mkP X.K f) cal (.it a)) := by
  refine ⟨fun pins s σ H R I ⟨D, g, ds, g', Rl, ev, k⟩ => ?_⟩
  simp only [evI] at ev
  split at ev
  · rename_i x g1 e1
    obtain ⟨ds', h2, h3⟩ := map_some ev
    cases h3
    have lst : ∀ {es : List PyData}, x.pd = some (.list es) → ds = es → wpAny (model X.prog X.w) X.A (eval ea X.env) (fun v s1 => wpAny (model X.prog X.w) X.A (pyIter v) (PIE X pins σ tg R) X.xe s1) X.xe s := fun hp he => by
      subst he
      refine (pi_list ha).run pins s σ H R I (shared Rl e1 hp fun vx D1 H1 R1 A1 q => ?_)
      cases q with
      | lst h1 al => exact ⟨_, rfl, ⟨_, R1.sub.seqL h1⟩, k _ D1 H1 R1 A1 (wd_list h1 al)⟩
    cases x with
    | box => cases h2
    | own es => cases h2; exact lst rfl rfl
    | dat d =>
      cases d with
      | list es => cases h2; exact lst rfl rfl
      | tuple es =>
        cases h2
        refine (pi_tup ha).run pins s σ H R I (shared Rl e1 rfl fun vx D1 H1 R1 A1 q => ?_)
        cases q with
        | tup h1 al => exact ⟨_, rfl, ⟨_, R1.sub.seqT h1⟩, k _ D1 H1 R1 A1 (wd_tup h1 al)⟩
      | str z =>
        cases h2
        refine (pi_str ha).run pins s σ H R I (shared Rl e1 rfl fun vx D1 H1 R1 A1 q => ?_)
        cases q with
        | str => exact ⟨z, rfl, k _ D1 H1 R1 A1 wd_str⟩
      | _ => cases h2
  · cases ev
theorem smallN_of {n : Nat} (h : smallN n = true) : n < 4611686018427387904 := by
  cases n with
  | zero => omega
  | succ k =>
    have := of_decide_eq_true (show decide (k < 4611686018427387903) = true from h)
    omega
theorem smallN_ok {n : Nat} (h : n < 4611686018427387904) : smallN n = true := by
  cases n with
  | zero => rfl
  | succ k => exact decide_eq_true (show k < 4611686018427387903 by omega)
theorem inR_of {i : Int} (h : inR i = true) : -(2 ^ 62) ≤ i ∧ i < 2 ^ 62 := by
  cases i with
  | ofNat n =>
    have := smallN_of (show smallN n = true from h)
    exact ⟨by simp only [Int.ofNat_eq_natCast]; omega, by simp only [Int.ofNat_eq_natCast]; omega⟩
  | negSucc n =>
    have := smallN_of (show smallN n = true from h)
    exact ⟨by omega, by omega⟩
theorem i_rng1 {tg : Expr} {p : Pos} (C : CxOk Γ X cal) (hg : Γ.blt "range" = true) (hk : ckE Γ a ea = true) (ha : PE X ea (tE (mkP X.K f) cal a)) : PI X tg (.Call (.Name "range" p) [ea] [] pos) (tI (mkP X.K f) cal (.rng1 a)) := by
  obtain ⟨gl, mg⟩ := blt_of C hg
  refine PI_imp (pi_range1 gl mg (pa_cons ha pa_nil (star_of hk)) (star_of hk)) fun σ H R ⟨D, g, ds, g', Rl, ev, k⟩ => ?_
  simp only [evI] at ev
  split at ev
  · rename_i n g1 e1
    split at ev
    · rename_i h; cases ev
      obtain ⟨b1, b2⟩ := inR_of h
      exact shared Rl e1 (d := .int n) rfl fun vx D1 H1 R1 A1 q => ⟨n, by rw [int_of q], b1, b2, k _ D1 H1 R1 A1 wd_range⟩
    · cases ev
  · cases ev
theorem i_rng2 {tg : Expr} {p : Pos} (C : CxOk Γ X cal) (hg : Γ.blt "range" = true) (hk : ckE Γ a ea = true) (hk2 : ckE Γ b eb = true) (ha : PE X ea (tE (mkP X.K f) cal a)) (hb : PE X eb (tE (mkP X.K f) cal b)) :
    PI X tg (.Call (.Name "range" p) [ea, eb] [] pos) (tI (mkP X.K f) cal (.rng2 a b)) := by
  obtain ⟨gl, mg⟩ := blt_of C hg
  refine PI_imp (pi_range2 gl mg (pa_cons ha (pa_cons hb pa_nil (star_of hk2)) (star_of hk)) (by rw [star_of hk, star_of hk2]; rfl) (by rw [star_of hk2]; rfl)) fun σ H R ⟨D, g, ds, g', Rl, ev, k⟩ => ?_
  simp only [evI] at ev
  split at ev
  · rename_i i g1 e1
    split at ev
    · rename_i j g2 e2
      split at ev
      · rename_i h; cases ev
        rw [Bool.and_eq_true] at h
        obtain ⟨b1, b2⟩ := inR_of h.1
        obtain ⟨b3, b4⟩ := inR_of h.2
        exact shared Rl e1 (d := .int i) rfl fun vx D1 H1 R1 A1 q => shared R1 e2 (d := .int j) rfl fun vy D2 H2 R2 A2 q2 => ⟨i, j, by rw [int_of q, int_of q2], ⟨b1, b2, b3, b4⟩, k _ D2 H2 R2 (A1.trans A2) wd_range⟩
      · cases ev
    · cases ev
  · cases ev
theorem lstOf_pd {r : RV} {ds : List PyData} (h : lstOf r = some ds) : r.pd = some (.list ds) := by
  cases r with
  | box => cases h
  | own es => cases h; rfl
  | dat d => cases d <;> first | (cases h; done) | skip
             cases h; rfl
theorem i_enum {p tpos : Pos} {elts : List Expr} {kk : Nat} (C : CxOk Γ X cal) (hg : Γ.blt "enumerate" = true) (hk : ckE Γ a ea = true) (ha : PE X ea (tE (mkP X.K f) cal a)) :
    PI X (.Tuple elts kk tpos) (.Call (.Name "enumerate" p) [ea] [] pos) (tI (mkP X.K f) cal (.enum a)) := by
  obtain ⟨gl, mg⟩ := blt_of C hg
  refine PI_imp (pi_enum gl mg (pa_cons ha pa_nil (star_of hk)) (star_of hk)) fun σ H R ⟨D, g, ds, g', Rl, ev, k⟩ => ?_
  simp only [evI] at ev
  split at ev
  · rename_i x g1 e1
    obtain ⟨ds', h2, h3⟩ := map_some ev
    cases h3
    refine shared Rl e1 (lstOf_pd h2) fun vx D1 H1 R1 A1 q => ?_
    cases q with
    | lst h1 al => exact ⟨_, _, rfl, R1.sub.seqL h1, k _ D1 H1 R1 A1 (wd_enum h1 al)⟩
  · cases ev
theorem i_zip {p tpos : Pos} {elts : List Expr} {kk : Nat} (C : CxOk Γ X cal) (hg : Γ.blt "zip" = true) (hk : ckE Γ a ea = true) (hk2 : ckE Γ b eb = true) (ha : PE X ea (tE (mkP X.K f) cal a)) (hb : PE X eb (tE (mkP X.K f) cal b)) :
    PI X (.Tuple elts kk tpos) (.Call (.Name "zip" p) [ea, eb] [] pos) (tI (mkP X.K f) cal (.zip a b)) := by
  obtain ⟨gl, mg⟩ := blt_of C hg
  refine PI_imp (pi_zipB gl mg (pa_cons ha (pa_cons hb pa_nil (star_of hk2)) (star_of hk)) (by rw [star_of hk]) (by rw [star_of hk2]; rfl)) fun σ H R ⟨D, g, ds, g', Rl, ev, k⟩ => ?_
  simp only [evI] at ev
  split at ev
  · rename_i x g1 e1
    split at ev
    · rename_i y g2 e2
      obtain ⟨ds', h2, h3⟩ := map_some ev
      cases h3
      unfold zipOf at h2
      split at h2
      · rename_i xs ys l1 l2
        cases h2
        obtain ⟨dx, hx⟩ := seqOf_pd l1
        obtain ⟨dy, hy⟩ := seqOf_pd l2
        refine shared Rl e1 hx fun vx D1 H1 R1 A1 q => shared R1 e2 hy fun vy D2 H2 R2 A2 q2 => ?_
        obtain ⟨t, a, vs, rfl, s1, al⟩ := dq_seq hx l1 q
        obtain ⟨u, b, ws, rfl, s2, al2⟩ := dq_seq hy l2 q2
        have s1' := Sub.seqB A2.mono s1
        exact ⟨t, u, a, b, vs, ws, rfl, Sub.seqB R2.sub s1', Sub.seqB R2.sub s2, k _ D2 H2 R2 (A1.trans A2) (wd_zipB s1' (al.mono A2.mono) s2 al2)⟩
      · cases h2
    · cases ev
  · cases ev
/-! ### list(range(..)) -/
theorem r_rng1 {p : Pos} (C : CxOk Γ X cal) (hg : Γ.blt "range" = true) (hk : ckE Γ a ea = true) (ha : PE X ea (tE (mkP X.K f) cal a)) : PRg X (.Call (.Name "range" p) [ea] [] pos) (tRg1 (tE (mkP X.K f) cal a)) := by
  obtain ⟨gl, mg⟩ := blt_of C hg
  exact prg_1 gl mg ha (star_of hk)
theorem r_rng2 {p : Pos} (C : CxOk Γ X cal) (hg : Γ.blt "range" = true) (hk : ckE Γ a ea = true) (hk2 : ckE Γ b eb = true) (ha : PE X ea (tE (mkP X.K f) cal a)) (hb : PE X eb (tE (mkP X.K f) cal b)) :
    PRg X (.Call (.Name "range" p) [ea, eb] [] pos) (tRg2 (tE (mkP X.K f) cal a) (tE (mkP X.K f) cal b)) := by
  obtain ⟨gl, mg⟩ := blt_of C hg
  exact prg_2 gl mg ha hb (by rw [star_of hk]) (star_of hk2) (by rw [star_of hk2]; rfl)
theorem rg_all {K : PySem.W.Frag} {D : Hp} (a b : Int) : DqAll K D (rgV a b) (rangeD a (b - a).toNat) := by
  unfold rgV rangeD
  generalize List.range (b - a).toNat = l
  induction l with
  | nil => exact .nil
  | cons i l ih => exact .cons (.int _) ih
theorem rg_ok {a b : Int} (h1 : inR a = true) (h2 : inR b = true) (h3 : szOk (rangeD a (b - a).toNat).length = true) : RgOk a b := by
  obtain ⟨b1, b2⟩ := inR_of h1
  obtain ⟨b3, b4⟩ := inR_of h2
  refine ⟨b1, b2, b3, b4, ?_⟩
  have h3 := of_decide_eq_true h3
  unfold rangeD at h3
  simp only [List.length_map, List.length_range] at h3
  exact h3
theorem e_lrng1 {p p2 pos2 : Pos} {x : Expr} (C : CxOk Γ X cal) (hg : Γ.blt "list" = true) (hr : PRg X (.Call (.Name "range" p2) [ea] [] pos2) (tRg1 (tE (mkP X.K f) cal a))) :
    PE X (.Call (.Name "list" p) [.Call (.Name "range" p2) [ea] [] pos2] [] pos) (tE (mkP X.K f) cal (.lrng (.rng1 a))) := by
  obtain ⟨gl, mg⟩ := blt_of C hg
  refine PE_imp (pe_listRg C.calm gl mg hr rfl) fun σ H Q ⟨D, g, r, g', R, ev, k⟩ => ?_
  simp only [evE, evI] at ev
  split at ev
  · rename_i ds g1 e0
    split at e0
    · rename_i n g2 e1
      split at e0
      · rename_i h
        cases e0
        split at ev
        · rename_i hz
          cases ev
          have e : n.toNat = (n - 0).toNat := by rw [Int.sub_zero]
          rw [e] at k
          exact shared R e1 (d := .int n) rfl fun vx D1 H1 R1 A1 q => ⟨n, int_of q, rg_ok (by decide) h (by rw [← e]; exact hz), fun p np => finR R A1 R1 k (.lst np (rg_all 0 n))⟩
        · cases ev
      · cases e0
    · cases e0
  · cases ev
theorem e_lrng2 {p p2 pos2 : Pos} (C : CxOk Γ X cal) (hg : Γ.blt "list" = true) (hr : PRg X (.Call (.Name "range" p2) [ea, eb] [] pos2) (tRg2 (tE (mkP X.K f) cal a) (tE (mkP X.K f) cal b))) :
    PE X (.Call (.Name "list" p) [.Call (.Name "range" p2) [ea, eb] [] pos2] [] pos) (tE (mkP X.K f) cal (.lrng (.rng2 a b))) := by
  obtain ⟨gl, mg⟩ := blt_of C hg
  refine PE_imp (pe_listRg C.calm gl mg hr rfl) fun σ H Q ⟨D, g, r, g', R, ev, k⟩ => ?_
  simp only [evE, evI] at ev
  split at ev
  · rename_i ds g1 e0
    split at e0
    · rename_i i g2 e1
      split at e0
      · rename_i j g3 e2
        split at e0
        · rename_i h
          cases e0
          rw [Bool.and_eq_true] at h
          split at ev
          · rename_i hz
            cases ev
            exact shared R e1 (d := .int i) rfl fun vx D1 H1 R1 A1 q => shared R1 e2 (d := .int j) rfl fun vy D2 H2 R2 A2 q2 =>
              ⟨i, j, int_of q, int_of q2, rg_ok h.1 h.2 hz, fun p np => finR R (A1.trans A2) R2 k (.lst np (rg_all i j))⟩
          · cases ev
        · cases e0
      · cases e0
    · cases e0
  · cases ev

theorem e_lrngw {p p2 pos2 : Pos} (C : CxOk Γ X cal) (hg : Γ.blt "list" = true) (hg2 : Γ.blt "range" = true) (hk : ckE Γ a ea = true) (hk2 : ckE Γ b eb = true) (ha : PE X ea (tE (mkP X.K f) cal a)) (hb : PE X eb (tE (mkP X.K f) cal b)) :
    PE X (.Call (.Name "list" p) [.Call (.Name "range" p2) [ea, eb] [] pos2] [] pos) (tE (mkP X.K f) cal (.lrngw a b)) := by
  obtain ⟨gl, mg⟩ := blt_of C hg
  refine PE_imp (pe_lstRgW C.calm gl mg (r_rng2 C hg2 hk hk2 ha hb) rfl) fun σ H Q ⟨D, g, r, g', R, ev, k⟩ => ?_
  simp only [evE] at ev
  split at ev
  · rename_i i g1 e1
    split at ev
    · rename_i j g2 e2
      split at ev
      · rename_i hz
        cases ev
        exact shared R e1 (d := .int i) rfl fun vx D1 H1 R1 A1 q => shared R1 e2 (d := .int j) rfl fun vy D2 H2 R2 A2 q2 =>
          ⟨i, j, int_of q, int_of q2, of_decide_eq_true hz, fun p np => finR R (A1.trans A2) R2 k (.lst np (rg_all i j))⟩
      · cases ev
    · cases ev
  · cases ev
/-! ### isinstance -/
def tyNm : PyData → String
  | .none => "NoneType" | .bool _ => "bool" | .int _ => "int" | .str _ => "str" | .list _ => "list" | .tuple _ => "tuple" | .dict _ => "dict"
theorem ty_of {K : PySem.W.Frag} {H : Hp} {x : V} {d : PyData} (h : Dq K H x d) : TyX K H x (.type (tyNm d)) := by
  cases h with
  | non => exact .base .non
  | bl b => exact .base (.bl b)
  | int i => exact .base (.int i)
  | str z => exact .base (.str z)
  | lst h1 _ =>
    rcases h1 with (h1 | ⟨o, h1⟩) | ⟨o, its, n, h1, h2, _⟩
    · exact .base (.lst h1)
    · exact .base (.frz h1)
    · exact .kList h1 h2
  | tup h1 _ =>
    rcases h1 with (h1 | ⟨o, h1⟩) | ⟨o, its, n, h1, h2, _⟩
    · exact .base (.tup h1)
    · exact .fTuple h1
    · exact .kTuple h1 h2
theorem kit_d {K : PySem.W.Frag} (d : PyData) (hd : isData d = true) (t : Ty) : PySem.W.kitOne K (.type (tyNm d)) (.type (tyStr t)) = some (tyOf d t) := by
  cases d <;> first | (cases hd; done) | skip
  all_goals (cases t <;> refine kit_ty ?_ <;> simp only [tyNm, tyStr, tyOf] <;> decide +kernel)
theorem boot_ty (t : Ty) : bootBuiltins (Str.ofString (tyStr t)) = some (.type (tyStr t)) ∧ (Str.ofString (tyStr t)) ≠ "__name__" ∧ (Str.ofString (tyStr t) == ("__debug__" : Str)) = false := by
  cases t <;> exact ⟨by decide +kernel, by decide, by decide⟩
theorem e_isi1 {t : Ty} {p pt : Pos} (C : CxOk Γ X cal) (hg : Γ.blt "isinstance" = true) (ht : Γ.blt (Str.ofString (tyStr t)) = true) (hk : ckE Γ a ea = true) (ha : PE X ea (tE (mkP X.K f) cal a)) :
    PE X (.Call (.Name "isinstance" p) [ea, .Name (Str.ofString (tyStr t)) pt] [] pos) (tE (mkP X.K f) cal (.isi a [t])) := by
  obtain ⟨gl, mg⟩ := blt_of C hg
  obtain ⟨gl2, mg2⟩ := blt_of C ht
  obtain ⟨b1, b2, b3⟩ := boot_ty t
  have pt : PE X (.Name (Str.ofString (tyStr t)) pt) (tC (.ty (tyStr t))) := pe_bltn gl2 mg2 b1 rfl b2 b3
  refine PE_imp (pe_callB call_isi gl mg (by decide +kernel) (pa_cons ha (pa_cons pt pa_nil rfl) (star_of hk)) (by decide) (by decide) (star_of hk) rfl) fun σ H Q ⟨D, g, r, g', R, ev, k⟩ => ?_
  simp only [evE] at ev
  split at ev
  · rename_i x g1 e1
    split at ev
    · rename_i d h1
      split at ev
      · rename_i h2; cases ev
        refine shared R e1 h1 fun vx D1 H1 R1 A1 q => ⟨vx, .ty (tyStr t), _, _, tyOf d t, rfl, .ty _, ty_of (q.mono R1.sub), kit_d d h2 t, ?_⟩
        have e : (List.any [t] (tyOf d)) = tyOf d t := by simp
        rw [e] at k
        exact finR R A1 R1 k (.same (.bl _))
      · cases ev
    · cases ev
  · cases ev
def tyVs (ts : List Ty) : List V := ts.map fun t => .ty (tyStr t)
theorem a_tys (C : CxOk Γ X cal) : ∀ {ts : List Ty} {es : List Expr}, ckTys Γ ts es = true → ∃ t, PA X es t ∧ ∀ σ H Q, Q (tyVs ts) H → t σ H Q
  | [], [], _ => ⟨_, pa_nil, fun _ _ _ q => q⟩
  | [], _ :: _, h => by simp [ckTys] at h
  | t :: ts, [], h => by simp [ckTys] at h
  | t :: ts, e :: es, h => by
    cases e with
    | Name x pos =>
      simp only [ckTys, Bool.and_eq_true, decide_eq_true_eq] at h
      obtain ⟨⟨rfl, h2⟩, h3⟩ := h
      obtain ⟨u, p1, p2⟩ := a_tys C h3
      obtain ⟨gl2, mg2⟩ := blt_of C h2
      obtain ⟨b1, b2, b3⟩ := boot_ty t
      exact ⟨_, pa_cons (pe_bltn (v := .ty (tyStr t)) gl2 mg2 b1 rfl b2 b3) p1 rfl, fun σ H Q q => p2 σ H _ q⟩
    | _ => simp [ckTys] at h
theorem kit_any {K : PySem.W.Frag} (d : PyData) (hd : isData d = true) : ∀ ts : List Ty, PySem.W.kitAny K (.type (tyNm d)) (ts.map fun t => .type (tyStr t)) = some (ts.any (tyOf d))
  | [] => kitAny_nil
  | t :: ts => by
    refine kitAny_cons (kit_d d hd t) (fun h => ?_) (fun h => ?_)
    · rw [kit_any d hd ts, List.any_cons, h]; rfl
    · rw [List.any_cons, h]; rfl
theorem cls_all : ∀ ts : List Ty, Paired ClsV (tyVs ts) (ts.map fun t => .type (tyStr t))
  | [] => .nil
  | t :: ts => .cons (.ty _) (cls_all ts)
theorem e_isiT {ts : List Ty} {es : List Expr} {kk : Nat} {p pt : Pos} (C : CxOk Γ X cal) (hg : Γ.blt "isinstance" = true) (ht : ckTys Γ ts es = true) (hk : ckE Γ a ea = true) (ha : PE X ea (tE (mkP X.K f) cal a)) (hz : ts.length ≤ 100) :
    PE X (.Call (.Name "isinstance" p) [ea, .Tuple es kk pt] [] pos) (tE (mkP X.K f) cal (.isi a ts)) := by
  obtain ⟨gl, mg⟩ := blt_of C hg
  obtain ⟨u, p1, p2⟩ := a_tys C ht
  refine PE_imp (pe_callB call_isiT gl mg (by decide +kernel) (pa_cons ha (pa_cons (pe_tup p1) pa_nil rfl) (star_of hk)) (by decide) (by decide) (star_of hk) rfl) fun σ H Q ⟨D, g, r, g', R, ev, k⟩ => ?_
  simp only [evE] at ev
  split at ev
  · rename_i x g1 e1
    split at ev
    · rename_i d h1
      split at ev
      · rename_i h2; cases ev
        refine shared R e1 h1 fun vx D1 H1 R1 A1 q => p2 _ _ _ ⟨?_, fun tp np => ?_⟩
        · unfold tyVs; rw [List.length_map, slim]; omega
        · have R2 := R1.pushH (o := .tup (tyVs ts)) np
          exact ⟨vx, tp, tyVs ts, _, _, ts.any (tyOf d), rfl, upd_same, cls_all ts, ty_of (q.mono R2.sub), kit_any d h2 ts, finR R (A1.trans (Post.pushH np)) R2 k (.same (.bl _))⟩
      · cases ev
    · cases ev
  · cases ev
end
end PX
set_option Elab.async false
set_option autoImplicit false
set_option maxRecDepth 100000
set_option maxHeartbeats 4100000
/-! PXH: comprehensions, calls with keywords; every expression that passes the checker. -/
namespace PX
open PySem.Spec L2 PyProof.Rows PySem

/-! ### wiping -/
theorem wipe_in {σ : L2.St} {i : Nat} : ∀ {vs : List Nat}, i ∈ vs → i < σ.length → (wipe σ vs)[i]? = some none
  | [], h, _ => by cases h
  | v :: vs, h, hl => by
    show ((wipe σ vs).set v none)[i]? = some none
    by_cases e : v = i
    · subst e; exact List.getElem?_set_self (by rw [wipe_length]; exact hl)
    · rw [List.getElem?_set_ne e]
      exact wipe_in ((List.mem_cons.mp h).resolve_left fun z => e z.symm) hl
theorem wipeE_len (env : List Sl) : ∀ vs : List Nat, (wipeE env vs).length = env.length
  | [] => rfl
  | v :: vs => by show ((wipeE env vs).set v none).length = _; rw [List.length_set, wipeE_len env vs]
theorem wipeE_in {env : List Sl} {i : Nat} : ∀ {vs : List Nat}, i ∈ vs → i < env.length → (wipeE env vs)[i]? = some none
  | [], h, _ => by cases h
  | v :: vs, h, hl => by
    show ((wipeE env vs).set v none)[i]? = some none
    by_cases e : v = i
    · subst e; exact List.getElem?_set_self (by rw [wipeE_len]; exact hl)
    · rw [List.getElem?_set_ne e]
      exact wipeE_in ((List.mem_cons.mp h).resolve_left fun z => e z.symm) hl
theorem wipeE_out {env : List Sl} {i : Nat} : ∀ {vs : List Nat}, i ∉ vs → (wipeE env vs)[i]? = env[i]?
  | [], _ => rfl
  | v :: vs, h => by
    show ((wipeE env vs).set v none)[i]? = _
    rw [List.getElem?_set_ne fun z => h (by rw [← z]; exact List.mem_cons_self)]
    exact wipeE_out fun z => h (List.mem_cons_of_mem _ z)
theorem wipeE_own {env : List Sl} {i : Nat} {vs : List Nat} {es : List PyData} (h : (wipeE env vs)[i]? = some (some (.own es))) : i ∉ vs ∧ env[i]? = some (some (.own es)) := by
  by_cases hi : i ∈ vs
  · by_cases hl : i < env.length
    · rw [wipeE_in hi hl] at h; cases h
    · rw [List.getElem?_eq_none (by rw [wipeE_len]; omega)] at h; cases h
  · rw [wipeE_out hi] at h; exact ⟨hi, h⟩
theorem unwipe_len (old env : List Sl) : ∀ vs : List Nat, (unwipe old env vs).length = env.length
  | [] => rfl
  | v :: vs => by show ((unwipe old env vs).set v _).length = _; rw [List.length_set, unwipe_len old env vs]
theorem unwipe_in {old env : List Sl} {i : Nat} : ∀ {vs : List Nat}, i ∈ vs → i < env.length → (unwipe old env vs)[i]? = some (noOwn (old.getD i none))
  | [], h, _ => by cases h
  | v :: vs, h, hl => by
    show ((unwipe old env vs).set v _)[i]? = _
    by_cases e : v = i
    · subst e; exact List.getElem?_set_self (by rw [unwipe_len]; exact hl)
    · rw [List.getElem?_set_ne e]
      exact unwipe_in ((List.mem_cons.mp h).resolve_left fun z => e z.symm) hl
theorem unwipe_out {old env : List Sl} {i : Nat} : ∀ {vs : List Nat}, i ∉ vs → (unwipe old env vs)[i]? = env[i]?
  | [], _ => rfl
  | v :: vs, h => by
    show ((unwipe old env vs).set v _)[i]? = _
    rw [List.getElem?_set_ne fun z => h (by rw [← z]; exact List.mem_cons_self)]
    exact unwipe_out fun z => h (List.mem_cons_of_mem _ z)
theorem noOwn_own {s : Sl} {es : List PyData} : noOwn s ≠ some (.own es) := by
  intro h
  cases s with
  | none => cases h
  | some r => cases r <;> cases h
theorem unwipe_own {old env : List Sl} {i : Nat} {vs : List Nat} {es : List PyData} (h : (unwipe old env vs)[i]? = some (some (.own es))) : i ∉ vs ∧ env[i]? = some (some (.own es)) := by
  by_cases hi : i ∈ vs
  · by_cases hl : i < env.length
    · rw [unwipe_in hi hl] at h
      exact absurd (Option.some.inj h) noOwn_own
    · rw [List.getElem?_eq_none (by rw [unwipe_len]; omega)] at h; cases h
  · rw [unwipe_out hi] at h; exact ⟨hi, h⟩
theorem wipe_eq {σ σ' : L2.St} {vs : List Nat} (hl : σ'.length = σ.length) (h : ∀ j, j ∉ vs → σ'[j]? = σ[j]?) : wipe σ' vs = wipe σ vs := by
  apply List.ext_getElem?
  intro i
  by_cases hi : i ∈ vs
  · by_cases hb : i < σ.length
    · rw [wipe_in hi hb, wipe_in hi (by rw [hl]; exact hb)]
    · rw [List.getElem?_eq_none (by rw [wipe_length, hl]; omega), List.getElem?_eq_none (by rw [wipe_length]; omega)]
  · rw [wipe_out hi, wipe_out hi, h i hi]
section
variable {P : Par} {σ : L2.St} {H D : Hp} {g : G} {own : List Nat}
theorem Rel.wipe (R : Rel P D g σ H) : Rel P D { g with env := wipeE g.env own } (L2.wipe σ own) H := by
  refine ⟨R.sub, R.old, R.new, by rw [wipeE_len, wipe_length]; exact R.len, fun i sl h => ?_, fun i j p es fs h1 h2 e1 e2 => ?_, R.box⟩
  · by_cases hi : i ∈ own
    · by_cases hl : i < g.env.length
      · rw [wipeE_in hi hl] at h; cases h; trivial
      · rw [List.getElem?_eq_none (by rw [wipeE_len]; omega)] at h; cases h
    · rw [wipeE_out hi] at h
      rw [wipe_out hi]
      exact R.slot i sl h
  · obtain ⟨n1, k1⟩ := wipeE_own h1
    obtain ⟨n2, k2⟩ := wipeE_own h2
    rw [wipe_out n1] at e1
    rw [wipe_out n2] at e2
    exact R.dis i j p es fs k1 k2 e1 e2
/-- a list that nobody tells of is written -/
theorem Rel.writeL (R : Rel P D g σ H) {L : Addr} {o : HO} (nD : D L = none) (n0 : P.H0 L = none) (nB : P.B ≠ some L) (F : Free g σ L) : Rel P D g σ (upd H L o) := by
  refine ⟨fun b u h => by rw [upd_ne (ne_of_none h nD)]; exact R.sub b u h, fun b u h n => by rw [upd_ne (ne_of_none h n0)]; exact R.old b u h n, R.new, R.len, fun i sl h => ?_, R.dis, fun a ha => ?_⟩
  · have q := R.slot i sl h
    cases sl with
    | none => trivial
    | some rv =>
      cases rv with
      | dat d => exact q
      | box => exact q
      | own ds =>
        obtain ⟨p, xs, q1, o'⟩ := q
        have : p ≠ L := by intro z; exact F i ds h (by rw [← z]; exact q1)
        exact ⟨p, xs, q1, ⟨by rw [upd_ne this]; exact o'.at_, o'.all, o'.no, o'.new, o'.nb⟩⟩
  · obtain ⟨x, y, z, h1, h2, h3⟩ := R.box a ha
    have : a ≠ L := by intro z; exact nB (by rw [← z]; exact ha)
    exact ⟨x, y, z, h1, by rw [upd_ne this]; exact h2, h3⟩
end
/-- since the block began -/
structure Since (P : Par) (own : List Nat) (D1 : Hp) (g1 : G) (σ : L2.St) (H1 Dk : Hp) (gk : G) (H : Hp) : Prop where
  mono : Sub D1 Dk
  keep : ∀ b o, H1 b = some o → P.B ≠ some b → H b = some o
  fresh : ∀ b o, H1 b = some o → P.B ≠ some b → D1 b = none → Free g1 σ b → Dk b = none
  owns : ∀ (j : Nat) (es : List PyData), j ∉ own → gk.env[j]? = some (some (.own es)) → g1.env[j]? = some (some (.own es))
section
variable {P : Par} {own : List Nat} {D1 H1 Dk H : Hp} {g1 gk : G} {σ : L2.St}
theorem Since.free (S : Since P own D1 g1 σ H1 Dk gk H) {b : Addr} (F : Free g1 σ b) : Free { gk with env := wipeE gk.env own } (wipe σ own) b := fun j es h e => by
  obtain ⟨n1, k1⟩ := wipeE_own (env := gk.env) h
  rw [wipe_out n1] at e
  exact F j es (S.owns j es n1 k1) e
/-- a turn's parts carry it on -/
theorem Since.step {D2 H2 : Hp} {g2 : G} (S : Since P own D1 g1 σ H1 Dk gk H) (mono : Sub Dk D2) (keep : ∀ b o, H b = some o → P.B ≠ some b → H2 b = some o)
    (fresh : ∀ b o, H b = some o → P.B ≠ some b → Dk b = none → Free { gk with env := wipeE gk.env own } (wipe σ own) b → D2 b = none)
    (owns : ∀ (j : Nat) (es : List PyData), g2.env[j]? = some (some (.own es)) → (wipeE gk.env own)[j]? = some (some (.own es))) : Since P own D1 g1 σ H1 D2 g2 H2 :=
  ⟨S.mono.trans mono, fun b o h n => keep b o (S.keep b o h n) n, fun b o h n d F => fresh b o (S.keep b o h n) n (S.fresh b o h n d F) (S.free F), fun j es hj h => S.owns j es hj (wipeE_own (owns j es h)).2⟩
end

section
variable {Γ : Ck} {X : Cx} {cal : Cal} {f : Fx} {a b c : E} {ea eb ec : Expr} {pos : Pos}
theorem CxOk.blk {scope : Scope} {fp : List Addr} {cl : List (Str × Addr)} {A : Addr} {s : Shared} {H : Hp} (C : CxOk Γ X cal) : CxOk (Γ.blk scope) (X.blk s H scope (compEnvC scope cl A X.env) fp) cal where
  N := C.N
  nd := C.nd
  sc := by show relS scope X.env.scope = _; rw [C.sc]; rfl
  calm := C.calm
  units := C.units
  tgs := fun x => ⟨fun h => lookup_relS_keep (sc := X.env.scope) (by decide) h, fun h => ⟨lookup_relS_keep (sc := X.env.scope) (by decide) h, by
    show (scope.names.lookup x == some NameKind.cell) = true
    have h : scope.names.lookup x = some NameKind.cell := h
    rw [h]; rfl⟩⟩
  fns := fun i x ps h => C.fns i x ps h
  bls := C.bls
  cns := C.cns
/-- the reading of a clause's tests -/
def tCond (P : Par) (cal : Cal) (c : E) : TT := if isNo c = true then tYes else tT P cal c
theorem ownOf_snd (N : List Str) (own : List Nat) : (ownOf N own).map (·.2) = own := by
  unfold ownOf
  rw [List.map_map]
  exact List.map_id _
theorem lc_inv {own : List Nat} {src elt : E} {tg : Tg} {g g' : G} {r : RV} (ev : evE cal (.lc own src tg c elt) g = some (r, g')) :
    ∃ ds g1 ys g2, evI cal src g = some (ds, g1) ∧ szOk ds.length = true ∧ lcL own (lcStep tg (condOf (isNo c) fun g => evE cal c g) fun g => evE cal elt g) ds g1 [] = some (ys, g2) ∧ r = .own ys ∧ g' = { g2 with env := unwipe g1.env g2.env own } := by
  simp only [evE] at ev
  split at ev
  · rename_i ds g1 e1
    split at ev
    · rename_i hz
      split at ev
      · rename_i ys g2 e2
        cases ev
        exact ⟨ds, g1, ys, g2, e1, hz, e2, rfl, rfl⟩
      · cases ev
    · cases ev
  · cases ev
theorem cond_run {P : Par} {no : Bool} {σ : L2.St} {D H : Hp} {g g' : G} {k : Bool} {Q : Bool → Hp → Prop} (hn : isNo c = no) (R : Rel P D g σ H) (ev : condOf no (fun g => evE cal c g) g = some (k, g'))
    (q : ∀ D' H', Rel P D' g' σ H' → Post P D g σ H D' g' H' → Q k H') : tCond P cal c σ H Q := by
  subst hn
  unfold tCond
  unfold condOf at ev
  by_cases h : isNo c = true
  · rw [if_pos h] at ev ⊢
    cases ev
    exact q D H R Post.refl
  · rw [if_neg h] at ev ⊢
    split at ev
    · rename_i x g1 e1
      obtain ⟨t, h2, h3⟩ := map_some ev
      cases h3
      exact ⟨D, g, x, g', k, R, e1, h2, q⟩
    · cases ev
theorem lc_read {own : List Nat} {src elt : E} {tg : Tg} {σ : L2.St} {H0 : Hp} {Q : VK} {P : Par} (ht : tgIn own tg = true) (q : tE P cal (.lc own src tg c elt) σ H0 Q) :
    tLc (tI P cal src) (gT P.K tg) (tCond P cal c) (tE P cal elt) own σ H0 Q := by
  obtain ⟨D0, g0, r, g', R0, ev, k⟩ := q
  obtain ⟨ds, g1, ys, g2, e1, hz, e2, rfl, rfl⟩ := lc_inv ev
  refine ⟨D0, g0, ds, g1, R0, e1, fun J D1 H1 R1 A1 W L nL => ?_⟩
  have nB : P.B ≠ some L := R1.noB nL
  have n0 : P.H0 L = none := R1.no0 nL
  have FL : Free g1 σ L := R1.free nL
  have tgI : ∀ j, j ∉ own → j ∉ tgIs tg := fun j hj hm => by
    cases tg with
    | nm i =>
      have : j = i := List.mem_singleton.mp hm
      subst this
      unfold tgIn at ht
      exact hj (by simpa using ht)
    | tp is =>
      unfold tgIn at ht
      exact hj (by simpa using List.all_eq_true.mp ht j hm)
    | tq ts =>
      unfold tgIn at ht
      exact hj (by simpa using List.all_eq_true.mp ht j hm)
  refine ⟨fun i m H => m = ds.length - i ∧ i ≤ ds.length ∧ ∃ Dk gk acc xs, Rel P Dk { gk with env := wipeE gk.env own } (wipe σ own) H ∧ gk.env.length = g1.env.length ∧ Since P own D1 g1 σ H1 Dk gk H ∧
      H L = some (.lst xs) ∧ DqAll P.K Dk xs acc ∧ Dk L = none ∧ xs.length ≤ i ∧
      lcL own (lcStep tg (condOf (isNo c) fun g => evE cal c g) fun g => evE cal elt g) (ds.drop i) gk acc = some (ys, g2),
    ⟨ds.length, rfl, Nat.zero_le _, D1, g1, [], [], (R1.wipe).pushH nL, rfl, ⟨Sub.refl _, fun b o h _ => by rw [upd_ne (ne_of_none h nL)]; exact h, fun _ _ _ _ h _ => h, fun _ _ _ h => h⟩, upd_same, .nil, R1.sub.clear nL, Nat.le_refl _, e2⟩, ?_⟩
  rintro i m H ⟨rfl, hi, Dk, gk, acc, xs, Rk, gl, S, hL, al, nDL, hxs, el⟩
  have FLk : Free { gk with env := wipeE gk.env own } (wipe σ own) L := S.free FL
  by_cases hlt : i < ds.length
  · refine .inr ⟨W.goes Dk H i S.mono Rk.sub hlt, fun H' => i + 1 ≤ ds.length ∧ ∃ Dk gk acc xs, Rel P Dk { gk with env := wipeE gk.env own } (wipe σ own) H' ∧ gk.env.length = g1.env.length ∧ Since P own D1 g1 σ H1 Dk gk H' ∧
      H' L = some (.lst xs) ∧ DqAll P.K Dk xs acc ∧ Dk L = none ∧ xs.length ≤ i + 1 ∧
      lcL own (lcStep tg (condOf (isNo c) fun g => evE cal c g) fun g => evE cal elt g) (ds.drop (i + 1)) gk acc = some (ys, g2), fun H' h => ⟨ds.length - (i + 1), by omega, rfl, h.1, h.2⟩, fun x H2 y => ?_⟩
    obtain ⟨d, D2, hd, res⟩ := W.yields Dk H i x H2 S.mono Rk.sub hlt y
    obtain ⟨R2, A2, q2⟩ := Res.go Rk res
    have q2 : Dq P.K D2 x d := q2
    -- the evaluator's turn
    have dr : ds.drop i = d :: ds.drop (i + 1) := by
      rw [List.drop_eq_getElem_cons hlt]
      rw [List.getElem?_eq_getElem hlt] at hd
      rw [Option.some.inj hd]
    rw [dr] at el
    unfold lcL at el
    have el2 : ∃ o gs, lcStep tg (condOf (isNo c) fun g => evE cal c g) (fun g => evE cal elt g) d { gk with env := wipeE gk.env own } = some (o, gs) ∧
        lcL own (lcStep tg (condOf (isNo c) fun g => evE cal c g) fun g => evE cal elt g) (ds.drop (i + 1)) gs (match o with | some y => acc ++ [y] | none => acc) = some (ys, g2) := by
      split at el
      · rename_i y gs e; exact ⟨some y, gs, e, el⟩
      · rename_i gs e; exact ⟨none, gs, e, el⟩
      · cases el
    obtain ⟨o, gs, es, el2⟩ := el2
    unfold lcStep at es
    split at es
    · cases es
    · rename_i env hb
      split at es
      · cases es
      all_goals
        rename_i g3 hc
        refine gT_run R2 q2 hb fun σ2 R3 B => ⟨?_, ?_⟩
        · have hw : wipe σ2 own = wipe (wipe σ own) own := wipe_eq B.len fun j hj => B.out j (tgI j hj)
          rw [hw]
          exact wipe_eq (wipe_length _ _) fun j hj => wipe_out hj
        refine cond_run rfl R3 hc fun D4 H4 R4 A4 => ?_
        have hw : wipe σ2 own = wipe σ own := by
          rw [wipe_eq B.len fun j hj => B.out j (tgI j hj)]
          exact wipe_eq (wipe_length _ _) fun j hj => wipe_out hj
        have mono4 : Sub Dk D4 := A2.mono.trans A4.mono
        have keep4 : ∀ b o, H b = some o → P.B ≠ some b → H4 b = some o := fun b o h n => A4.keep b o (A2.keep b o h n) n
        have fresh4 : ∀ b o, H b = some o → P.B ≠ some b → Dk b = none → Free { gk with env := wipeE gk.env own } (wipe σ own) b → D4 b = none := fun b o h n d F =>
          A4.fresh b o (A2.keep b o h n) n (A2.fresh b o h n d F) (B.free b F)
        have owns4 : ∀ (j : Nat) (es : List PyData), g3.env[j]? = some (some (.own es)) → (wipeE gk.env own)[j]? = some (some (.own es)) := fun j es h => B.owns j es (A4.owns j es h)
      · -- left out
        cases es
        refine iteF ⟨hlt, D4, gs, acc, xs, ?_, ?_, S.step mono4 keep4 fresh4 owns4, keep4 L _ hL nB, al.mono mono4, fresh4 L _ hL nB nDL FLk, by omega, el2⟩
        · rw [← hw]; exact R4.wipe
        · have h1 := R4.len
          have h2 := B.len
          have h3 := R1.len
          rw [wipe_length] at h2
          omega
      · -- kept
        split at es
        · cases es
        · rename_i xv g5 he
          obtain ⟨y, hy, e5⟩ := map_some es
          cases e5
          refine iteT (shared R4 he hy fun vy D5 H5 R5 A5 q5 => ⟨xs, A5.keep L _ (keep4 L _ hL nB) nB, ?_, hlt, D5, gs, acc ++ [y], xs ++ [vy], ?_, ?_, ?_, upd_same, ?_, ?_, ?_, el2⟩)
          · have := szOk_le hz
            omega
          · have FG : Free { gs with env := wipeE gs.env own } (wipe σ own) L := fun j es h e => by
              obtain ⟨n1, k1⟩ := wipeE_own (env := gs.env) h
              have k2 := owns4 j es (A5.owns j es k1)
              exact FLk j es k2 e
            have d5 : D5 L = none := A5.fresh L _ (keep4 L _ hL nB) nB (fresh4 L _ hL nB nDL FLk) (A4.free (B.free L FLk))
            have R6 := R5.wipe (own := own)
            rw [hw] at R6
            exact R6.writeL d5 n0 nB FG
          · have h1 := R5.len
            have h2 := B.len
            have h3 := R1.len
            rw [wipe_length] at h2
            omega
          · refine ⟨S.mono.trans (mono4.trans A5.mono), fun b o h n => ?_, fun b o h n d F => ?_, fun j es hj h => ?_⟩
            · rw [upd_ne (ne_of_none h nL)]
              exact A5.keep b o (keep4 b o (S.keep b o h n) n) n
            · have Fk := S.free F
              exact A5.fresh b o (keep4 b o (S.keep b o h n) n) n (fresh4 b o (S.keep b o h n) n (S.fresh b o h n d F) Fk) (A4.free (B.free b Fk))
            · exact S.owns j es hj (wipeE_own (owns4 j es (A5.owns j es h))).2
          · exact (al.mono (mono4.trans A5.mono)).append (.cons q5 .nil)
          · exact A5.fresh L _ (keep4 L _ hL nB) nB (fresh4 L _ hL nB nDL FLk) (A4.free (B.free L FLk))
          · rw [List.length_append]; simp; omega
  · have e : i = ds.length := by omega
    subst e
    rw [List.drop_length] at el
    cases el
    refine .inl ⟨W.stops Dk H S.mono Rk.sub, ?_⟩
    have R' : Rel P Dk { g2 with env := unwipe g1.env g2.env own } σ H := by
      refine ⟨Rk.sub, Rk.old, Rk.new, by rw [unwipe_len, gl]; exact R1.len, fun j sl h => ?_, fun j l p es fs h1 h2 q1 q2 => ?_, Rk.box⟩
      · by_cases hj : j ∈ own
        · by_cases hl : j < g2.env.length
          · rw [unwipe_in hj hl] at h
            cases h
            have hg : g1.env[j]? = some (g1.env.getD j none) := by
              rw [gl] at hl
              rw [List.getElem?_eq_getElem hl, List.getD_eq_getElem?_getD, List.getElem?_eq_getElem hl]; rfl
            have q := R1.slot j _ hg
            generalize g1.env.getD j none = s at q
            cases s with
            | none => trivial
            | some rv =>
              cases rv with
              | dat d => obtain ⟨v, a1, a2⟩ := q; exact ⟨v, a1, a2.mono S.mono⟩
              | box => exact q
              | own es => trivial
          · rw [List.getElem?_eq_none (by rw [unwipe_len]; omega)] at h; cases h
        · rw [unwipe_out hj] at h
          have q := Rk.slot j sl (by show (wipeE g2.env own)[j]? = _; rw [wipeE_out hj]; exact h)
          rw [wipe_out hj] at q
          exact q
      · obtain ⟨n1, k1⟩ := unwipe_own h1
        obtain ⟨n2, k2⟩ := unwipe_own h2
        exact Rk.dis j l p es fs (by show (wipeE g2.env own)[j]? = _; rw [wipeE_out n1]; exact k1) (by show (wipeE g2.env own)[l]? = _; rw [wipeE_out n2]; exact k2) (by rw [wipe_out n1]; exact q1) (by rw [wipe_out n2]; exact q2)
    have A' : Post P D1 g1 σ H1 Dk { g2 with env := unwipe g1.env g2.env own } H := ⟨S.mono, S.keep, S.fresh, fun j es h => by
      obtain ⟨n1, k1⟩ := unwipe_own (env := g2.env) h
      exact S.owns j es n1 k1⟩
    exact k (.ref L) Dk H R' (A1.trans A') ⟨L, xs, rfl, ⟨hL, al, nDL, n0, nB⟩, A'.free FL, A1.back R0 R1 nL⟩
end
end PX
set_option Elab.async false
set_option autoImplicit false
set_option maxRecDepth 100000
set_option maxHeartbeats 4100000
/-! PXI: every expression that passes the checker. -/
namespace PX
open PySem.Spec L2 PyProof.Rows PySem
section
variable {Γ : Ck} {X : Cx} {cal : Cal} {f : Fx} {a b c : E} {ea eb ec : Expr} {pos : Pos}

/-! ### keywords -/
theorem evA_len : ∀ {a : E} {es : List Expr} {g g' : G} {rs : List RV}, ckA Γ a es = true → evA cal a g = some (rs, g') → rs.length = es.length
  | .nil, [], g, g', rs, h, e => by cases e; rfl
  | .nil, _ :: _, _, _, _, h, _ => by simp [ckA] at h
  | .cons a r, [], _, _, _, h, _ => by simp [ckA] at h
  | .cons a r, x :: es, g, g', rs, h, e => by
    simp only [ckA, Bool.and_eq_true] at h
    simp only [evA] at e
    split at e
    · split at e
      · rename_i h2
        cases e
        rw [List.length_cons, List.length_cons, evA_len h.2 h2]
      · cases e
    · cases e
  | .var _, _, _, _, _, h, _ => by simp [ckA] at h
  | .con _, _, _, _, _, h, _ => by simp [ckA] at h
  | .bin _ _ _, _, _, _, _, h, _ => by simp [ckA] at h
  | .neg _, _, _, _, _, h, _ => by simp [ckA] at h
  | .not _, _, _, _, _, h, _ => by simp [ckA] at h
  | .cmp _ _ _, _, _, _, _, h, _ => by simp [ckA] at h
  | .chain _ _ _ _ _, _, _, _, _, h, _ => by simp [ckA] at h
  | .and _ _, _, _, _, _, h, _ => by simp [ckA] at h
  | .or _ _, _, _, _, _, h, _ => by simp [ckA] at h
  | .ite _ _ _, _, _, _, _, h, _ => by simp [ckA] at h
  | .tup _, _, _, _, _, h, _ => by simp [ckA] at h
  | .lst _, _, _, _, _, h, _ => by simp [ckA] at h
  | .call _ _, _, _, _, _, h, _ => by simp [ckA] at h
  | .callk _ _ _ _, _, _, _, _, h, _ => by simp [ckA] at h
  | .bl _ _, _, _, _, _, h, _ => by simp [ckA] at h
  | .len _, _, _, _, _, h, _ => by simp [ckA] at h
  | .bits _, _, _, _, _, h, _ => by simp [ckA] at h
  | .isi _ _, _, _, _, _, h, _ => by simp [ckA] at h
  | .sub _ _, _, _, _, _, h, _ => by simp [ckA] at h
  | .slc _ _ _, _, _, _, _, h, _ => by simp [ckA] at h
  | .no, _, _, _, _, h, _ => by simp [ckA] at h
  | .lc _ _ _ _ _, _, _, _, _, h, _ => by simp [ckA] at h
  | .rng1 _, _, _, _, _, h, _ => by simp [ckA] at h
  | .rng2 _ _, _, _, _, _, h, _ => by simp [ckA] at h
  | .zip _ _, _, _, _, _, h, _ => by simp [ckA] at h
  | .callb _ _, _, _, _, _, h, _ => by simp [ckA] at h
  | .sset _, _, _, _, _, h, _ => by simp [ckA] at h
  | .rev _, _, _, _, _, h, _ => by simp [ckA] at h
  | .lrngw _ _, _, _, _, _, h, _ => by simp [ckA] at h
  | .enum _, _, _, _, _, h, _ => by simp [ckA] at h
  | .lrng _, _, _, _, _, h, _ => by simp [ckA] at h
  | .it _, _, _, _, _, h, _ => by simp [ckA] at h
theorem ArgsOk.perm {P : Par} {D : Hp} {xs : List V} {rs : List RV} (h : ArgsOk P D xs rs) : ∀ {pm : List Nat} {vs : List RV}, permL pm rs = some vs → ArgsOk P D (pm.filterMap fun i => xs[i]?) vs
  | [], vs, e => by
    have e : some ([] : List RV) = some vs := e
    cases e; exact .nil
  | i :: pm, vs, e => by
    unfold permL at e
    rw [List.mapM_cons] at e
    cases h1 : rs[i]? with
    | none => rw [h1] at e; cases e
    | some r =>
      rw [h1] at e
      cases h2 : pm.mapM fun i => rs[i]? with
      | none =>
        rw [h2] at e; cases e
      | some ws =>
        rw [h2] at e
        have e : some (r :: ws) = some vs := e
        cases e
        obtain ⟨x, hx, ax⟩ := h.get h1
        rw [List.filterMap_cons, hx]
        exact .cons ax (ArgsOk.perm h h2)
theorem kw_facts {env : Env} {pos : Pos} : ∀ {kws : List Keyword} {ks : List Str}, kwNames kws = some ks →
    (backToKw pos (keywordEach kws env)).all (·.1.isSome) = true ∧ (backToKw pos (keywordEach kws env)).filterMap (·.1) = ks ∧ (backToKw pos (keywordEach kws env)).any (·.1.isNone) = false ∧ ks.length = kws.length
  | [], ks, h => by cases h; exact ⟨rfl, rfl, rfl, rfl⟩
  | ⟨none, e, p⟩ :: r, ks, h => by cases h
  | ⟨some x, e, p⟩ :: r, ks, h => by
    obtain ⟨ks', h1, h2⟩ := map_some h
    subst h2
    obtain ⟨q1, q2, q3, q4⟩ := kw_facts (env := env) (pos := pos) h1
    refine ⟨?_, ?_, ?_, by rw [List.length_cons, List.length_cons, q4]⟩
    · show (true && (backToKw pos (keywordEach r env)).all _) = true
      rw [q1]; rfl
    · show x :: (backToKw pos (keywordEach r env)).filterMap _ = _
      rw [q2]
    · show (false || (backToKw pos (keywordEach r env)).any _) = false
      rw [q3]; rfl
theorem k_nil : PK X [] (tA (mkP X.K f) cal .nil) := PK_imp pk_nil fun σ H Q ⟨D, g, rs, g', R, ev, k⟩ => by
  cases ev
  exact k [] D H R Post.refl .nil
theorem k_cons {r : E} {nm : Option Str} {kpos : Pos} {kws : List Keyword} (ha : PE X ea (tE (mkP X.K f) cal a)) (hr : PK X kws (tA (mkP X.K f) cal r)) : PK X (⟨nm, ea, kpos⟩ :: kws) (tA (mkP X.K f) cal (.cons a r)) := by
  refine PK_imp (pk_cons ha hr) fun σ H Q ⟨D, g, rs, g', R, ev, k⟩ => ?_
  simp only [evA] at ev
  split at ev
  · rename_i x g1 e1
    split at ev
    · rename_i xs g2 e2
      cases ev
      refine ⟨D, g, x, g1, R, e1, fun vx D1 H1 R1 A1 rv => ?_⟩
      obtain ⟨D1', R1', A1', s, q⟩ := rv.arg R1 A1
      exact ⟨D1', g1, xs, g', R1', e2, fun vs D2 H2 R2 A2 qs => k (vx :: vs) D2 H2 R2 (A1'.trans A2) (.cons (q.mono A2.mono) qs)⟩
    · cases ev
  · cases ev
theorem pe_callK0 {CX : CXT} {k : Nat} {fa : Addr} {fd : FuncData} {ps ks : List Str} {sp : Sp} {E : XK} {x : Str} {p : Pos} {kws : List Keyword} {tk : TA} {gg : List Value → List Value → List Value} {gV : List V → List V → List V}
    (F : FnOk X.prog X.w X.K X.mg X.base CX k fa fd ps sp) (hr : Room k X.A) (hg : Gl X x) (hm : X.mg x = some (.ref fa)) (hk : PySem.W.keepIn X.K (.ref fa) = true) (hb : KBinds X.K fd ps ks gg gV) (hx : Passes CX X E)
    (hkw : PK X kws tk) (hall : (backToKw pos (keywordEach kws X.env)).all (·.1.isSome) = true) (hks : (backToKw pos (keywordEach kws X.env)).filterMap (·.1) = ks) (hdb : (x == ("__debug__" : Str)) = false)
    (hpl : ((backTo pos (starEach [] X.env)).any (·.1) || (backToKw pos (keywordEach kws X.env)).any (·.1.isNone)) = false) :
    PE X (.Call (.Name x p) [] kws pos) (tCallK sp gV E tNil tk) := by
  refine ⟨fun pins s σ H Q I h => ?_⟩
  refine wpAny_Call_Name_kw (ld_glob I hg hm ?_ hdb)
  refine PySem.W.callWith_KW0 (h₀ := X.base) I.ok.mod.kin hk hall (thn (hkw.run pos pins s σ H _ I h) fun ws s2 ⟨zs, H2, I2, rz, q2⟩ => ⟨I2.kIn, ?_⟩) hpl
  rw [hks]
  exact run_fnk F hr hb hx I2 .nil rz q2
theorem conv_args {K : PySem.W.Frag} {f : Fx} {D H : Hp} : ∀ {xs : List V} {rs : List RV}, ArgsOk (mkP K f) D xs rs → ArgsOk ⟨K, f.B, H, D⟩ D xs rs
  | _, _, .nil => .nil
  | _, _, .cons h t => .cons h (conv_args t)
theorem e_callk {i : Nat} {k : E} {pm : List Nat} {x : Str} {ps ks : List Str} {es : List Expr} {kws : List Keyword} {p : Pos} (C : CxOk Γ X cal) (hf : Γ.fns[i]? = some (x, ps)) (hg : Γ.glob x = true) (hkn : kwNames kws = some ks)
    (hpm : pm = permOf ps es.length ks) (hin : (i, es.length, ks) ∈ Γ.kwl) (hka : ckA Γ a es = true) (hkk : ckA Γ k (kws.map (·.value)) = true) (ha : PA X es (tA (mkP X.K f) cal a)) (hk : PK X kws (tA (mkP X.K f) cal k)) :
    PE X (.Call (.Name x p) es kws pos) (tE (mkP X.K f) cal (.callk i a k pm)) := by
  subst hpm
  obtain ⟨fa, fd, kk, m1, m2, m3, m4, m5, m6⟩ := C.fns i x ps hf
  obtain ⟨gl, g2, _⟩ := gl_of C hg
  have KB := m6 es.length ks hin
  obtain ⟨q1, q2, q3, q4⟩ := kw_facts (env := X.env) (pos := pos) hkn
  have red : ∀ (σ : L2.St) (H : Hp) (Q : VK), tE (mkP X.K f) cal (.callk i a k (permOf ps es.length ks)) σ H Q →
      tCallK (spF cal X.K i) (selL es.length ks.length (permOf ps es.length ks)) E0 (tA (mkP X.K f) cal a) (tA (mkP X.K f) cal k) σ H Q := fun σ H Q ⟨D, g, r, g', R, ev, kq⟩ => by
    simp only [evE] at ev
    split at ev
    · rename_i rs g1 e1
      split at ev
      · rename_i ss g3 e2
        split at ev
        · rename_i vs hp
          obtain ⟨rr, h2, h3⟩ := map_some ev
          cases h3
          obtain ⟨r2, b2⟩ := rr
          refine ⟨D, g, rs, g1, R, e1, fun xs D1 H1 R1 A1 q => ⟨D1, g1, ss, g3, R1, e2, fun zs D2 H2 R2 A2 q' => ?_⟩⟩
          have l1 : xs.length = es.length := by rw [q.len]; exact evA_len hka e1
          have l2 : zs.length = ks.length := by rw [q'.len, q4]; have := evA_len hkk e2; rw [List.length_map] at this; exact this
          have sel : selL es.length ks.length (permOf ps es.length ks) xs zs = (permOf ps es.length ks).filterMap fun i => (xs ++ zs)[i]? := by
            unfold selL; rw [if_pos ⟨l1, l2⟩]
          show spF cal X.K i (selL es.length ks.length (permOf ps es.length ks) xs zs) H2 Q E0
          rw [sel]
          have al := ((q.mono A2.mono).append q').perm hp
          refine ⟨f.B, D2, vs, g3.bx, r2, b2, R2.sub, R2.box, conv_args al, h2, fun z D' H' ro => ?_⟩
          obtain ⟨R3, A3, rv⟩ := RetOk.go R2 ro
          exact kq z D' H' R3 ((A1.trans A2).trans A3) (rv.back fun p n => (A1.trans A2).back R R2 n)
        · cases ev
      · cases ev
    · cases ev
  cases es with
  | nil =>
    have hn : a = .nil := by
      cases a <;> first | rfl | (simp [ckA] at hka)
    subst hn
    refine PE_imp (pe_callK0 m5 m4 gl m1 m2 KB pass0 hk q1 q2 g2 (by rw [q3]; rfl)) fun σ H Q q => ?_
    obtain ⟨D, g, rs, g1, R, e1, kq⟩ := red σ H Q q
    cases e1
    exact kq [] D H R Post.refl .nil
  | cons e es =>
    obtain ⟨b, r, rfl, k1, k2⟩ := ckA_cons hka
    refine PE_imp (pe_callK m5 m4 gl m1 m2 KB pass0 ha hk q1 q2 g2 (star_of k1) ?_) red
    rw [q3, plain_of (es := e :: es) hka pos]; rfl

/-! ### all of them -/
structure Snd (cal : Cal) (E : E) : Prop where
  e : ∀ (Γ : Ck) (X : Cx) (f : Fx) (x : Expr), CxOk Γ X cal → ckE Γ E x = true → PE X x (tE (mkP X.K f) cal E)
  t : ∀ (Γ : Ck) (X : Cx) (f : Fx) (x : Expr), CxOk Γ X cal → ckE Γ E x = true → PT X x (tT (mkP X.K f) cal E)
  w : ∀ (Γ : Ck) (X : Cx) (f : Fx) (op : BoolOp) (vs : List Expr) (pos : Pos), CxOk Γ X cal → ckE Γ E (.BoolOp op vs pos) = true → PW X (.BoolOp op vs pos) (tT (mkP X.K f) cal E)
  a : ∀ (Γ : Ck) (X : Cx) (f : Fx) (es : List Expr), CxOk Γ X cal → ckA Γ E es = true → PA X es (tA (mkP X.K f) cal E)
  k : ∀ (Γ : Ck) (X : Cx) (f : Fx) (kws : List Keyword), CxOk Γ X cal → ckA Γ E (kws.map (·.value)) = true → PK X kws (tA (mkP X.K f) cal E)
  i : ∀ (Γ : Ck) (X : Cx) (f : Fx) (tg x : Expr), CxOk Γ X cal → ckI Γ tg E x = true → PI X tg x (tI (mkP X.K f) cal E)
  r : ∀ (Γ : Ck) (X : Cx) (f : Fx) (x : Expr) (p pos : Pos), CxOk Γ X cal → ckR Γ E x = true → Γ.blt "list" = true → PE X (.Call (.Name "list" p) [x] [] pos) (tE (mkP X.K f) cal (.lrng E))
/-- of an expression that is neither a list of arguments nor a walk -/
theorem Snd.of {E : E} (h1 : ∀ (Γ : Ck) (es : List Expr), ckA Γ E es = false) (h2 : ∀ (Γ : Ck) (tg x : Expr), ckI Γ tg E x = false) (h3 : ∀ (Γ : Ck) (x : Expr), ckR Γ E x = false)
    (h4 : ∀ (Γ : Ck) (op : BoolOp) (vs : List Expr) (pos : Pos), ckE Γ E (.BoolOp op vs pos) = false)
    (he : ∀ (Γ : Ck) (X : Cx) (f : Fx) (x : Expr), CxOk Γ X cal → ckE Γ E x = true → PE X x (tE (mkP X.K f) cal E))
    (ht : ∀ (Γ : Ck) (X : Cx) (f : Fx) (x : Expr), CxOk Γ X cal → ckE Γ E x = true → PE X x (tE (mkP X.K f) cal E) → PT X x (tT (mkP X.K f) cal E)) : Snd cal E :=
  ⟨he, fun Γ X f x C h => ht Γ X f x C h (he Γ X f x C h), fun Γ X f op vs pos C h => (by rw [h4] at h; cases h), fun Γ X f es C h => (by rw [h1] at h; cases h), fun Γ X f es C h => (by rw [h1] at h; cases h), fun Γ X f tg x C h => (by rw [h2] at h; cases h), fun Γ X f x p pos C h => (by rw [h3] at h; cases h)⟩
theorem Snd.src {E : E} (h1 : ∀ (Γ : Ck) (x : Expr), ckE Γ E x = false) (h2 : ∀ (Γ : Ck) (es : List Expr), ckA Γ E es = false)
    (hi : ∀ (Γ : Ck) (X : Cx) (f : Fx) (tg x : Expr), CxOk Γ X cal → ckI Γ tg E x = true → PI X tg x (tI (mkP X.K f) cal E))
    (hr : ∀ (Γ : Ck) (X : Cx) (f : Fx) (x : Expr) (p pos : Pos), CxOk Γ X cal → ckR Γ E x = true → Γ.blt "list" = true → PE X (.Call (.Name "list" p) [x] [] pos) (tE (mkP X.K f) cal (.lrng E))) : Snd cal E :=
  ⟨fun Γ X f x C h => (by rw [h1] at h; cases h), fun Γ X f x C h => (by rw [h1] at h; cases h), fun Γ X f op vs pos C h => (by rw [h1] at h; cases h), fun Γ X f es C h => (by rw [h2] at h; cases h), fun Γ X f es C h => (by rw [h2] at h; cases h), hi, hr⟩
/-- a test of an expression whose own test is its value's truth -/
theorem tany {E : E} (h : ∀ (x : Expr) (env : Env) (Γ : Ck), ckE Γ E x = true → ∀ whole, isTrue x env whole = (do let v ← whole; standAt x.pos; holding [v] (truthy v))) :
    ∀ (Γ : Ck) (X : Cx) (f : Fx) (x : Expr), CxOk Γ X cal → ckE Γ E x = true → PE X x (tE (mkP X.K f) cal E) → PT X x (tT (mkP X.K f) cal E) := fun Γ X f x C hk hp => t_any hp (h x X.env Γ hk)
end
end PX
set_option Elab.async false
set_option autoImplicit false
set_option maxRecDepth 100000
set_option maxHeartbeats 8100000
/-! PXJ: the induction over all expressions. -/
namespace PX
open PySem.Spec L2 PyProof.Rows PySem
section
variable {cal : Cal}
theorem s_var (i : Nat) : Snd cal (.var i) := by
  refine .of (fun _ _ => by simp [ckA]) (fun _ _ _ => by simp [ckI]) (fun _ _ => by simp [ckR]) (fun _ _ _ _ => by simp [ckE]) (fun Γ X f x C h => ?_) (tany fun x env Γ h => ?_)
  · cases x <;> first | (simp [ckE] at h; done) | exact e_var C h
  · cases x <;> first | (simp [ckE] at h; done) | (intro _; rfl)
theorem s_con (d : PyData) : Snd cal (.con d) := by
  refine .of (fun _ _ => by simp [ckA]) (fun _ _ _ => by simp [ckI]) (fun _ _ => by simp [ckR]) (fun _ _ _ _ => by simp [ckE]) (fun Γ X f x C h => e_con C h) (tany fun x env Γ h => ?_)
  cases x <;> first | (simp [ckE] at h; done) | (intro _; rfl)
theorem s_bin {o : Bop} {a b : E} (sa : Snd cal a) (sb : Snd cal b) : Snd cal (.bin o a b) := by
  refine .of (fun _ _ => by simp [ckA]) (fun _ _ _ => by simp [ckI]) (fun _ _ => by simp [ckR]) (fun _ _ _ _ => by simp [ckE]) (fun Γ X f x C h => ?_) (tany fun x env Γ h => ?_)
  · cases x <;> first | (simp [ckE] at h; done) | skip
    simp only [ckE, Bool.and_eq_true, decide_eq_true_eq] at h
    obtain ⟨⟨rfl, h1⟩, h2⟩ := h
    exact e_bin (sa.e Γ X f _ C h1) (sb.e Γ X f _ C h2)
  · cases x <;> first | (simp [ckE] at h; done) | (intro _; rfl)
theorem s_neg {a : E} (sa : Snd cal a) : Snd cal (.neg a) := by
  refine .of (fun _ _ => by simp [ckA]) (fun _ _ _ => by simp [ckI]) (fun _ _ => by simp [ckR]) (fun _ _ _ _ => by simp [ckE]) (fun Γ X f x C h => ?_) (tany fun x env Γ h => ?_)
  · cases x <;> first | (simp [ckE] at h; done) | skip
    rename_i op y pos
    cases op <;> first | (simp [ckE] at h; done) | skip
    simp only [ckE] at h
    exact e_neg (sa.e Γ X f _ C h)
  · cases x <;> first | (simp [ckE] at h; done) | skip
    rename_i op y pos
    cases op <;> first | (simp [ckE] at h; done) | (intro _; rfl)
theorem s_not {a : E} (sa : Snd cal a) : Snd cal (.not a) := by
  refine .of (fun _ _ => by simp [ckA]) (fun _ _ _ => by simp [ckI]) (fun _ _ => by simp [ckR]) (fun _ _ _ _ => by simp [ckE]) (fun Γ X f x C h => ?_) (fun Γ X f x C h hp => ?_)
  · cases x <;> first | (simp [ckE] at h; done) | skip
    rename_i op y pos
    cases op <;> first | (simp [ckE] at h; done) | skip
    simp only [ckE] at h
    exact e_not (sa.e Γ X f _ C h)
  · cases x <;> first | (simp [ckE] at h; done) | skip
    rename_i op y pos
    cases op <;> first | (simp [ckE] at h; done) | skip
    simp only [ckE] at h
    exact t_not (sa.t Γ X f _ C h)
theorem s_cmp {o : Cop} {a b : E} (sa : Snd cal a) (sb : Snd cal b) : Snd cal (.cmp o a b) := by
  refine .of (fun _ _ => by simp [ckA]) (fun _ _ _ => by simp [ckI]) (fun _ _ => by simp [ckR]) (fun _ _ _ _ => by simp [ckE]) (fun Γ X f x C h => ?_) (fun Γ X f x C h hp => ?_)
  all_goals
    cases x <;> first | (simp [ckE] at h; done) | skip
    rename_i l ops cs pos
    rcases ops with _ | ⟨op, _ | ⟨op2, ops⟩⟩
    · simp [ckE] at h
    · rcases cs with _ | ⟨y, _ | ⟨y2, cs⟩⟩
      · simp [ckE] at h
      · simp only [ckE, Bool.and_eq_true, decide_eq_true_eq] at h
        obtain ⟨⟨rfl, h1⟩, h2⟩ := h
        first
          | exact e_cmp C.units (nm_of h2 _) (sa.e Γ X f _ C h1) (bo_of C h2 (sb.e Γ X f _ C h2))
          | exact t_cmp C.units (nm_of h2 _) (sa.e Γ X f _ C h1) (bo_of C h2 (sb.e Γ X f _ C h2))
      · simp [ckE] at h
    · rcases cs with _ | ⟨y, _ | ⟨y2, cs⟩⟩ <;> simp [ckE] at h
theorem s_chain {o p : Cop} {a b c : E} (sa : Snd cal a) (sb : Snd cal b) (sc : Snd cal c) : Snd cal (.chain o p a b c) := by
  refine .of (fun _ _ => by simp [ckA]) (fun _ _ _ => by simp [ckI]) (fun _ _ => by simp [ckR]) (fun _ _ _ _ => by simp [ckE]) (fun Γ X f x C h => ?_) (fun Γ X f x C h hp => ?_)
  all_goals
    cases x <;> first | (simp [ckE] at h; done) | skip
    rename_i l ops cs pos
    rcases ops with _ | ⟨op, _ | ⟨op2, _ | ⟨op3, ops⟩⟩⟩
    · simp [ckE] at h
    · rcases cs with _ | ⟨y, _ | ⟨y2, cs⟩⟩ <;> simp [ckE] at h
    · rcases cs with _ | ⟨y, _ | ⟨y2, _ | ⟨y3, cs⟩⟩⟩
      · simp [ckE] at h
      · simp [ckE] at h
      · simp only [ckE, Bool.and_eq_true, decide_eq_true_eq] at h
        obtain ⟨⟨⟨⟨rfl, rfl⟩, h1⟩, h2⟩, h3⟩ := h
        first
          | exact e_chain C.units (lm_of h2 h3) (sa.e Γ X f _ C h1) (sb.e Γ X f _ C h2) (sc.e Γ X f _ C h3)
          | exact t_chain C.units (lm_of h2 h3) (sa.e Γ X f _ C h1) (sb.e Γ X f _ C h2) (sc.e Γ X f _ C h3)
      · simp [ckE] at h
    · rcases cs with _ | ⟨y, _ | ⟨y2, _ | ⟨y3, cs⟩⟩⟩ <;> simp [ckE] at h
theorem bool_one {a b : E} {Γ : Ck} {op : BoolOp} {vs : List Expr} {pos : Pos} (h : ckE Γ (.and a b) (.BoolOp op vs pos) = true) :
    op = .And ∧ ∃ x y rest, vs = x :: y :: rest ∧ ckE Γ a x = true ∧ ((rest = [] ∧ ckE Γ b y = true) ∨ (rest ≠ [] ∧ ckE Γ b (.BoolOp .And (y :: rest) pos) = true)) := by
  cases op
  · refine ⟨rfl, ?_⟩
    rcases vs with _ | ⟨x, _ | ⟨y, rest⟩⟩
    · simp [ckE] at h
    · simp [ckE] at h
    · simp only [ckE, Bool.and_eq_true] at h
      refine ⟨x, y, rest, rfl, h.1, ?_⟩
      have h2 := h.2
      cases rest with
      | nil => exact .inl ⟨rfl, h2⟩
      | cons z r => exact .inr ⟨(by intro q; cases q), h2⟩
  · rcases vs with _ | ⟨x, _ | ⟨y, rest⟩⟩ <;> simp [ckE] at h
theorem bool_two {a b : E} {Γ : Ck} {op : BoolOp} {vs : List Expr} {pos : Pos} (h : ckE Γ (.or a b) (.BoolOp op vs pos) = true) :
    op = .Or ∧ ∃ x y rest, vs = x :: y :: rest ∧ ckE Γ a x = true ∧ ((rest = [] ∧ ckE Γ b y = true) ∨ (rest ≠ [] ∧ ckE Γ b (.BoolOp .Or (y :: rest) pos) = true)) := by
  cases op
  · rcases vs with _ | ⟨x, _ | ⟨y, rest⟩⟩ <;> simp [ckE] at h
  · refine ⟨rfl, ?_⟩
    rcases vs with _ | ⟨x, _ | ⟨y, rest⟩⟩
    · simp [ckE] at h
    · simp [ckE] at h
    · simp only [ckE, Bool.and_eq_true] at h
      refine ⟨x, y, rest, rfl, h.1, ?_⟩
      have h2 := h.2
      cases rest with
      | nil => exact .inl ⟨rfl, h2⟩
      | cons z r => exact .inr ⟨(by intro q; cases q), h2⟩
theorem s_and {a b : E} (sa : Snd cal a) (sb : Snd cal b) : Snd cal (.and a b) := by
  have W : ∀ (Γ : Ck) (X : Cx) (f : Fx) (op : BoolOp) (vs : List Expr) (pos : Pos), CxOk Γ X cal → ckE Γ (.and a b) (.BoolOp op vs pos) = true → PW X (.BoolOp op vs pos) (tT (mkP X.K f) cal (.and a b)) := fun Γ X f op vs pos C h => by
    obtain ⟨rfl, x, y, rest, rfl, h1, h2⟩ := bool_one h
    rcases h2 with ⟨rfl, h2⟩ | ⟨_, h2⟩
    · exact w_and (sa.t Γ X f _ C h1) (pw_and1 (sb.t Γ X f _ C h2))
    · exact w_and (sa.t Γ X f _ C h1) (sb.w Γ X f _ _ _ C h2)
  have nb : ∀ {Γ : Ck} {x : Expr}, ckE Γ (.and a b) x = true → ∃ op vs pos, x = .BoolOp op vs pos := fun {Γ x} h => by
    cases x <;> first | (simp [ckE] at h; done) | exact ⟨_, _, _, rfl⟩
  refine ⟨fun Γ X f x C h => ?_, fun Γ X f x C h => ?_, W, fun Γ X f es C h => (by simp [ckA] at h), fun Γ X f es C h => (by simp [ckA] at h), fun Γ X f tg x C h => (by simp [ckI] at h), fun Γ X f x p pos C h => (by simp [ckR] at h)⟩
  · obtain ⟨op, vs, pos, rfl⟩ := nb h
    obtain ⟨rfl, x, y, rest, rfl, h1, h2⟩ := bool_one h
    rcases h2 with ⟨rfl, h2⟩ | ⟨_, h2⟩
    · exact e_and (sa.e Γ X f _ C h1) (pe_one (sb.e Γ X f _ C h2))
    · exact e_and (sa.e Γ X f _ C h1) (sb.e Γ X f _ C h2)
  · obtain ⟨op, vs, pos, rfl⟩ := nb h
    exact (W Γ X f op vs pos C h).pt
theorem s_or {a b : E} (sa : Snd cal a) (sb : Snd cal b) : Snd cal (.or a b) := by
  have W : ∀ (Γ : Ck) (X : Cx) (f : Fx) (op : BoolOp) (vs : List Expr) (pos : Pos), CxOk Γ X cal → ckE Γ (.or a b) (.BoolOp op vs pos) = true → PW X (.BoolOp op vs pos) (tT (mkP X.K f) cal (.or a b)) := fun Γ X f op vs pos C h => by
    obtain ⟨rfl, x, y, rest, rfl, h1, h2⟩ := bool_two h
    rcases h2 with ⟨rfl, h2⟩ | ⟨_, h2⟩
    · exact w_or (sa.t Γ X f _ C h1) (pw_or1 (sb.t Γ X f _ C h2))
    · exact w_or (sa.t Γ X f _ C h1) (sb.w Γ X f _ _ _ C h2)
  have nb : ∀ {Γ : Ck} {x : Expr}, ckE Γ (.or a b) x = true → ∃ op vs pos, x = .BoolOp op vs pos := fun {Γ x} h => by
    cases x <;> first | (simp [ckE] at h; done) | exact ⟨_, _, _, rfl⟩
  refine ⟨fun Γ X f x C h => ?_, fun Γ X f x C h => ?_, W, fun Γ X f es C h => (by simp [ckA] at h), fun Γ X f es C h => (by simp [ckA] at h), fun Γ X f tg x C h => (by simp [ckI] at h), fun Γ X f x p pos C h => (by simp [ckR] at h)⟩
  · obtain ⟨op, vs, pos, rfl⟩ := nb h
    obtain ⟨rfl, x, y, rest, rfl, h1, h2⟩ := bool_two h
    rcases h2 with ⟨rfl, h2⟩ | ⟨_, h2⟩
    · exact e_or (sa.e Γ X f _ C h1) (pe_one (sb.e Γ X f _ C h2))
    · exact e_or (sa.e Γ X f _ C h1) (sb.e Γ X f _ C h2)
  · obtain ⟨op, vs, pos, rfl⟩ := nb h
    exact (W Γ X f op vs pos C h).pt
theorem s_ite {c a b : E} (sc : Snd cal c) (sa : Snd cal a) (sb : Snd cal b) : Snd cal (.ite c a b) := by
  refine .of (fun _ _ => by simp [ckA]) (fun _ _ _ => by simp [ckI]) (fun _ _ => by simp [ckR]) (fun _ _ _ _ => by simp [ckE]) (fun Γ X f x C h => ?_) (fun Γ X f x C h hp => ?_)
  all_goals
    cases x <;> first | (simp [ckE] at h; done) | skip
    simp only [ckE, Bool.and_eq_true] at h
    first
      | exact e_ite (sc.t Γ X f _ C h.1.1) (sa.e Γ X f _ C h.1.2) (sb.e Γ X f _ C h.2)
      | exact t_ite (sc.t Γ X f _ C h.1.1) (sa.t Γ X f _ C h.1.2) (sb.t Γ X f _ C h.2)
theorem s_tup {a : E} (sa : Snd cal a) : Snd cal (.tup a) := by
  refine .of (fun _ _ => by simp [ckA]) (fun _ _ _ => by simp [ckI]) (fun _ _ => by simp [ckR]) (fun _ _ _ _ => by simp [ckE]) (fun Γ X f x C h => ?_) (tany fun x env Γ h => ?_)
  · cases x <;> first | (simp [ckE] at h; done) | skip
    simp only [ckE] at h
    exact e_tup (sa.a Γ X f _ C h)
  · cases x <;> first | (simp [ckE] at h; done) | (intro _; rfl)
theorem s_lst {a : E} (sa : Snd cal a) : Snd cal (.lst a) := by
  refine .of (fun _ _ => by simp [ckA]) (fun _ _ _ => by simp [ckI]) (fun _ _ => by simp [ckR]) (fun _ _ _ _ => by simp [ckE]) (fun Γ X f x C h => ?_) (tany fun x env Γ h => ?_)
  · cases x <;> first | (simp [ckE] at h; done) | skip
    simp only [ckE] at h
    exact e_lst (sa.a Γ X f _ C h)
  · cases x <;> first | (simp [ckE] at h; done) | (intro _; rfl)
theorem s_nil : Snd cal .nil :=
  ⟨fun Γ X f x C h => (by simp [ckE] at h), fun Γ X f x C h => (by simp [ckE] at h), fun Γ X f op vs pos C h => (by simp [ckE] at h), fun Γ X f es C h => (by
    cases es with
    | nil => exact a_nil
    | cons => simp [ckA] at h), fun Γ X f kws C h => (by
    cases kws with
    | nil => exact k_nil
    | cons => simp [ckA] at h), fun Γ X f tg x C h => (by simp [ckI] at h), fun Γ X f x p pos C h => (by simp [ckR] at h)⟩
theorem s_cons {a r : E} (sa : Snd cal a) (sr : Snd cal r) : Snd cal (.cons a r) :=
  ⟨fun Γ X f x C h => (by simp [ckE] at h), fun Γ X f x C h => (by simp [ckE] at h), fun Γ X f op vs pos C h => (by simp [ckE] at h), fun Γ X f es C h => (by
    cases es with
    | nil => simp [ckA] at h
    | cons e es =>
      simp only [ckA, Bool.and_eq_true] at h
      exact a_cons (star_of h.1) (sa.e Γ X f _ C h.1) (sr.a Γ X f _ C h.2)), fun Γ X f kws C h => (by
    cases kws with
    | nil => simp [ckA] at h
    | cons kw kws =>
      obtain ⟨nm, e, kp⟩ := kw
      simp only [List.map_cons, ckA, Bool.and_eq_true] at h
      exact k_cons (sa.e Γ X f _ C h.1) (sr.k Γ X f _ C h.2)), fun Γ X f tg x C h => (by simp [ckI] at h), fun Γ X f x p pos C h => (by simp [ckR] at h)⟩
theorem s_no : Snd cal .no :=
  ⟨fun Γ X f x C h => (by simp [ckE] at h), fun Γ X f x C h => (by simp [ckE] at h), fun Γ X f op vs pos C h => (by simp [ckE] at h), fun Γ X f es C h => (by simp [ckA] at h), fun Γ X f kws C h => (by simp [ckA] at h), fun Γ X f tg x C h => (by simp [ckI] at h), fun Γ X f x p pos C h => (by simp [ckR] at h)⟩
theorem call_nm {E : E} {Γ : Ck} {fn : Expr} {es : List Expr} {kws : List Keyword} {pos : Pos} {cal : Cal} (hE : ∀ m, E ≠ .bits m) (h : ckE Γ E (.Call fn es kws pos) = true) : ∃ x p, fn = .Name x p := by
  cases fn <;> first | exact ⟨_, _, rfl⟩ | skip
  all_goals (cases E <;> first | (simp [ckE] at h; done) | exact absurd rfl (hE _))
theorem s_call {i : Nat} {a : E} (sa : Snd cal a) : Snd cal (.call i a) := by
  refine .of (fun _ _ => by simp [ckA]) (fun _ _ _ => by simp [ckI]) (fun _ _ => by simp [ckR]) (fun _ _ _ _ => by simp [ckE]) (fun Γ X f x C h => ?_) (tany fun x env Γ h => ?_)
  · cases x <;> first | (simp [ckE] at h; done) | skip
    rename_i fn es kws pos
    obtain ⟨x, p, rfl⟩ := call_nm (cal := cal) (by intro m z; cases z) h
    cases kws with
    | cons => simp [ckE] at h
    | nil =>
      simp only [ckE, Bool.and_eq_true] at h
      obtain ⟨⟨h1, h2⟩, h3⟩ := h
      split at h2
      · rename_i y ps hf
        simp only [Bool.and_eq_true, decide_eq_true_eq] at h2
        obtain ⟨rfl, h4⟩ := h2
        exact e_call C hf h1 h3 (sa.a Γ X f _ C h3)
      · cases h2
  · cases x <;> first | (simp [ckE] at h; done) | (intro _; rfl)
theorem s_callk {i : Nat} {a k : E} {pm : List Nat} (sa : Snd cal a) (sk : Snd cal k) : Snd cal (.callk i a k pm) := by
  refine .of (fun _ _ => by simp [ckA]) (fun _ _ _ => by simp [ckI]) (fun _ _ => by simp [ckR]) (fun _ _ _ _ => by simp [ckE]) (fun Γ X f x C h => ?_) (tany fun x env Γ h => ?_)
  · cases x <;> first | (simp [ckE] at h; done) | skip
    rename_i fn es kws pos
    obtain ⟨x, p, rfl⟩ := call_nm (cal := cal) (by intro m z; cases z) h
    simp only [ckE, Bool.and_eq_true] at h
    obtain ⟨⟨⟨h1, h2⟩, h3⟩, h4⟩ := h
    split at h2
    · rename_i y ps ks hf hk
      simp only [Bool.and_eq_true, decide_eq_true_eq] at h2
      obtain ⟨⟨⟨rfl, h5⟩, h6⟩, h7⟩ := h2
      exact e_callk C hf h1 hk h5 h7 h3 h4 (sa.a Γ X f _ C h3) (sk.k Γ X f _ C h4)
    · cases h2
  · cases x <;> first | (simp [ckE] at h; done) | (intro _; rfl)
theorem s_bl {bl : Bl} {a : E} (sa : Snd cal a) : Snd cal (.bl bl a) := by
  refine .of (fun _ _ => by simp [ckA]) (fun _ _ _ => by simp [ckI]) (fun _ _ => by simp [ckR]) (fun _ _ _ _ => by simp [ckE]) (fun Γ X f x C h => ?_) (tany fun x env Γ h => ?_)
  · cases x <;> first | (simp [ckE] at h; done) | skip
    rename_i fn es kws pos
    obtain ⟨x, p, rfl⟩ := call_nm (cal := cal) (by intro m z; cases z) h
    cases kws with
    | cons => simp [ckE] at h
    | nil =>
      simp only [ckE, Bool.and_eq_true, decide_eq_true_eq] at h
      obtain ⟨⟨⟨rfl, h2⟩, h3⟩, h4⟩ := h
      cases es with
      | nil => simp at h4
      | cons e es => exact e_bl C h2 h3 (sa.a Γ X f _ C h3)
  · cases x <;> first | (simp [ckE] at h; done) | (intro _; rfl)
theorem s_len {a : E} (sa : Snd cal a) : Snd cal (.len a) := by
  refine .of (fun _ _ => by simp [ckA]) (fun _ _ _ => by simp [ckI]) (fun _ _ => by simp [ckR]) (fun _ _ _ _ => by simp [ckE]) (fun Γ X f x C h => ?_) (tany fun x env Γ h => ?_)
  · cases x <;> first | (simp [ckE] at h; done) | skip
    rename_i fn es kws pos
    obtain ⟨x, p, rfl⟩ := call_nm (cal := cal) (by intro m z; cases z) h
    rcases es with _ | ⟨e, _ | ⟨e2, es⟩⟩
    · simp [ckE] at h
    · cases kws with
      | cons => simp [ckE] at h
      | nil =>
        simp only [ckE, Bool.and_eq_true, decide_eq_true_eq] at h
        obtain ⟨⟨rfl, h2⟩, h3⟩ := h
        exact e_len C h2 h3 (bo_of C h3 (sa.e Γ X f _ C h3))
    · simp [ckE] at h
  · cases x <;> first | (simp [ckE] at h; done) | (intro _; rfl)
theorem s_bits {a : E} (sa : Snd cal a) : Snd cal (.bits a) := by
  refine .of (fun _ _ => by simp [ckA]) (fun _ _ _ => by simp [ckI]) (fun _ _ => by simp [ckR]) (fun _ _ _ _ => by simp [ckE]) (fun Γ X f x C h => ?_) (tany fun x env Γ h => ?_)
  · cases x <;> first | (simp [ckE] at h; done) | skip
    rename_i fn es kws pos
    cases fn <;> first | (simp [ckE] at h; done) | skip
    rename_i o m ap
    cases o <;> first | (simp [ckE] at h; done) | skip
    rename_i x p
    cases es with
    | cons => simp [ckE] at h
    | nil =>
      cases kws with
      | cons => simp [ckE] at h
      | nil =>
        simp only [ckE, Bool.and_eq_true, decide_eq_true_eq] at h
        obtain ⟨⟨rfl, h2⟩, h3⟩ := h
        exact e_bits h2 (sa.e Γ X f _ C h3)
  · cases x <;> first | (simp [ckE] at h; done) | (intro _; rfl)
theorem s_isi {a : E} {ts : List Ty} (sa : Snd cal a) : Snd cal (.isi a ts) := by
  refine .of (fun _ _ => by simp [ckA]) (fun _ _ _ => by simp [ckI]) (fun _ _ => by simp [ckR]) (fun _ _ _ _ => by simp [ckE]) (fun Γ X f x C h => ?_) (tany fun x env Γ h => ?_)
  · cases x <;> first | (simp [ckE] at h; done) | skip
    rename_i fn es kws pos
    obtain ⟨x, p, rfl⟩ := call_nm (cal := cal) (by intro m z; cases z) h
    rcases es with _ | ⟨e, _ | ⟨t, _ | ⟨e3, es⟩⟩⟩
    · simp [ckE] at h
    · simp [ckE] at h
    · cases kws with
      | cons => simp [ckE] at h
      | nil =>
        simp only [ckE, Bool.and_eq_true, decide_eq_true_eq] at h
        obtain ⟨⟨⟨⟨rfl, h2⟩, h3⟩, h5⟩, h4⟩ := h
        cases t <;> first | (simp [ckTy] at h3; done) | skip
        · unfold ckTy at h3
          rcases ts with _ | ⟨t, _ | ⟨t2, ts⟩⟩
          · cases h3
          · simp only [Bool.and_eq_true, decide_eq_true_eq] at h3
            obtain ⟨rfl, h6⟩ := h3
            exact e_isi1 C h2 h6 h4 (sa.e Γ X f _ C h4)
          · cases h3
        · exact e_isiT C h2 h3 h4 (sa.e Γ X f _ C h4) h5
    · simp [ckE] at h
  · cases x <;> first | (simp [ckE] at h; done) | (intro _; rfl)
theorem s_sub {a i : E} (sa : Snd cal a) (si : Snd cal i) : Snd cal (.sub a i) := by
  refine .of (fun _ _ => by simp [ckA]) (fun _ _ _ => by simp [ckI]) (fun _ _ => by simp [ckR]) (fun _ _ _ _ => by simp [ckE]) (fun Γ X f x C h => ?_) (tany fun x env Γ h => ?_)
  · cases x <;> first | (simp [ckE] at h; done) | skip
    simp only [ckE, Bool.and_eq_true] at h
    exact e_sub (ix_of h.2) (bo_of C h.1 (sa.e Γ X f _ C h.1)) (si.e Γ X f _ C h.2)
  · cases x <;> first | (simp [ckE] at h; done) | (intro _; rfl)
theorem s_slc {a l u : E} (sa : Snd cal a) (sl : Snd cal l) (su : Snd cal u) : Snd cal (.slc a l u) := by
  refine .of (fun _ _ => by simp [ckA]) (fun _ _ _ => by simp [ckI]) (fun _ _ => by simp [ckR]) (fun _ _ _ _ => by simp [ckE]) (fun Γ X f x C h => ?_) (tany fun x env Γ h => ?_)
  · cases x <;> first | (simp [ckE] at h; done) | skip
    rename_i v s pos
    cases s <;> first | (simp [ckE] at h; done) | skip
    rename_i lo hi st p2
    cases st with
    | some => simp [ckE] at h
    | none =>
      simp only [ckE, Bool.and_eq_true] at h
      obtain ⟨⟨h1, h2⟩, h3⟩ := h
      have pl : PO X lo (tO (mkP X.K f) cal l) := by
        cases lo with
        | none => exact o_none h2
        | some e =>
          simp only [Bool.and_eq_true, Bool.not_eq_true'] at h2
          exact o_some h2.1 (sl.e Γ X f _ C h2.2)
      have pu : PO X hi (tO (mkP X.K f) cal u) := by
        cases hi with
        | none => exact o_none h3
        | some e =>
          simp only [Bool.and_eq_true, Bool.not_eq_true'] at h3
          exact o_some h3.1 (su.e Γ X f _ C h3.2)
      exact e_slc (bo_of C h1 (sa.e Γ X f _ C h1)) pl pu
  · cases x <;> first | (simp [ckE] at h; done) | (intro _; rfl)
theorem fold_of {Γ' : Ck} {t x : Expr} {e : E} {env : Env} (h : ckI Γ' t e x = true) : ∀ v, foldedSetIterable x env v = pure v := by
  cases x <;> first | (intro _; rfl) | skip
  exfalso
  cases e <;> first | (simp [ckI] at h; done) | skip
  simp only [ckI] at h
  have := ck_plain h
  simp [plainE] at this
/-- the parts of a comprehension -/
structure LcOk (cal : Cal) (X : Cx) (f : Fx) (own : List Nat) (src : E) (tg : Tg) (c elt : E) (y t it : Expr) (ifs : List Expr) (scope : Scope) : Prop where
  ti : tgIn own tg = true
  blk : BlkOk X.N X.env.scope scope (ownOf X.N own)
  src : PI X t it (tI (mkP X.K f) cal src)
  tg : ∀ (s : Shared) (H : Hp) (A : Addr) (cl : List (Str × Addr)) (fp : List Addr), PG (X.blk s H scope (compEnvC scope cl A X.env) fp) t (gT X.K tg)
  ifs : ∀ (s : Shared) (H : Hp) (A : Addr) (cl : List (Str × Addr)) (fp : List Addr), PTs (X.blk s H scope (compEnvC scope cl A X.env) fp) ifs (tCond (mkP X.K f) cal c)
  elt : ∀ (s : Shared) (H : Hp) (A : Addr) (cl : List (Str × Addr)) (fp : List Addr), PE (X.blk s H scope (compEnvC scope cl A X.env) fp) y (tE (mkP X.K f) cal elt)
  fold : ∀ v, foldedSetIterable it X.env v = pure v
theorem lc_parts {own : List Nat} {src c elt : E} {tg : Tg} {Γ : Ck} {X : Cx} {f : Fx} {x : Expr} (s1 : Snd cal src) (s2 : Snd cal c) (s3 : Snd cal elt) (C : CxOk Γ X cal) (h : ckE Γ (.lc own src tg c elt) x = true) :
    ∃ y t it ifs scope pos, x = .ListComp y [⟨t, it, ifs, 0⟩] scope pos ∧ LcOk cal X f own src tg c elt y t it ifs scope := by
  cases x <;> first | (simp [ckE] at h; done) | skip
  rename_i y gs scope pos
  rcases gs with _ | ⟨⟨t, it, ifs, asy⟩, _ | ⟨g2, gs⟩⟩
  · simp [ckE] at h
  · by_cases ha : asy = 0
    · subst ha
      have h : (blkC Γ.N Γ.sc scope (ownOf Γ.N own) && ckI Γ t src it && ckTg (Γ.blk scope) tg t && tgIn own tg &&
        ckIfs (isNo c) (fun e => ckE (Γ.blk scope) c e) ifs && ckE (Γ.blk scope) elt y) = true := h
      simp only [Bool.and_eq_true] at h
      obtain ⟨⟨⟨⟨⟨h1, h2⟩, h3⟩, h4⟩, h5⟩, h6⟩ := h
      refine ⟨y, t, it, ifs, scope, pos, rfl, h4, ?_, s1.i Γ X f _ _ C h2, fun s H A cl fp => g_tg (C.blk (s := s) (H := H) (cl := cl) (A := A) (fp := fp)) h3, fun s H A cl fp => ?_, fun s H A cl fp => s3.e (Γ.blk scope) _ f y C.blk h6, fold_of h2⟩
      · rw [C.N, C.sc]; exact blkOk_by h1
      · unfold tCond
        rcases ifs with _ | ⟨e, _ | ⟨e2, r⟩⟩
        · have h5 : isNo c = true := h5
          rw [if_pos h5]; exact pts_nil
        · have h5 : (!isNo c && ckE (Γ.blk scope) c e) = true := h5
          rw [Bool.and_eq_true, Bool.not_eq_true'] at h5
          rw [if_neg (by rw [h5.1]; exact Bool.false_ne_true)]
          exact pts_one (s2.t (Γ.blk scope) _ f e C.blk h5.2)
        · cases h5
    · exfalso
      rw [ckE.eq_def] at h
      split at h <;> first | (rename_i q; cases q; done) | (rename_i q _; cases q; done) | skip
      all_goals first | (rename_i q1 q2; cases q1; done) | (rename_i q1 q2; cases q2; exact ha rfl) | cases h
  · simp [ckE] at h
theorem s_lc {own : List Nat} {src c elt : E} {tg : Tg} (s1 : Snd cal src) (s2 : Snd cal c) (s3 : Snd cal elt) : Snd cal (.lc own src tg c elt) := by
  refine .of (fun _ _ => by simp [ckA]) (fun _ _ _ => by simp [ckI]) (fun _ _ => by simp [ckR]) (fun _ _ _ _ => by simp [ckE]) (fun Γ X f x C h => ?_) (tany fun x env Γ h => ?_)
  · obtain ⟨y, t, it, ifs, scope, pos, rfl, L⟩ := lc_parts (f := f) s1 s2 s3 C h
    refine PE_imp (pe_lc C.calm C.nd L.src L.blk L.tg L.ifs L.elt L.fold) fun σ H Q q => ?_
    rw [ownOf_snd]
    exact lc_read L.ti q
  · cases x <;> first | (simp [ckE] at h; done) | (intro _; rfl)
theorem s_it {a : E} (sa : Snd cal a) : Snd cal (.it a) :=
  .src (fun _ _ => by simp [ckE]) (fun _ _ => by simp [ckA]) (fun Γ X f tg x C h => i_list (sa.e Γ X f x C (by simpa [ckI] using h))) (fun Γ X f x p pos C h => by simp [ckR] at h)
theorem s_rng1 {a : E} (sa : Snd cal a) : Snd cal (.rng1 a) := by
  refine .src (fun _ _ => by simp [ckE]) (fun _ _ => by simp [ckA]) (fun Γ X f tg x C h => ?_) (fun Γ X f x p pos C h hl => ?_)
  all_goals
    cases x <;> first | (simp [ckI] at h; done) | (simp [ckR] at h; done) | skip
    rename_i fn es kws ps
    cases fn <;> first | (simp [ckI] at h; done) | (simp [ckR] at h; done) | skip
    rcases es with _ | ⟨e, _ | ⟨e2, es⟩⟩ <;> first | (simp [ckI] at h; done) | (simp [ckR] at h; done) | skip
    cases kws <;> first | (simp [ckI] at h; done) | (simp [ckR] at h; done) | skip
    first
      | simp only [ckI, Bool.and_eq_true, decide_eq_true_eq] at h
      | simp only [ckR, Bool.and_eq_true, decide_eq_true_eq] at h
    obtain ⟨⟨rfl, h2⟩, h3⟩ := h
    first
      | exact i_rng1 C h2 h3 (sa.e Γ X f _ C h3)
      | exact e_lrng1 (x := e) C hl (r_rng1 C h2 h3 (sa.e Γ X f _ C h3))
theorem s_rng2 {a b : E} (sa : Snd cal a) (sb : Snd cal b) : Snd cal (.rng2 a b) := by
  refine .src (fun _ _ => by simp [ckE]) (fun _ _ => by simp [ckA]) (fun Γ X f tg x C h => ?_) (fun Γ X f x p pos C h hl => ?_)
  all_goals
    cases x <;> first | (simp [ckI] at h; done) | (simp [ckR] at h; done) | skip
    rename_i fn es kws ps
    cases fn <;> first | (simp [ckI] at h; done) | (simp [ckR] at h; done) | skip
    rcases es with _ | ⟨e, _ | ⟨e2, _ | ⟨e3, es⟩⟩⟩ <;> first | (simp [ckI] at h; done) | (simp [ckR] at h; done) | skip
    cases kws <;> first | (simp [ckI] at h; done) | (simp [ckR] at h; done) | skip
    first
      | simp only [ckI, Bool.and_eq_true, decide_eq_true_eq] at h
      | simp only [ckR, Bool.and_eq_true, decide_eq_true_eq] at h
    obtain ⟨⟨⟨rfl, h2⟩, h3⟩, h4⟩ := h
    first
      | exact i_rng2 C h2 h3 h4 (sa.e Γ X f _ C h3) (sb.e Γ X f _ C h4)
      | exact e_lrng2 C hl (r_rng2 C h2 h3 h4 (sa.e Γ X f _ C h3) (sb.e Γ X f _ C h4))
theorem s_enum {a : E} (sa : Snd cal a) : Snd cal (.enum a) := by
  refine .src (fun _ _ => by simp [ckE]) (fun _ _ => by simp [ckA]) (fun Γ X f tg x C h => ?_) (fun Γ X f x p pos C h hl => by simp [ckR] at h)
  cases x <;> first | (simp [ckI] at h; done) | skip
  rename_i fn es kws ps
  cases fn <;> first | (simp [ckI] at h; done) | skip
  rcases es with _ | ⟨e, _ | ⟨e2, es⟩⟩ <;> first | (simp [ckI] at h; done) | skip
  cases kws <;> first | (simp [ckI] at h; done) | skip
  simp only [ckI, Bool.and_eq_true, decide_eq_true_eq] at h
  obtain ⟨⟨⟨rfl, h2⟩, h4⟩, h3⟩ := h
  cases tg <;> first | (simp at h4; done) | skip
  exact i_enum C h2 h3 (sa.e Γ X f _ C h3)
theorem s_zip {a b : E} (sa : Snd cal a) (sb : Snd cal b) : Snd cal (.zip a b) := by
  refine .src (fun _ _ => by simp [ckE]) (fun _ _ => by simp [ckA]) (fun Γ X f tg x C h => ?_) (fun Γ X f x p pos C h hl => by simp [ckR] at h)
  cases x <;> first | (simp [ckI] at h; done) | skip
  rename_i fn es kws ps
  cases fn <;> first | (simp [ckI] at h; done) | skip
  rcases es with _ | ⟨e, _ | ⟨e2, _ | ⟨e3, es⟩⟩⟩ <;> first | (simp [ckI] at h; done) | skip
  cases kws <;> first | (simp [ckI] at h; done) | skip
  simp only [ckI, Bool.and_eq_true, decide_eq_true_eq] at h
  obtain ⟨⟨⟨⟨rfl, h2⟩, h5⟩, h3⟩, h4⟩ := h
  cases tg <;> first | (simp at h5; done) | skip
  exact i_zip C h2 h3 h4 (sa.e Γ X f _ C h3) (sb.e Γ X f _ C h4)
theorem s_lrng {a : E} (sa : Snd cal a) : Snd cal (.lrng a) := by
  refine .of (fun _ _ => by simp [ckA]) (fun _ _ _ => by simp [ckI]) (fun _ _ => by simp [ckR]) (fun _ _ _ _ => by simp [ckE]) (fun Γ X f x C h => ?_) (tany fun x env Γ h => ?_)
  · cases x <;> first | (simp [ckE] at h; done) | skip
    rename_i fn es kws pos
    obtain ⟨x, p, rfl⟩ := call_nm (cal := cal) (by intro m z; cases z) h
    rcases es with _ | ⟨e, _ | ⟨e2, es⟩⟩ <;> first | (simp [ckE] at h; done) | skip
    cases kws with
    | cons => simp [ckE] at h
    | nil =>
      simp only [ckE, Bool.and_eq_true, decide_eq_true_eq] at h
      obtain ⟨⟨rfl, h2⟩, h3⟩ := h
      exact sa.r Γ X f e p pos C h3 h2
  · cases x <;> first | (simp [ckE] at h; done) | (intro _; rfl)
theorem s_callb {i : Nat} {a : E} (sa : Snd cal a) : Snd cal (.callb i a) := by
  refine .of (fun _ _ => by simp [ckA]) (fun _ _ _ => by simp [ckI]) (fun _ _ => by simp [ckR]) (fun _ _ _ _ => by simp [ckE]) (fun Γ X f x C h => ?_) (tany fun x env Γ h => ?_)
  · cases x <;> first | (simp [ckE] at h; done) | skip
    rename_i fn es kws pos
    obtain ⟨x, p, rfl⟩ := call_nm (cal := cal) (by intro m z; cases z) h
    rcases es with _ | ⟨e, _ | ⟨e2, es⟩⟩ <;> first | (simp [ckE] at h; done) | skip
    cases kws with
    | cons => simp [ckE] at h
    | nil =>
      simp only [ckE, Bool.and_eq_true] at h
      obtain ⟨⟨h1, h2⟩, h3⟩ := h
      split at h2
      · rename_i y ps hf
        simp only [Bool.and_eq_true, decide_eq_true_eq] at h2
        obtain ⟨rfl, _⟩ := h2
        exact e_callb C hf h1 h3 (sa.e Γ X f _ C h3)
      · cases h2
  · cases x <;> first | (simp [ckE] at h; done) | (intro _; rfl)
theorem s_sset {a : E} (sa : Snd cal a) : Snd cal (.sset a) := by
  refine .of (fun _ _ => by simp [ckA]) (fun _ _ _ => by simp [ckI]) (fun _ _ => by simp [ckR]) (fun _ _ _ _ => by simp [ckE]) (fun Γ X f x C h => ?_) (tany fun x env Γ h => ?_)
  · cases x <;> first | (simp [ckE] at h; done) | skip
    rename_i fn es kws pos
    obtain ⟨x, p, rfl⟩ := call_nm (cal := cal) (by intro m z; cases z) h
    rcases es with _ | ⟨e, _ | ⟨e2, es⟩⟩ <;> first | (simp [ckE] at h; done) | skip
    cases kws <;> first | (simp [ckE] at h; done) | skip
    cases e <;> first | (simp [ckE] at h; done) | skip
    rename_i fn2 es2 kws2 pos2
    cases fn2 <;> first | (simp [ckE] at h; done) | skip
    rcases es2 with _ | ⟨e, _ | ⟨e2, es⟩⟩ <;> first | (simp [ckE] at h; done) | skip
    cases kws2 <;> first | (simp [ckE] at h; done) | skip
    simp only [ckE, Bool.and_eq_true, decide_eq_true_eq] at h
    obtain ⟨⟨⟨⟨rfl, h2⟩, rfl⟩, h3⟩, h4⟩ := h
    exact e_sset C h2 h3 h4 (sa.e Γ X f _ C h4)
  · cases x <;> first | (simp [ckE] at h; done) | (intro _; rfl)
theorem s_lrngw {a b : E} (sa : Snd cal a) (sb : Snd cal b) : Snd cal (.lrngw a b) := by
  refine .of (fun _ _ => by simp [ckA]) (fun _ _ _ => by simp [ckI]) (fun _ _ => by simp [ckR]) (fun _ _ _ _ => by simp [ckE]) (fun Γ X f x C h => ?_) (tany fun x env Γ h => ?_)
  · cases x <;> first | (simp [ckE] at h; done) | skip
    rename_i fn es kws pos
    obtain ⟨x, p, rfl⟩ := call_nm (cal := cal) (by intro m z; cases z) h
    rcases es with _ | ⟨e, _ | ⟨e2, es⟩⟩ <;> first | (simp [ckE] at h; done) | skip
    cases kws <;> first | (simp [ckE] at h; done) | skip
    cases e <;> first | (simp [ckE] at h; done) | skip
    rename_i fn2 es2 kws2 pos2
    cases fn2 <;> first | (simp [ckE] at h; done) | skip
    rcases es2 with _ | ⟨e, _ | ⟨e2, _ | ⟨e3, es⟩⟩⟩ <;> first | (simp [ckE] at h; done) | skip
    cases kws2 <;> first | (simp [ckE] at h; done) | skip
    simp only [ckE, Bool.and_eq_true, decide_eq_true_eq] at h
    obtain ⟨⟨⟨⟨⟨rfl, h2⟩, rfl⟩, h3⟩, h4⟩, h5⟩ := h
    exact e_lrngw C h2 h3 h4 h5 (sa.e Γ X f _ C h4) (sb.e Γ X f _ C h5)
  · cases x <;> first | (simp [ckE] at h; done) | (intro _; rfl)
theorem rev_nm {a : E} {Γ : Ck} {x : Expr} (h : ckE Γ (.rev a) x = true) : ∃ y k p1 p2 p3 pos, x = .Subscript y (.Slice none none (some (.UnaryOp .USub (.Constant (.int 1) k p1) p2)) p3) pos ∧ ckE Γ a y = true := by
  rw [ckE.eq_def] at h
  split at h <;> first | (rename_i q; cases q; done) | (rename_i q _; cases q; done) | skip
  all_goals first | (rename_i q1 q2; cases q1; done) | skip
  · rename_i q1; cases q1; exact ⟨_, _, _, _, _, _, rfl, h⟩
  · cases h
theorem s_rev {a : E} (sa : Snd cal a) : Snd cal (.rev a) := by
  refine .of (fun _ _ => by simp [ckA]) (fun _ _ _ => by simp [ckI]) (fun _ _ => by simp [ckR]) (fun _ _ _ _ => by simp [ckE]) (fun Γ X f x C h => ?_) (tany fun x env Γ h => ?_)
  · obtain ⟨y, k, p1, p2, p3, pos, rfl, h4⟩ := rev_nm h
    exact e_rev (bo_of C h4 (sa.e Γ X f _ C h4))
  · obtain ⟨y, k, p1, p2, p3, pos, rfl, h4⟩ := rev_nm h
    intro _; rfl
theorem snd_all : ∀ e : E, Snd cal e
  | .var i => s_var i
  | .con d => s_con d
  | .bin o a b => s_bin (snd_all a) (snd_all b)
  | .neg a => s_neg (snd_all a)
  | .not a => s_not (snd_all a)
  | .cmp o a b => s_cmp (snd_all a) (snd_all b)
  | .chain o p a b c => s_chain (snd_all a) (snd_all b) (snd_all c)
  | .and a b => s_and (snd_all a) (snd_all b)
  | .or a b => s_or (snd_all a) (snd_all b)
  | .ite c a b => s_ite (snd_all c) (snd_all a) (snd_all b)
  | .tup a => s_tup (snd_all a)
  | .lst a => s_lst (snd_all a)
  | .nil => s_nil
  | .cons a r => s_cons (snd_all a) (snd_all r)
  | .call i a => s_call (snd_all a)
  | .callk i a k pm => s_callk (snd_all a) (snd_all k)
  | .bl b a => s_bl (snd_all a)
  | .len a => s_len (snd_all a)
  | .bits a => s_bits (snd_all a)
  | .isi a ts => s_isi (snd_all a)
  | .sub a i => s_sub (snd_all a) (snd_all i)
  | .slc a l u => s_slc (snd_all a) (snd_all l) (snd_all u)
  | .no => s_no
  | .lc own src tg c elt => s_lc (snd_all src) (snd_all c) (snd_all elt)
  | .rng1 a => s_rng1 (snd_all a)
  | .rng2 a b => s_rng2 (snd_all a) (snd_all b)
  | .zip a b => s_zip (snd_all a) (snd_all b)
  | .enum a => s_enum (snd_all a)
  | .lrng a => s_lrng (snd_all a)
  | .it a => s_it (snd_all a)
  | .callb i a => s_callb (snd_all a)
  | .sset a => s_sset (snd_all a)
  | .rev a => s_rev (snd_all a)
  | .lrngw a b => s_lrngw (snd_all a) (snd_all b)
end
end PX
set_option Elab.async false
set_option autoImplicit false
set_option maxRecDepth 100000
set_option maxHeartbeats 4100000
/-! PXK: statements: the checker, the evaluator, and that they agree. -/
namespace PX
open PySem.Spec L2 PyProof.Rows PySem

/-! ### stores of several names at once -/
def isStarE : Expr → Bool
  | .Starred _ _ => true
  | _ => false
def locOn (sc : Scope) (line : Nat) : Expr → Option Str
  | .Name id pos => if sc.names.lookup id == some .local && pos.line == line then some id else none
  | _ => none
def swNames (sc : Scope) (ts : List Expr) : List Str := ts.filterMap (locOn sc ((ts.head?.map (·.pos.line)).getD 0))
/-- none: not said; some none: a tuple is made; some names: no tuple -/
def swE (sc : Scope) (ts vs : List Expr) : Option (Option (List Str)) :=
  if (!(ts.length == 2 || ts.length == 3) || vs.length != ts.length) = true then some none
  else if vs.any isStarE = true then some none
  else if ((swNames sc ts).length != ts.length || (swNames sc ts).eraseDups.length != (swNames sc ts).length) = true then some none
  else if vs.all (foldedForSure 8) = true then some none
  else if vs.all (constantsAlone 8) = true then none
  else some (some (swNames sc ts))
theorem sw_ok {env : Env} {ts vs : List Expr} {k k2 : Nat} {p p2 : Pos} {o : Option (List Str)} (hk : env.scope.kind = .function) (h : swE env.scope ts vs = some o) : swappedStores [.Tuple ts k p] (.Tuple vs k2 p2) env = pure o := by
  have hb : env.blockKind = .function := by unfold Env.blockKind; rw [hk]; rfl
  unfold swE at h
  simp only [swappedStores, hb]
  have nf : (ScopeKind.function != ScopeKind.function) = false := by decide
  rw [nf, Bool.or_false]
  show (if (!(ts.length == 2 || ts.length == 3) || vs.length != ts.length) = true then pure none
    else if vs.any isStarE = true then pure none
    else if ((swNames env.scope ts).length != ts.length || (swNames env.scope ts).eraseDups.length != (swNames env.scope ts).length) = true then pure none
    else if vs.all (foldedForSure 8) = true then pure none
    else if vs.all (constantsAlone 8) = true then (do unsupported "assign.tuple-of-constant-expressions:order-of-the-stores"; pure (some (swNames env.scope ts)))
    else pure (some (swNames env.scope ts))) = pure o
  split at h
  · rename_i c; rw [if_pos c]; cases h; rfl
  · rename_i c; rw [if_neg c]
    split at h
    · rename_i c; rw [if_pos c]; cases h; rfl
    · rename_i c; rw [if_neg c]
      split at h
      · rename_i c; rw [if_pos c]; cases h; rfl
      · rename_i c; rw [if_neg c]
        split at h
        · rename_i c; rw [if_pos c]; cases h; rfl
        · rename_i c; rw [if_neg c]
          split at h
          · cases h
          · rename_i c; rw [if_neg c]; cases h; rfl

/-! ### the language -/
inductive S where
  | asg (i : Nat) (e : E)
  | tas (is : List Nat) (e : E)
  | par (is : List Nat) (es : List E)
  | aug (i : Nat) (o : Bop) (e : E)
  | setix (i : Nat) (ix e : E)
  | app (i : Nat) (e : E)
  | ite (c : E) (a b : S)
  | skip
  | seq (a b : S)
  | loop (src : E) (tg : Tg) (b : S)
  | whil (c : E) (b : S)
  | ret (e : E)
  | retn
  | cont
  | brk
  | pass
inductive R where
  | nx (g : G)
  | rt (r : RV) (bx : Bx)
  | bk (g : G)
  | ct (g : G)
def evP (cal : Cal) : List E → G → Option (List RV × G)
  | [], g => some ([], g)
  | e :: es, g => match evE cal e g with
    | some (r, g1) => match evP cal es g1 with
      | some (rs, g2) => some (r :: rs, g2)
      | none => none
    | none => none
def setRs : List Nat → List RV → List Sl → Option (List Sl)
  | [], [], env => some env
  | i :: is, r :: rs, env => setRs is rs (env.set i (some r))
  | _, _, _ => none
/-- a name that is handed back is not shared -/
def evRet (cal : Cal) (e : E) (g : G) : Option (RV × G) := match pk e g with
  | some (.own ds) => some (.own ds, g)
  | _ => evE cal e g
def forL (tg : Tg) (body : G → Option R) : List PyData → G → Option R
  | [], g => some (.nx g)
  | d :: ds, g => match bindT tg d g.env with
    | none => none
    | some env => match body { g with env := env } with
      | some (.nx g') => forL tg body ds g'
      | some (.ct g') => forL tg body ds g'
      | some (.bk g') => some (.nx g')
      | some (.rt r b) => some (.rt r b)
      | none => none
def whL (fc : G → Option (RV × G)) (body : G → Option R) : Nat → G → Option R
  | 0, _ => none
  | n + 1, g => match fc g with
    | none => none
    | some (x, g1) => match truth x with
      | none => none
      | some false => some (.nx g1)
      | some true => match body g1 with
        | some (.nx g') => whL fc body n g'
        | some (.ct g') => whL fc body n g'
        | some (.bk g') => some (.nx g')
        | some (.rt r b) => some (.rt r b)
        | none => none
def setBox (b : Int × Int × Int) (k : Int) (v : Int) : Option (Int × Int × Int) :=
  if k = 0 then some (v, b.2.1, b.2.2) else if k = 1 then some (b.1, v, b.2.2) else if k = 2 then some (b.1, b.2.1, v) else none
/-- a list of one's own, or the box -/
def canPut (i : Nat) (g : G) : Bool := match peek i g with
  | some (.own _) => true
  | some .box => true
  | _ => false
/-- name[k] = value -/
def putIx (i : Nat) (k : Int) (y : PyData) (g : G) : Option G := match peek i g with
  | some (.own ds) => match ixN ds.length k with
    | some j => some { g with env := g.env.set i (some (.own (ds.set j y))) }
    | none => none
  | some .box => match y, g.bx with
    | .int v, some b => (setBox b k v).map fun b' => { g with bx := some b' }
    | _, _ => none
  | _ => none
def appE (i : Nat) (y : PyData) (g : G) : Option G := match peek i g with
  | some (.own ds) => if decide (ds.length < 16777216) then some { g with env := g.env.set i (some (.own (ds ++ [y]))) } else none
  | _ => none
def exS (cal : Cal) (fu : Nat) : S → G → Option R
  | .asg i e, g => match evE cal e g with
    | some (r, g1) => some (.nx { g1 with env := g1.env.set i (some r) })
    | none => none
  | .tas is e, g => match evE cal e g with
    | some (r, g1) => match r.pd with
      | some d => (bindT (.tp is) d g1.env).map fun env => .nx { g1 with env := env }
      | none => none
    | none => none
  | .par is es, g => match evP cal es g with
    | some (rs, g1) => (setRs is rs g1.env).map fun env => .nx { g1 with env := env }
    | none => none
  | .aug i o e, g => match peek i g with
    | some (.dat (.int x)) => match evE cal e g with
      | some (.dat (.int y), g1) => match o with
        | .add => some (.nx { g1 with env := g1.env.set i (some (.dat (.int (x + y)))) })
        | .sub => some (.nx { g1 with env := g1.env.set i (some (.dat (.int (x - y)))) })
        | _ => none
      | _ => none
    | _ => none
  | .setix i ix e, g => match evE cal e g with
    | some (r, g1) => match r.pd with
      | some y => if canPut i g1 = true then match evE cal ix g1 with
          | some (.dat (.int k), g2) => (putIx i k y g2).map .nx
          | _ => none
        else none
      | none => none
    | none => none
  | .app i e, g => if canPut i g = true then match evE cal e g with
      | some (r, g1) => match r.pd with
        | some y => (appE i y g1).map .nx
        | none => none
      | none => none
    else none
  | .ite c a b, g => match evE cal c g with
    | some (x, g1) => match truth x with
      | some true => exS cal fu a g1
      | some false => exS cal fu b g1
      | none => none
    | none => none
  | .skip, g => some (.nx g)
  | .seq a b, g => match exS cal fu a g with
    | some (.nx g1) => exS cal fu b g1
    | r => r
  | .loop src tg b, g => match evI cal src g with
    | some (ds, g1) => forL tg (exS cal fu b) ds g1
    | none => none
  | .whil c b, g => whL (evE cal c) (exS cal fu b) fu g
  | .ret e, g => match evRet cal e g with
    | some (.box, _) => none
    | some (r, g1) => some (.rt r g1.bx)
    | none => none
  | .retn, g => some (.rt (.dat .none) g.bx)
  | .cont, g => some (.ct g)
  | .brk, g => some (.bk g)
  | .pass, g => some (.nx g)

/-! ### the checker -/
def ckL (Γ : Ck) : List E → List Expr → Bool
  | [], [] => true
  | a :: as, e :: es => ckE Γ a e && ckL Γ as es
  | _, _ => false
def isTupE : Expr → Bool
  | .Tuple _ _ _ => true
  | _ => false
/-- a, b = .. without a tuple -/
def ckSw (Γ : Ck) : List Nat → List Expr → List Str → Bool
  | [i, j], [.Name x _, .Name y _], [x', y'] => decide (x = x') && decide (y = y') && decide (i ≠ j) && decide (Γ.sc.names.lookup x = some .local) && decide (Γ.sc.names.lookup y = some .local)
  | [i, j, l], [.Name x _, .Name y _, .Name z _], [x', y', z'] => decide (x = x') && decide (y = y') && decide (z = z') && decide (i ≠ j) && decide (i ≠ l) && decide (j ≠ l) &&
      decide (Γ.sc.names.lookup x = some .local) && decide (Γ.sc.names.lookup y = some .local) && decide (Γ.sc.names.lookup z = some .local)
  | _, _, _ => false
def isLC : Expr → Bool
  | .ListComp _ _ _ _ => true
  | _ => false
mutual
def ckS (Γ : Ck) : S → Stmt → Bool
  | .asg i e, .Assign [.Name x p] v _ => ckTgs Γ [i] [.Name x p] && ckE Γ e v
  | .tas is e, .Assign [.Tuple ts _ _] v _ => ckTgs Γ is ts && ckE Γ e v && !isTupE v && !isLC v
  | .par is es, .Assign [.Tuple ts _ _] (.Tuple vs _ _) _ => ckTgs Γ is ts && ckL Γ es vs && decide (vs.length ≤ 1000) && (match swE Γ.sc ts vs with
    | some none => true
    | some (some ns) => ckSw Γ is ts ns
    | none => false)
  | .aug i o e, .AugAssign (.Name x p) op v _ => ckTgs Γ [i] [.Name x p] && decide (opOf o = op) && ckE Γ e v
  | .setix i ix e, .Assign [.Subscript (.Name x p) ie _] v _ => ckE Γ (.var i) (.Name x p) && ckE Γ ix ie && ckE Γ e v && !isLC v
  | .app i e, .Expr (.Call (.Attribute (.Name x p) m ap) [v] [] cp) _ => decide (m = ("append" : Str)) && (ap.endLine == cp.line) && ckE Γ (.var i) (.Name x p) && ckE Γ e v
  | .ite c a b, .If t x y _ => ckE Γ c t && ckB Γ a x && ckB Γ b y
  | .loop src tg b, .For t it body [] _ => ckI Γ t src it && ckTg Γ tg t && ckB Γ b body
  | .whil c b, .While t body [] _ => ckE Γ c t && ckB Γ b body
  | .ret e, .Return (some v) _ => ckE Γ e v
  | .retn, .Return none _ => true
  | .cont, .Continue _ => true
  | .brk, .Break _ => true
  | .pass, .Pass _ => true
  | _, _ => false
def ckB (Γ : Ck) : S → List Stmt → Bool
  | .skip, [] => true
  | .seq a b, x :: xs => ckS Γ a x && ckB Γ b xs
  | _, _ => false
end
end PX
set_option Elab.async false
set_option autoImplicit false
set_option maxRecDepth 100000
set_option maxHeartbeats 4100000
/-! PXL: every statement that passes the checker does what the evaluator says. -/
namespace PX
open PySem.Spec L2 PyProof.Rows PySem

theorem PS_imp {X : Cx} {st : Stmt} {t t' : TS} (h : PS X st t) (f : ∀ D σ H, t' D σ H → t D σ H) : PS X st t' := ⟨fun pins s σ H D I q => h.run pins s σ H D I (f D σ H q)⟩
theorem PSs_imp {X : Cx} {st : List Stmt} {t t' : TS} (h : PSs X st t) (f : ∀ D σ H, t' D σ H → t D σ H) : PSs X st t' := ⟨fun pins s σ H D I q => h.run pins s σ H D I (f D σ H q)⟩
/-- what is handed back -/
def RetV (P : Par) (D H : Hp) (bx : Bx) (x : V) (r : RV) : Prop := (∃ g σ, Rel P D g σ H ∧ g.bx = bx) ∧ match r with
  | .dat d => Dq P.K D x d
  | .own ds => ∃ p xs, x = .ref p ∧ Own P D H p xs ds
  | .box => False
def Fin (P : Par) (Dk : Hp) (D : Ends) : R → Prop
  | .nx g => ∀ σ D' H', Rel P D' g σ H' → Sub Dk D' → D.nx σ H'
  | .bk g => ∀ σ D' H', Rel P D' g σ H' → Sub Dk D' → D.bk σ H'
  | .ct g => ∀ σ D' H', Rel P D' g σ H' → Sub Dk D' → D.ct σ H'
  | .rt r bx => ∀ x D' H', RetV P D' H' bx x r → Sub Dk D' → D.rt x H'
theorem Fin.mono {P : Par} {Dk D2 : Hp} {D : Ends} (s : Sub Dk D2) : ∀ {r : R}, Fin P Dk D r → Fin P D2 D r
  | .nx _, h => fun σ D' H' R q => h σ D' H' R (s.trans q)
  | .bk _, h => fun σ D' H' R q => h σ D' H' R (s.trans q)
  | .ct _, h => fun σ D' H' R q => h σ D' H' R (s.trans q)
  | .rt _ _, h => fun x D' H' R q => h x D' H' R (s.trans q)
def tS (P : Par) (cal : Cal) (fu : Nat) (s : S) : TS := fun D σ H => ∃ Dk g r, Rel P Dk g σ H ∧ exS cal fu s g = some r ∧ Fin P Dk D r
section
variable {P : Par} {D H D' H' Hs : Hp} {g : G} {σ : L2.St} {x : V} {r : RV}
/-- a result is stored -/
theorem Rel.setR {i : Nat} (Rl : Rel P D g σ H) (q : RvOk P Hs D g σ H x r) : Rel P D { g with env := g.env.set i (some r) } (σ.set i (some x)) H := by
  cases r with
  | dat d => exact Rl.setD q
  | box =>
    obtain ⟨a, q1, rfl⟩ := q
    have ix : ∀ (j : Nat) (es : List PyData), (g.env.set i (some .box))[j]? = some (some (.own es)) → i ≠ j ∧ g.env[j]? = some (some (.own es)) := fun j es h => by
      by_cases hj : i = j
      · subst hj
        by_cases hl : i < g.env.length
        · rw [List.getElem?_set_self hl] at h; cases h
        · rw [List.getElem?_eq_none (by rw [List.length_set]; omega)] at h; cases h
      · rw [List.getElem?_set_ne hj] at h; exact ⟨hj, h⟩
    refine ⟨Rl.sub, Rl.old, Rl.new, by simp [Rl.len], fun j sl h => ?_, fun j l p es fs h1 h2 e1 e2 => ?_, Rl.box⟩
    · by_cases hj : i = j
      · subst hj
        by_cases hl : i < g.env.length
        · rw [List.getElem?_set_self hl] at h; cases h
          exact ⟨a, q1, List.getElem?_set_self (by rw [← Rl.len]; exact hl)⟩
        · rw [List.getElem?_eq_none (by rw [List.length_set]; omega)] at h; cases h
      · rw [List.getElem?_set_ne hj] at h ⊢
        exact Rl.slot j sl h
    · obtain ⟨n1, k1⟩ := ix _ _ h1
      obtain ⟨n2, k2⟩ := ix _ _ h2
      rw [List.getElem?_set_ne n1] at e1
      rw [List.getElem?_set_ne n2] at e2
      exact Rl.dis j l p es fs k1 k2 e1 e2
  | own ds =>
    obtain ⟨p, xs, rfl, o, F, n⟩ := q
    have ix : ∀ (j : Nat) (es : List PyData), (g.env.set i (some (.own ds)))[j]? = some (some (.own es)) → (i = j ∧ i < g.env.length) ∨ (i ≠ j ∧ g.env[j]? = some (some (.own es))) := fun j es h => by
      by_cases hj : i = j
      · subst hj
        by_cases hl : i < g.env.length
        · exact .inl ⟨rfl, hl⟩
        · rw [List.getElem?_eq_none (by rw [List.length_set]; omega)] at h; cases h
      · rw [List.getElem?_set_ne hj] at h; exact .inr ⟨hj, h⟩
    refine ⟨Rl.sub, Rl.old, Rl.new, by simp [Rl.len], fun j sl h => ?_, fun j l q es fs h1 h2 e1 e2 => ?_, Rl.box⟩
    · by_cases hj : i = j
      · subst hj
        by_cases hl : i < g.env.length
        · rw [List.getElem?_set_self hl] at h; cases h
          exact ⟨p, xs, List.getElem?_set_self (by rw [← Rl.len]; exact hl), o⟩
        · rw [List.getElem?_eq_none (by rw [List.length_set]; omega)] at h; cases h
      · rw [List.getElem?_set_ne hj] at h ⊢
        exact Rl.slot j sl h
    · rcases ix _ _ h1 with ⟨rfl, l1⟩ | ⟨n1, k1⟩
      · rcases ix _ _ h2 with ⟨rfl, l2⟩ | ⟨n2, k2⟩
        · rfl
        · rw [List.getElem?_set_self (by rw [← Rl.len]; exact l1)] at e1
          cases e1
          rw [List.getElem?_set_ne n2] at e2
          exact absurd e2 (F l fs k2)
      · rcases ix _ _ h2 with ⟨rfl, l2⟩ | ⟨n2, k2⟩
        · rw [List.getElem?_set_self (by rw [← Rl.len]; exact l2)] at e2
          cases e2
          rw [List.getElem?_set_ne n1] at e1
          exact absurd e1 (F j es k1)
        · rw [List.getElem?_set_ne n1] at e1
          rw [List.getElem?_set_ne n2] at e2
          exact Rl.dis j l q es fs k1 k2 e1 e2
/-- several results, none at another's place -/
inductive RvsOk (P : Par) (Hs D : Hp) (g : G) (σ : L2.St) (H : Hp) : List V → List RV → Prop where
  | nil : RvsOk P Hs D g σ H [] []
  | cons {x : V} {r : RV} {xs : List V} {rs : List RV} : RvOk P Hs D g σ H x r → RvsOk P Hs D g σ H xs rs → (∀ ds, r = .own ds → ∀ (i : Nat) (es : List PyData), rs[i]? = some (.own es) → xs[i]? ≠ some x) → RvsOk P Hs D g σ H (x :: xs) (r :: rs)
theorem RvsOk.after {g' : G} : ∀ {xs : List V} {rs : List RV}, RvsOk P Hs D g σ H xs rs → Post P D g σ H D' g' H' → RvsOk P Hs D' g' σ H' xs rs
  | _, _, .nil, _ => .nil
  | _, _, .cons a t n, A => .cons (a.after A) (RvsOk.after t A) n
theorem RvsOk.back {H1 : Hp} (f : ∀ p, H1 p = none → Hs p = none) : ∀ {xs : List V} {rs : List RV}, RvsOk P H1 D g σ H xs rs → RvsOk P Hs D g σ H xs rs
  | _, _, .nil => .nil
  | _, _, .cons a t n => .cons (a.back f) (RvsOk.back f t) n
theorem RvsOk.len : ∀ {xs : List V} {rs : List RV}, RvsOk P Hs D g σ H xs rs → xs.length = rs.length
  | _, _, .nil => rfl
  | _, _, .cons _ t _ => by rw [List.length_cons, List.length_cons, RvsOk.len t]
theorem RvsOk.at : ∀ {xs : List V} {rs : List RV} {i : Nat} {r : RV}, RvsOk P Hs D g σ H xs rs → rs[i]? = some r → ∃ x, xs[i]? = some x ∧ RvOk P Hs D g σ H x r
  | _, _, _, _, .nil, h => by simp at h
  | _, _, 0, _, .cons a _ _, h => by simp at h; subst h; exact ⟨_, rfl, a⟩
  | _, _, i + 1, r, .cons _ t _, h => by
    obtain ⟨v, h1, h2⟩ := RvsOk.at (i := i) (r := r) t (by simpa using h)
    exact ⟨v, by simpa using h1, h2⟩
theorem RvsOk.set {i : Nat} : ∀ {xs : List V} {rs : List RV}, RvsOk P Hs D g σ H xs rs → (∀ ds p, r = .own ds → x = .ref p → ∀ (j : Nat) (es : List PyData), rs[j]? = some (.own es) → xs[j]? ≠ some x) → (∀ ds, r = .own ds → ∃ p, x = .ref p) →
    RvsOk P Hs D { g with env := g.env.set i (some r) } (σ.set i (some x)) H xs rs
  | _, _, .nil, _, _ => .nil
  | _, _, .cons (x := y) (r := s) a t n, c, e => by
    refine .cons ?_ (RvsOk.set t (fun ds p h1 h2 j es h3 => ?_) e) n
    · cases s with
      | dat d => exact a
      | box => exact a
      | own es =>
        obtain ⟨q, ys, rfl, o, F, nn⟩ := a
        refine ⟨q, ys, rfl, o, fun j fs h3 h4 => ?_, nn⟩
        by_cases hj : i = j
        · subst hj
          have h3 : (g.env.set i (some r))[i]? = some (some (.own fs)) := h3
          by_cases hl : i < g.env.length
          · rw [List.getElem?_set_self hl] at h3
            have hr : r = .own fs := Option.some.inj (Option.some.inj h3)
            by_cases hl2 : i < σ.length
            · rw [List.getElem?_set_self hl2] at h4
              have hx : x = .ref q := Option.some.inj (Option.some.inj h4)
              have := c fs q hr hx 0 es rfl
              exact this (by rw [hx]; rfl)
            · rw [List.getElem?_eq_none (by rw [List.length_set]; omega)] at h4; cases h4
          · rw [List.getElem?_eq_none (by rw [List.length_set]; omega)] at h3; cases h3
        · have h3 : (g.env.set i (some r))[j]? = some (some (.own fs)) := h3
          rw [List.getElem?_set_ne hj] at h3 h4
          exact F j fs h3 h4
    · have := c ds p h1 h2 (j + 1) es (by simpa using h3)
      simpa using this
theorem RvOk.ref (q : RvOk P Hs D g σ H x r) {ds : List PyData} (h : r = .own ds) : ∃ p, x = .ref p := by
  subst h
  obtain ⟨p, xs, e, _⟩ := q
  exact ⟨p, e⟩
/-- all stored, from the left -/
def setVs : List Nat → List V → L2.St → L2.St
  | i :: is, v :: vs, σ => setVs is vs (σ.set i (some v))
  | _, _, σ => σ
theorem Rel.setRs : ∀ {is : List Nat} {xs : List V} {rs : List RV} {g : G} {σ : L2.St} {env : List Sl}, Rel P D g σ H → RvsOk P Hs D g σ H xs rs → PX.setRs is rs g.env = some env → Rel P D { g with env := env } (setVs is xs σ) H ∧ xs.length = is.length
  | [], _, [], g, σ, env, R, q, e => by cases e; cases q; exact ⟨R, rfl⟩
  | [], _, _ :: _, g, σ, env, R, q, e => by cases e
  | _ :: _, _, [], g, σ, env, R, q, e => by cases e
  | i :: is, _, r :: rs, g, σ, env, R, q, e => by
    cases q with
    | cons a t n =>
      have R1 := R.setR (i := i) a
      have t1 := t.set (i := i) (x := _) (r := r) (fun ds p h1 h2 j es h3 => n ds h1 j es h3) (fun ds h => a.ref h)
      obtain ⟨R2, l⟩ := Rel.setRs (is := is) R1 t1 e
      exact ⟨R2, by rw [List.length_cons, List.length_cons, l]⟩
theorem names_run {Q : L2.St → Hp → Prop} : ∀ {is : List Nat} {xs : List V} {σ : L2.St}, xs.length = is.length → Q (setVs is xs σ) H → gNames is xs σ H Q
  | [], [], σ, _, q => ⟨rfl, q⟩
  | [], _ :: _, _, h, _ => by simp at h
  | _ :: _, [], _, h, _ => by simp at h
  | i :: is, x :: xs, σ, h, q => ⟨x, xs, rfl, names_run (by simpa using h) q⟩
/-- an own list is written -/
theorem Rel.writeOwn {i : Nat} {p : Addr} {ys : List V} {ds es : List PyData} (Rl : Rel P D g σ H) (h : g.env[i]? = some (some (.own ds))) (e : σ[i]? = some (some (.ref p))) (al : DqAll P.K D ys es) :
    Rel P D { g with env := g.env.set i (some (.own es)) } σ (upd H p (.lst ys)) := by
  obtain ⟨zs, o⟩ := Rl.ownAt h e
  have hl : i < g.env.length := (List.getElem?_eq_some_iff.mp h).1
  have ix : ∀ (j : Nat) (fs : List PyData), (g.env.set i (some (.own es)))[j]? = some (some (.own fs)) → ∃ fs', g.env[j]? = some (some (.own fs')) := fun j fs h' => by
    by_cases hj : i = j
    · subst hj; exact ⟨ds, h⟩
    · rw [List.getElem?_set_ne hj] at h'; exact ⟨fs, h'⟩
  refine ⟨fun b u hb => by rw [upd_ne (ne_of_none hb o.no)]; exact Rl.sub b u hb, fun b u hb n => by rw [upd_ne (ne_of_none hb o.new)]; exact Rl.old b u hb n, Rl.new, by rw [List.length_set]; exact Rl.len, fun j sl hj => ?_, fun j l q fs fs2 h1 h2 e1 e2 => ?_, fun a ha => ?_⟩
  · by_cases hij : i = j
    · subst hij
      rw [List.getElem?_set_self hl] at hj; cases hj
      exact ⟨p, ys, e, upd_same, al, o.no, o.new, o.nb⟩
    · rw [List.getElem?_set_ne hij] at hj
      have q := Rl.slot j sl hj
      cases sl with
      | none => trivial
      | some rv =>
        cases rv with
        | dat d => exact q
        | box => exact q
        | own fs =>
          obtain ⟨p', xs', q1, o'⟩ := q
          have : p' ≠ p := fun z => hij (Rl.dis i j p ds fs h hj e (z ▸ q1))
          exact ⟨p', xs', q1, by rw [upd_ne this]; exact o'.at_, o'.all, o'.no, o'.new, o'.nb⟩
  · obtain ⟨f1, k1⟩ := ix _ _ h1
    obtain ⟨f2, k2⟩ := ix _ _ h2
    exact Rl.dis j l q f1 f2 k1 k2 e1 e2
  · obtain ⟨x, y, z, q1, q2, q3⟩ := Rl.box a ha
    have : a ≠ p := fun z => o.nb (z ▸ ha)
    exact ⟨x, y, z, q1, by rw [upd_ne this]; exact q2, q3⟩
/-- the box is written -/
theorem Rel.writeBox {a : Addr} {x y z : Int} (Rl : Rel P D g σ H) (ha : P.B = some a) : Rel P D { g with bx := some (x, y, z) } σ (upd H a (.lst [.int x, .int y, .int z])) := by
  obtain ⟨_, _, _, _, _, q3⟩ := Rl.box a ha
  refine ⟨fun b u hb => by rw [upd_ne (ne_of_none hb q3)]; exact Rl.sub b u hb, fun b u hb n => ?_, Rl.new, Rl.len, fun j sl hj => ?_, Rl.dis, fun b hb => ?_⟩
  · have : b ≠ a := by intro e; exact n (by rw [e]; exact ha)
    rw [upd_ne this]; exact Rl.old b u hb n
  · have q := Rl.slot j sl hj
    cases sl with
    | none => trivial
    | some rv =>
      cases rv with
      | dat d => exact q
      | box => exact q
      | own fs =>
        obtain ⟨p', xs', q1, o'⟩ := q
        have : p' ≠ a := by intro e; exact o'.nb (by rw [e]; exact ha)
        exact ⟨p', xs', q1, by rw [upd_ne this]; exact o'.at_, o'.all, o'.no, o'.new, o'.nb⟩
  · rw [ha] at hb; cases hb
    exact ⟨x, y, z, rfl, upd_same, q3⟩
end
end PX
set_option Elab.async false
set_option autoImplicit false
set_option maxRecDepth 100000
set_option maxHeartbeats 8100000
/-! PXM: statements. -/
namespace PX
open PySem.Spec L2 PyProof.Rows PySem
structure XS (X : Cx) : Prop where
  xe : X.xe = fun _ _ => False
  kd : X.env.scope.kind = .function
section
variable {Γ : Ck} {X : Cx} {cal : Cal} {f : Fx} {fu : Nat}
theorem XS.own (h : XS X) : PassesOwn (model X.prog X.w) X.A X.env X.xe := by
  rw [h.xe]; exact PassesOwn.never
theorem name_of {i : Nat} {x : Str} {p : Pos} (C : CxOk Γ X cal) (h : ckTgs Γ [i] [.Name x p] = true) : X.N[i]? = some x ∧ Loc X.env.scope x ∧ (X.fn x = true ∨ X.env.scope.names.lookup x = some .local) := by
  simp only [ckTgs, Bool.and_eq_true, decide_eq_true_eq] at h
  obtain ⟨⟨h1, h2⟩, _⟩ := h
  obtain ⟨t1, t2⟩ := C.tgs x
  refine ⟨by rw [C.N]; exact h1, ?_⟩
  split at h2
  · rename_i e; exact ⟨.inl (t1 e), .inr (t1 e)⟩
  · rename_i e; exact ⟨.inr (t2 e).1, .inl (t2 e).2⟩
  · cases h2
theorem noLC {Γ' : Ck} {e : E} {v : Expr} (h : ckE Γ' e v = true) (hl : isLC v = false) (t : Option Expr) (l : Nat) (env : Env) : swapsWith v t l env = pure false := by
  have := ck_plain h
  cases v <;> first | rfl | (simp [plainE] at this; done) | (simp [isLC] at hl; done)
/-- the reading of name = e -/
theorem asg_read {i : Nat} {e : E} {D : Ends} {σ : L2.St} {H : Hp} {P : Par} (q : tS P cal fu (.asg i e) D σ H) : tE P cal e σ H fun x H1 => D.nx (σ.set i (some x)) H1 := by
  obtain ⟨Dk, g, r, R, ev, k⟩ := q
  simp only [exS] at ev
  split at ev
  · rename_i rv g1 e1
    cases ev
    exact ⟨Dk, g, rv, g1, R, e1, fun x D' H' R' A q => k _ D' H' (R'.setR q) A.mono⟩
  · cases ev
theorem p_asg {i : Nat} {e : E} {x : Str} {p pos : Pos} {v : Expr} (C : CxOk Γ X cal) (h : ckS Γ (.asg i e) (.Assign [.Name x p] v pos) = true) : PS X (.Assign [.Name x p] v pos) (tS (mkP X.K f) cal fu (.asg i e)) := by
  simp only [ckS, Bool.and_eq_true] at h
  obtain ⟨n1, n2, n3⟩ := name_of C h.1
  cases hl : isLC v with
  | false => exact PS_imp (ps_set C.nd n1 n2 ((snd_all e).e Γ X f v C h.2) (noLC h.2 hl _ _ _) n3) fun D σ H q => asg_read q
  | true =>
    cases v <;> first | (simp [isLC] at hl; done) | skip
    rename_i y gs scope cpos
    have sw : swapsWith (.ListComp y gs scope cpos) (some (.Name x p)) pos.line X.env = pure (X.env.blockKind == .function && X.env.kindOf x == some .local && p.line == cpos.line && !(scope.names.any fun (n, k) => n == x && (k == .local || k == .cell))) := rfl
    generalize hb : (X.env.blockKind == .function && X.env.kindOf x == some .local && p.line == cpos.line && !(scope.names.any fun (n, k) => n == x && (k == .local || k == .cell))) = b at sw
    cases b with
    | false => exact PS_imp (ps_set C.nd n1 n2 ((snd_all e).e Γ X f _ C h.2) sw n3) fun D σ H q => asg_read q
    | true =>
      have he : ∃ own src tg c elt, e = .lc own src tg c elt := by
        cases e <;> first | (simp [ckE] at h; done) | exact ⟨_, _, _, _, _, rfl⟩
      obtain ⟨own, src, tg, c, elt, rfl⟩ := he
      obtain ⟨y', t, it, ifs, scope', pos', e', L⟩ := lc_parts (f := f) (snd_all src) (snd_all c) (snd_all elt) C h.2
      cases e'
      have hloc : X.env.scope.names.lookup x = some .local := by
        simp only [Bool.and_eq_true, beq_iff_eq] at hb
        exact hb.1.1.2
      refine PS_imp (ps_setLc C.calm C.nd n1 hloc sw L.src L.blk L.tg L.ifs L.elt L.fold) fun D σ H q => ?_
      rw [ownOf_snd]
      exact lc_read L.ti (asg_read q)
theorem p_tas {is : List Nat} {e : E} {ts : List Expr} {k : Nat} {p pos : Pos} {v : Expr} (C : CxOk Γ X cal) (h : ckS Γ (.tas is e) (.Assign [.Tuple ts k p] v pos) = true) : PS X (.Assign [.Tuple ts k p] v pos) (tS (mkP X.K f) cal fu (.tas is e)) := by
  have hc : (ckTgs Γ is ts && ckE Γ e v && !isTupE v && !isLC v) = true := by
    cases v <;> first | exact h | (simp [ckS] at h ⊢; done) | (simp [ckS] at h ⊢; exact h)
  simp only [Bool.and_eq_true, Bool.not_eq_true'] at hc
  obtain ⟨⟨⟨h1, h2⟩, h3⟩, h4⟩ := hc
  obtain ⟨p1, p2, p3⟩ := g_names C h1
  have hs : swapsWithSole [.Tuple ts k p] v pos.line X.env = pure false := by
    show swapsWith v (some (.Tuple ts k p)) pos.line X.env = pure false
    exact noLC h2 h4 _ _ _
  have hw : swappedStores [.Tuple ts k p] v X.env = pure none := by
    cases v <;> first | rfl | (simp [isTupE] at h3)
  refine PS_imp (ps_asg ((snd_all e).e Γ X f v C h2) (pg_seq C.calm p1 p2 p3) hs hw rfl) fun D σ H ⟨Dk, g, r, R, ev, kk⟩ => ?_
  simp only [exS] at ev
  split at ev
  · rename_i rv g1 e1
    split at ev
    · rename_i d hd
      obtain ⟨env, he, e2⟩ := map_some ev
      cases e2
      exact shared R e1 hd fun x D' H' R' A q => gT_run (tg := .tp is) R' q he fun σ' R2 _ => kk σ' D' H' R2 A.mono
    · cases ev
  · cases ev

/-! ### several values at once -/
def tP (P : Par) (cal : Cal) (es : List E) : TA := fun σ H Q => ∃ D g rs g', Rel P D g σ H ∧ evP cal es g = some (rs, g') ∧ ∀ xs D' H', Rel P D' g' σ H' → Post P D g σ H D' g' H' → RvsOk P H D' g' σ H' xs rs → Q xs H'
theorem l_par (C : CxOk Γ X cal) : ∀ {es : List E} {vs : List Expr}, ckL Γ es vs = true → PA X vs (tP (mkP X.K f) cal es)
  | [], [], _ => PA_imp pa_nil fun σ H Q ⟨D, g, rs, g', R, ev, k⟩ => by
    cases ev
    exact k [] D H R Post.refl .nil
  | [], _ :: _, h => by simp [ckL] at h
  | _ :: _, [], h => by simp [ckL] at h
  | e :: es, v :: vs, h => by
    simp only [ckL, Bool.and_eq_true] at h
    refine PA_imp (pa_cons ((snd_all e).e Γ X f v C h.1) (l_par C h.2) (star_of h.1)) fun σ H Q ⟨D, g, rs, g', R, ev, k⟩ => ?_
    unfold evP at ev
    split at ev
    · rename_i r g1 e1
      split at ev
      · rename_i ss g2 e2
        cases ev
        refine ⟨D, g, r, g1, R, e1, fun x D1 H1 R1 A1 q => ⟨D1, g1, ss, g', R1, e2, fun xs D2 H2 R2 A2 qs => k (x :: xs) D2 H2 R2 (A1.trans A2) (.cons (q.after A2) (qs.back fun p n => A1.back R R1 n) fun ds hr i es' hs hx => ?_)⟩⟩
        subst hr
        obtain ⟨p, ys, rfl, o, _, _⟩ := q
        obtain ⟨y, hy, qy⟩ := qs.at hs
        rw [hx] at hy
        have hy' : V.ref p = y := Option.some.inj hy
        obtain ⟨p', ys', e', _, _, n'⟩ := qy
        rw [← hy'] at e'
        cases e'
        rw [o.at_] at n'; cases n'
      · cases ev
    · cases ev
theorem par_run {is : List Nat} {es : List E} {D : Ends} {σ : L2.St} {H : Hp} {P : Par} {Q : List V → Hp → Prop} (q : tS P cal fu (.par is es) D σ H)
    (k : ∀ xs H', xs.length = is.length → (∀ p o, H' p = none → D.nx (setVs is xs σ) (upd H' p o)) → D.nx (setVs is xs σ) H' → Q xs H') : tP P cal es σ H Q := by
  obtain ⟨Dk, g, r, R, ev, kk⟩ := q
  simp only [exS] at ev
  split at ev
  · rename_i rs g1 e1
    obtain ⟨env, he, e2⟩ := map_some ev
    cases e2
    refine ⟨Dk, g, rs, g1, R, e1, fun xs D' H' R' A qs => ?_⟩
    obtain ⟨R2, l⟩ := R'.setRs qs he
    exact k xs H' l (fun p o n => kk _ D' _ (R2.pushH n) A.mono) (kk _ D' H' R2 A.mono)
  · cases ev
theorem p_par {is : List Nat} {es : List E} {ts vs : List Expr} {k k2 : Nat} {p p2 pos : Pos} (C : CxOk Γ X cal) (xs : XS X) (h : ckS Γ (.par is es) (.Assign [.Tuple ts k p] (.Tuple vs k2 p2) pos) = true) :
    PS X (.Assign [.Tuple ts k p] (.Tuple vs k2 p2) pos) (tS (mkP X.K f) cal fu (.par is es)) := by
  simp only [ckS, Bool.and_eq_true, decide_eq_true_eq] at h
  obtain ⟨⟨⟨h1, h2⟩, h3⟩, h4⟩ := h
  obtain ⟨p1, pl, p3⟩ := g_names C h1
  have pa := l_par (f := f) C h2
  split at h4
  · rename_i hsw
    have hw : swappedStores [.Tuple ts k p] (.Tuple vs k2 p2) X.env = pure none := sw_ok xs.kd (by rw [C.sc]; exact hsw)
    refine PS_imp (ps_asg (pe_tup pa) (pg_tup C.calm p1 pl p3) rfl hw rfl) fun D σ H q => par_run q fun vs' H' l k1 _ => ⟨?_, fun t nt => ⟨t, vs', rfl, .inl (.inl upd_same), l, names_run l (k1 t _ nt)⟩⟩
    have hl : is.length ≤ 1000 := by
      have e1 : ∀ {is : List Nat} {ts : List Expr}, ckTgs Γ is ts = true → is.length = ts.length := by
        intro is
        induction is with
        | nil => intro ts h; cases ts with | nil => rfl | cons => simp [ckTgs] at h
        | cons i is ih =>
          intro ts h
          cases ts with
          | nil => simp [ckTgs] at h
          | cons t ts =>
            cases t <;> first | (simp [ckTgs] at h; done) | skip
            simp only [ckTgs, Bool.and_eq_true] at h
            rw [List.length_cons, List.length_cons, ih h.2]
      have e2 : ∀ {es : List E} {vs : List Expr}, ckL Γ es vs = true → es.length = vs.length := by
        intro es
        induction es with
        | nil => intro vs h; cases vs with | nil => rfl | cons => simp [ckL] at h
        | cons e es ih =>
          intro vs h
          cases vs with
          | nil => simp [ckL] at h
          | cons v vs =>
            simp only [ckL, Bool.and_eq_true] at h
            rw [List.length_cons, List.length_cons, ih h.2]
      obtain ⟨Dk, g, r, R, ev, kk⟩ := q
      simp only [exS] at ev
      split at ev
      · rename_i rs g1 e3
        obtain ⟨env, he, _⟩ := map_some ev
        have e4 : ∀ {es : List E} {g g' : G} {rs : List RV}, evP cal es g = some (rs, g') → rs.length = es.length := by
          intro es
          induction es with
          | nil => intro g g' rs h; cases h; rfl
          | cons e es ih =>
            intro g g' rs h
            unfold evP at h
            split at h
            · split at h
              · rename_i h2; cases h; rw [List.length_cons, List.length_cons, ih h2]
              · cases h
            · cases h
        have e5 : ∀ {is : List Nat} {rs : List RV} {env env' : List Sl}, setRs is rs env = some env' → is.length = rs.length := by
          intro is
          induction is with
          | nil => intro rs env env' h; cases rs with | nil => rfl | cons => cases h
          | cons i is ih => intro rs env env' h; cases rs with | nil => cases h | cons r rs => rw [List.length_cons, List.length_cons, ih h]
        rw [e5 he, e4 e3, e2 h2]
        exact h3
      · cases ev
    rw [l, slim]; omega
  · rename_i ns hsw
    have hw : swappedStores [.Tuple ts k p] (.Tuple vs k2 p2) X.env = pure (some ns) := sw_ok xs.kd (by rw [C.sc]; exact hsw)
    unfold ckSw at h4
    split at h4
    · rename_i i j x px y py x' y'
      simp only [Bool.and_eq_true, decide_eq_true_eq] at h4
      obtain ⟨⟨⟨⟨rfl, rfl⟩, q3⟩, q4⟩, q5⟩ := h4
      have n1 := (name_of (p := px) C (i := i) (x := x) (by
        simp only [ckTgs, Bool.and_eq_true] at h1 ⊢; exact ⟨h1.1, trivial⟩)).1
      have n2 := (name_of (p := py) C (i := j) (x := y) (by
        simp only [ckTgs, Bool.and_eq_true] at h1 ⊢; exact h1.2)).1
      have lv : vs.length = 2 := by
        unfold swE at hsw
        split at hsw
        · cases hsw
        · rename_i c; simp at c; exact c
      match vs, lv with
      | [a, b], _ =>
        refine PS_imp (ps_par C.calm C.nd n1 n2 q3 (by rw [C.sc]; exact q4) (by rw [C.sc]; exact q5) pa hw rfl) fun D σ H q => par_run q fun xs H' l _ k2 => ?_
        match xs, l with
        | [u, w], _ => exact ⟨u, w, rfl, k2⟩
    · rename_i i j l x px y py z pz x' y' z'
      simp only [Bool.and_eq_true, decide_eq_true_eq] at h4
      obtain ⟨⟨⟨⟨⟨⟨⟨⟨rfl, rfl⟩, rfl⟩, q3⟩, q4⟩, q5⟩, q6⟩, q7⟩, q8⟩ := h4
      have n1 := (name_of (p := px) C (i := i) (x := x) (by
        simp only [ckTgs, Bool.and_eq_true] at h1 ⊢; exact ⟨h1.1, trivial⟩)).1
      have n2 := (name_of (p := py) C (i := j) (x := y) (by
        simp only [ckTgs, Bool.and_eq_true] at h1 ⊢; exact ⟨h1.2.1, trivial⟩)).1
      have n3 := (name_of (p := pz) C (i := l) (x := z) (by
        simp only [ckTgs, Bool.and_eq_true] at h1 ⊢; exact h1.2.2)).1
      have lv : vs.length = 3 := by
        unfold swE at hsw
        split at hsw
        · cases hsw
        · rename_i c; simp at c; exact c
      match vs, lv with
      | [a, b, c], _ =>
        refine PS_imp (ps_par3 C.calm C.nd n1 n2 n3 q3 q4 q5 (by rw [C.sc]; exact q6) (by rw [C.sc]; exact q7) (by rw [C.sc]; exact q8) pa hw rfl) fun D σ H q => par_run q fun xs H' l _ k2 => ?_
        match xs, l with
        | [u, w, t], _ => exact ⟨u, w, t, rfl, k2⟩
    · cases h4
  · cases h4

/-! ### name op= e, name[i] = e, name.append(e) -/
theorem p_aug {i : Nat} {o : Bop} {e : E} {x : Str} {p pos : Pos} {op : Operator} {v : Expr} (C : CxOk Γ X cal) (h : ckS Γ (.aug i o e) (.AugAssign (.Name x p) op v pos) = true) :
    PS X (.AugAssign (.Name x p) op v pos) (tS (mkP X.K f) cal fu (.aug i o e)) := by
  simp only [ckS, Bool.and_eq_true, decide_eq_true_eq] at h
  obtain ⟨⟨h1, rfl⟩, h3⟩ := h
  obtain ⟨n1, n2, n3⟩ := name_of C h1
  have he := (snd_all e).e Γ X f v C h3
  cases o <;> first
    | refine PS_imp (ps_aug C.nd n1 n2 he ip_add n3) fun D σ H ⟨Dk, g, r, R, ev, k⟩ => ?_
    | refine PS_imp (ps_aug C.nd n1 n2 he ip_sub n3) fun D σ H ⟨Dk, g, r, R, ev, k⟩ => ?_
    | refine PS_imp ps_never fun D σ H ⟨Dk, g, r, R, ev, k⟩ => ?_
  all_goals
    simp only [exS] at ev
    split at ev
    · rename_i a ha
      split at ev
      · rename_i b g1 e1
        first
          | (cases ev; done)
          | (cases ev
             obtain ⟨va, hv, qa⟩ := peek_ok R ha
             have qa : Dq X.K Dk va (.int a) := qa
             exact ⟨va, hv, shared R e1 (d := .int b) rfl fun y D' H' R' A q => ⟨a, b, int_of qa, int_of q, k _ D' H' (R'.setD (.int _)) A.mono⟩⟩)
      · cases ev
    · cases ev
theorem peek_at {i : Nat} {g : G} {r : RV} (h : peek i g = some r) : g.env[i]? = some (some r) := by
  unfold peek at h
  split at h
  · rename_i e; cases h; exact e
  · cases h
theorem can_val {P : Par} {i : Nat} {g : G} {D H : Hp} {σ : L2.St} (R : Rel P D g σ H) (h : canPut i g = true) : ∃ w, σ[i]? = some (some w) := by
  unfold canPut at h
  split at h
  · rename_i ds hp
    obtain ⟨pp, xs, e4, _⟩ := R.slot i _ (peek_at hp)
    exact ⟨_, e4⟩
  · rename_i hp
    obtain ⟨a, _, e4⟩ := R.slot i _ (peek_at hp)
    exact ⟨_, e4⟩
  · cases h
theorem p_setix {i : Nat} {ix e : E} {x : Str} {p sp pos : Pos} {ie v : Expr} (C : CxOk Γ X cal) (h : ckS Γ (.setix i ix e) (.Assign [.Subscript (.Name x p) ie sp] v pos) = true) :
    PS X (.Assign [.Subscript (.Name x p) ie sp] v pos) (tS (mkP X.K f) cal fu (.setix i ix e)) := by
  simp only [ckS, Bool.and_eq_true, Bool.not_eq_true'] at h
  obtain ⟨⟨⟨h1, h2⟩, h3⟩, h4⟩ := h
  simp only [ckE, Bool.and_eq_true, decide_eq_true_eq, Bool.not_eq_true'] at h1
  obtain ⟨⟨⟨a1, a2⟩, a3⟩, a4⟩ := h1
  have vis : Vis X.env.scope x := by
    rw [C.sc]
    unfold Ck.vis at a2
    split at a2
    · exact .inl (by assumption)
    · exact .inr (.inl (by assumption))
    · exact .inr (.inr (by assumption))
    · cases a2
  have pn : PE X (.Name x p) (tVar i) := pe_var (by rw [C.N]; exact a1) vis a3 a4
  have ha : ∀ w, assign (.Subscript (.Name x p) ie sp) X.env w = (do
      let ov ← holding [w] (eval (.Name x p) X.env)
      let iv ← holding [w, ov] (eval ie X.env)
      standAt sp
      holding [w, ov, iv] (setItem ov iv w)
      release [w, ov, iv] []) := by
    have := ck_plain h2
    intro w
    cases ie <;> first | rfl | (simp [plainE] at this)
  have hs : swapsWithSole [.Subscript (.Name x p) ie sp] v pos.line X.env = pure false := by
    show swapsWith v (some (.Subscript (.Name x p) ie sp)) pos.line X.env = pure false
    exact noLC h3 h4 _ _ _
  refine PS_imp (ps_asg ((snd_all e).e Γ X f v C h3) (pg_sub pn ((snd_all ix).e Γ X f ie C h2) set_list ha) hs (by cases v <;> rfl) rfl) fun D σ H ⟨Dk, g, r, R, ev, k⟩ => ?_
  simp only [exS] at ev
  split at ev
  · rename_i rv g1 e1
    split at ev
    · rename_i y hy
      split at ev
      · rename_i hcan
        split at ev
        · rename_i kk g2 e2
          obtain ⟨g3, hp, e3⟩ := map_some ev
          cases e3
          refine shared R e1 hy fun vy D1 H1 R1 A1 q1 => ?_
          obtain ⟨w, hw⟩ := can_val R1 hcan
          refine ⟨w, hw, shared R1 e2 (d := .int kk) rfl fun vk D2 H2 R2 A2 q2 => ?_⟩
          unfold putIx at hp
          split at hp
          · rename_i ds hpk
            split at hp
            · rename_i j hj
              cases hp
              have hi := peek_at hpk
              obtain ⟨pp, xs, e4, o⟩ := R2.slot i _ hi
              rw [hw] at e4; cases e4
              exact ⟨pp, xs, kk, j, rfl, int_of q2, o.at_, by rw [o.all.len]; exact hj, k _ D2 _ (R2.writeOwn hi hw ((o.all).set (q1.mono A2.mono) j)) (A1.mono.trans A2.mono)⟩
            · cases hp
          · rename_i hpk
            split at hp
            · rename_i v' b hb
              obtain ⟨b', hb', e5⟩ := map_some hp
              cases e5
              have hi := peek_at hpk
              obtain ⟨a, ea, e4⟩ := R2.slot i _ hi
              rw [hw] at e4; cases e4
              obtain ⟨u1, u2, u3, c1, c2, c3⟩ := R2.box a ea
              rw [hb] at c1
              cases c1
              have hv := int_of q1
              subst hv
              have hk := int_of q2
              unfold setBox at hb'
              split at hb'
              · rename_i z; cases hb'; subst z
                exact ⟨a, _, 0, 0, rfl, hk, c2, rfl, k _ D2 _ (R2.writeBox ea) (A1.mono.trans A2.mono)⟩
              · split at hb'
                · rename_i z; cases hb'; subst z
                  exact ⟨a, _, 1, 1, rfl, hk, c2, rfl, k _ D2 _ (R2.writeBox ea) (A1.mono.trans A2.mono)⟩
                · split at hb'
                  · rename_i z; cases hb'; subst z
                    exact ⟨a, _, 2, 2, rfl, hk, c2, rfl, k _ D2 _ (R2.writeBox ea) (A1.mono.trans A2.mono)⟩
                  · cases hb'
            · cases hp
          · cases hp
        · cases ev
      · cases ev
    · cases ev
  · cases ev
theorem p_app {i : Nat} {e : E} {x : Str} {p ap cp pos : Pos} {v : Expr} (C : CxOk Γ X cal) (h : ckS Γ (.app i e) (.Expr (.Call (.Attribute (.Name x p) "append" ap) [v] [] cp) pos) = true) :
    PS X (.Expr (.Call (.Attribute (.Name x p) "append" ap) [v] [] cp) pos) (tS (mkP X.K f) cal fu (.app i e)) := by
  simp only [ckS, Bool.and_eq_true, decide_eq_true_eq] at h
  obtain ⟨⟨⟨_, hl⟩, h1⟩, h3⟩ := h
  simp only [ckE, Bool.and_eq_true, decide_eq_true_eq, Bool.not_eq_true'] at h1
  obtain ⟨⟨⟨a1, a2⟩, a3⟩, a4⟩ := h1
  have vis : Vis X.env.scope x := by
    rw [C.sc]
    unfold Ck.vis at a2
    split at a2
    · exact .inl (by assumption)
    · exact .inr (.inl (by assumption))
    · exact .inr (.inr (by assumption))
    · cases a2
  have pn : PE X (.Name x p) (tVar i) := pe_var (by rw [C.N]; exact a1) vis a3 a4
  have hst := star_of (es := []) (env := X.env) h3
  refine PS_imp (ps_expr (pe_bm PySem.F.plainAttrs_list PySem.F.slot_list_append PySem.F.type_list_append mt_append pn (pa_cons ((snd_all e).e Γ X f v C h3) pa_nil hst) rfl (by rw [hst]; rfl) hl hst rfl) rfl) fun D σ H ⟨Dk, g, r, R, ev, k⟩ => ?_
  simp only [exS] at ev
  split at ev
  · rename_i hcan
    split at ev
    · rename_i rv g1 e1
      split at ev
      · rename_i y hy
        obtain ⟨g3, hp, e3⟩ := map_some ev
        cases e3
        obtain ⟨w, hw⟩ := can_val R hcan
        have hlist : tyV X.K "list" w H := by
          unfold canPut at hcan
          split at hcan
          · rename_i ds hpk
            obtain ⟨pp, xs, e4, o⟩ := R.slot i _ (peek_at hpk)
            rw [hw] at e4; cases e4
            exact .inl ⟨rfl, xs, .inl (.inl o.at_)⟩
          · rename_i hpk
            obtain ⟨a, ea, e4⟩ := R.slot i _ (peek_at hpk)
            rw [hw] at e4; cases e4
            obtain ⟨u1, u2, u3, c1, c2, c3⟩ := R.box a ea
            exact .inl ⟨rfl, _, .inl (.inl c2)⟩
          · cases hcan
        refine ⟨w, hw, hlist, shared R e1 hy fun vy D1 H1 R1 A1 q1 => ?_⟩
        unfold appE at hp
        split at hp
        · rename_i ds hpk
          split at hp
          · rename_i hz
            cases hp
            have hi := peek_at hpk
            obtain ⟨pp, xs, e4, o⟩ := R1.slot i _ hi
            rw [hw] at e4; cases e4
            refine ⟨pp, xs, vy, rfl, rfl, o.at_, ?_, k _ D1 _ (R1.writeOwn hi hw (o.all.append (.cons q1 .nil))) A1.mono⟩
            have hz := of_decide_eq_true hz
            rw [o.all.len, slim]; exact hz
          · cases hp
        · cases hp
      · cases ev
    · cases ev
  · cases ev

/-! ### blocks, tests, loops, return -/
theorem b_skip : PSs X [] (tS (mkP X.K f) cal fu .skip) := PSs_imp pss_nil fun D σ H ⟨Dk, g, r, R, ev, k⟩ => by
  cases ev
  exact k σ Dk H R (Sub.refl _)
theorem b_seq {a b : S} {st : Stmt} {sts : List Stmt} (ha : PS X st (tS (mkP X.K f) cal fu a)) (hb : PSs X sts (tS (mkP X.K f) cal fu b)) : PSs X (st :: sts) (tS (mkP X.K f) cal fu (.seq a b)) := by
  refine PSs_imp (pss_cons ha hb) fun D σ H ⟨Dk, g, r, R, ev, k⟩ => ?_
  simp only [exS] at ev
  cases e1 : exS cal fu a g with
  | none => rw [e1] at ev; cases ev
  | some r1 =>
    rw [e1] at ev
    refine ⟨Dk, g, r1, R, e1, ?_⟩
    cases r1 with
    | nx g1 => exact fun σ' D' H' R' s => ⟨D', g1, r, R', ev, k.mono s⟩
    | rt rv bx => cases ev; exact k
    | bk g1 => cases ev; exact k
    | ct g1 => cases ev; exact k
theorem p_ite {c : E} {a b : S} {t : Expr} {x y : List Stmt} {pos : Pos} (hc : PT X t (tT (mkP X.K f) cal c)) (ha : PSs X x (tS (mkP X.K f) cal fu a)) (hb : PSs X y (tS (mkP X.K f) cal fu b)) : PS X (.If t x y pos) (tS (mkP X.K f) cal fu (.ite c a b)) := by
  refine PS_imp (ps_if hc ha hb) fun D σ H ⟨Dk, g, r, R, ev, k⟩ => ?_
  simp only [exS] at ev
  split at ev
  · rename_i xv g1 e1
    split at ev
    · rename_i ht
      exact ⟨Dk, g, xv, g1, true, R, e1, ht, fun D' H' R' A => iteT ⟨D', g1, r, R', ev, k.mono A.mono⟩⟩
    · rename_i ht
      exact ⟨Dk, g, xv, g1, false, R, e1, ht, fun D' H' R' A => iteF ⟨D', g1, r, R', ev, k.mono A.mono⟩⟩
    · cases ev
  · cases ev
theorem p_ret {e : E} {v : Expr} {pos : Pos} (C : CxOk Γ X cal) (h : ckE Γ e v = true) : PS X (.Return (some v) pos) (tS (mkP X.K f) cal fu (.ret e)) := by
  have fin : ∀ {D : Ends} {σ : L2.St} {H Dk : Hp} {g g1 : G} {rv r : RV}, Rel (mkP X.K f) Dk g σ H → evE cal e g = some (rv, g1) → rv ≠ .box → Fin (mkP X.K f) Dk D (.rt rv g1.bx) → tE (mkP X.K f) cal e σ H D.rt := fun R e1 nb k =>
    ⟨_, _, _, _, R, e1, fun x D' H' R' A q => k x D' H' ⟨⟨_, _, R', rfl⟩, by
      rename_i rv _
      cases rv with
      | dat d => exact q
      | box => exact absurd rfl nb
      | own ds => obtain ⟨p, xs, e, o, _⟩ := q; exact ⟨p, xs, e, o⟩⟩ A.mono⟩
  by_cases hv : ∃ i, e = .var i
  · obtain ⟨i, rfl⟩ := hv
    cases v <;> first | (simp [ckE] at h; done) | skip
    rename_i x p
    have h0 := h
    simp only [ckE, Bool.and_eq_true, decide_eq_true_eq, Bool.not_eq_true'] at h
    obtain ⟨⟨⟨a1, a2⟩, a3⟩, a4⟩ := h
    have vis : Vis X.env.scope x := by
      rw [C.sc]
      unfold Ck.vis at a2
      split at a2
      · exact .inl (by assumption)
      · exact .inr (.inl (by assumption))
      · exact .inr (.inr (by assumption))
      · cases a2
    refine PS_imp (ps_ret (pe_var (by rw [C.N]; exact a1) vis a3 a4)) fun D σ H ⟨Dk, g, r, R, ev, k⟩ => ?_
    simp only [exS, evRet, pk] at ev
    cases hp : peek i g with
    | none =>
      exfalso
      rw [hp] at ev
      unfold peek at hp
      simp only [evE, rd] at ev
      split at hp
      · cases hp
      · rename_i hn
        split at ev
        · cases ev
        · rename_i q
          split at q
          · rename_i q2; exact hn _ q2
          · rename_i q2; exact hn _ q2
          · cases q
        · cases ev
    | some rv =>
      rw [hp] at ev
      cases rv with
      | own ds =>
        cases ev
        obtain ⟨pp, xs, e4, o⟩ := R.slot i _ (peek_at hp)
        exact ⟨_, e4, k _ Dk H ⟨⟨g, σ, R, rfl⟩, pp, xs, rfl, o⟩ (Sub.refl _)⟩
      | dat d =>
        simp only [evE] at ev
        split at ev
        · cases ev
        · rename_i rv g1 nb e1
          cases ev
          obtain ⟨w, D', hw, R', A, q⟩ := rd_ok R e1
          refine ⟨w, hw, k w D' H ⟨⟨_, _, R', rfl⟩, ?_⟩ A.mono⟩
          cases rv with
          | dat d => exact q
          | box => exact absurd rfl nb
          | own ds => obtain ⟨p, xs, e, o, _⟩ := q; exact ⟨p, xs, e, o⟩
        · cases ev
      | box =>
        exfalso
        simp only [evE] at ev
        have : rd i g = some (.box, g) := by
          have := peek_at hp
          unfold rd
          rw [this]
        rw [this] at ev
        cases ev
  · have hpk : ∀ g, pk e g = none := fun g => by
      cases e <;> first | rfl | exact absurd ⟨_, rfl⟩ hv
    refine PS_imp (ps_ret ((snd_all e).e Γ X f v C h)) fun D σ H ⟨Dk, g, r, R, ev, k⟩ => ?_
    simp only [exS, evRet, hpk] at ev
    split at ev
    · cases ev
    · rename_i rv g1 nb e1
      cases ev
      exact fin (r := rv) R e1 (fun z => nb z) k
    · cases ev
theorem p_loop {src : E} {tg : Tg} {b : S} {t it : Expr} {body : List Stmt} {pos : Pos} (C : CxOk Γ X cal) (xs : XS X) (hi : PI X t it (tI (mkP X.K f) cal src)) (hg : PG X t (gT X.K tg)) (hb : PSs X body (tS (mkP X.K f) cal fu b))
    (hf : ∀ v, foldedSetIterable it X.env v = pure v) : PS X (.For t it body [] pos) (tS (mkP X.K f) cal fu (.loop src tg b)) := by
  refine PS_imp (ps_for xs.own C.calm hi hg hb hf) fun D σ H ⟨Dk, g, r, R, ev, k⟩ => ?_
  simp only [exS] at ev
  split at ev
  · rename_i ds g1 e1
    refine ⟨Dk, g, ds, g1, R, e1, fun J D1 H1 R1 A1 W => ?_⟩
    refine ⟨fun i m σ H => m = ds.length - i ∧ i ≤ ds.length ∧ ∃ D2 g2, Rel (mkP X.K f) D2 g2 σ H ∧ Sub D1 D2 ∧ forL tg (exS cal fu b) (ds.drop i) g2 = some r, ⟨ds.length, rfl, Nat.zero_le _, D1, g1, R1, Sub.refl _, ev⟩, ?_⟩
    rintro i m σ2 H2 ⟨rfl, hi, D2, g2, R2, s2, el⟩
    by_cases hlt : i < ds.length
    · refine .inr ⟨W.goes D2 H2 i s2 R2.sub hlt, fun σ' H' => i + 1 ≤ ds.length ∧ ∃ D3 g3, Rel (mkP X.K f) D3 g3 σ' H' ∧ Sub D1 D3 ∧ forL tg (exS cal fu b) (ds.drop (i + 1)) g3 = some r, fun σ' H' h => ⟨ds.length - (i + 1), by omega, rfl, h.1, h.2⟩, fun x H3 y => ?_⟩
      obtain ⟨d, D3, hd, res⟩ := W.yields D2 H2 i x H3 s2 R2.sub hlt y
      obtain ⟨R3, A3, q3⟩ := Res.go R2 res
      have q3 : Dq X.K D3 x d := q3
      have dr : ds.drop i = d :: ds.drop (i + 1) := by
        rw [List.drop_eq_getElem_cons hlt]
        rw [List.getElem?_eq_getElem hlt] at hd
        rw [Option.some.inj hd]
      rw [dr] at el
      unfold forL at el
      split at el
      · cases el
      · rename_i env hbd
        refine gT_run R3 q3 hbd fun σ4 R4 _ => ?_
        have s3 : Sub D1 D3 := s2.trans A3.mono
        cases eb : exS cal fu b { g2 with env := env } with
        | none => rw [eb] at el; cases el
        | some rb =>
          rw [eb] at el
          refine ⟨D3, _, rb, R4, eb, ?_⟩
          cases rb with
          | nx g5 => exact fun σ' D' H' R' s => ⟨hlt, D', g5, R', s3.trans s, el⟩
          | ct g5 => exact fun σ' D' H' R' s => ⟨hlt, D', g5, R', s3.trans s, el⟩
          | bk g5 => cases el; exact fun σ' D' H' R' s => k σ' D' H' R' ((A1.mono.trans s3).trans s)
          | rt rv bx => cases el; exact fun x D' H' R' s => k x D' H' R' ((A1.mono.trans s3).trans s)
    · have e : i = ds.length := by omega
      subst e
      rw [List.drop_length] at el
      cases el
      exact .inl ⟨W.stops D2 H2 s2 R2.sub, k σ2 D2 H2 R2 (A1.mono.trans s2)⟩
  · cases ev
theorem p_whil {c : E} {b : S} {t : Expr} {body : List Stmt} {pos : Pos} (xs : XS X) (hc : PT X t (tT (mkP X.K f) cal c)) (hb : PSs X body (tS (mkP X.K f) cal fu b)) : PS X (.While t body [] pos) (tS (mkP X.K f) cal fu (.whil c b)) := by
  refine PS_imp (ps_while xs.own hc hb) fun D σ H ⟨Dk, g, r, R, ev, k⟩ => ?_
  simp only [exS] at ev
  refine ⟨fun m σ H => ∃ D2 g2, Rel (mkP X.K f) D2 g2 σ H ∧ Sub Dk D2 ∧ whL (evE cal c) (exS cal fu b) m g2 = some r, ⟨fu, Dk, g, R, Sub.refl _, ev⟩, ?_⟩
  rintro m σ2 H2 ⟨D2, g2, R2, s2, el⟩
  cases m with
  | zero => cases el
  | succ m =>
    unfold whL at el
    split at el
    · cases el
    · rename_i xv g3 e1
      split at el
      · cases el
      · rename_i ht
        cases el
        exact ⟨D2, g2, xv, g3, false, R2, e1, ht, fun D' H' R' A => iteF (k σ2 D' H' R' (s2.trans A.mono))⟩
      · rename_i ht
        refine ⟨D2, g2, xv, g3, true, R2, e1, ht, fun D3 H3 R3 A3 => iteT ⟨fun σ' H' => ∃ D4 g4, Rel (mkP X.K f) D4 g4 σ' H' ∧ Sub Dk D4 ∧ whL (evE cal c) (exS cal fu b) m g4 = some r, fun σ' H' h => ⟨m, Nat.lt_succ_self _, h⟩, ?_⟩⟩
        have s3 : Sub Dk D3 := s2.trans A3.mono
        cases eb : exS cal fu b g3 with
        | none => rw [eb] at el; cases el
        | some rb =>
          rw [eb] at el
          refine ⟨D3, g3, rb, R3, eb, ?_⟩
          cases rb with
          | nx g5 => exact fun σ' D' H' R' s => ⟨D', g5, R', s3.trans s, el⟩
          | ct g5 => exact fun σ' D' H' R' s => ⟨D', g5, R', s3.trans s, el⟩
          | bk g5 => cases el; exact fun σ' D' H' R' s => k σ' D' H' R' (s3.trans s)
          | rt rv bx => cases el; exact fun x D' H' R' s => k x D' H' R' (s3.trans s)
end
end PX
set_option Elab.async false
set_option autoImplicit false
set_option maxRecDepth 100000
set_option maxHeartbeats 8100000
/-! PXN: all statements; a def's body. -/
namespace PX
open PySem.Spec L2 PyProof.Rows PySem
section
variable {Γ : Ck} {X : Cx} {cal : Cal} {f : Fx} {fu : Nat} {st : Stmt} {sts : List Stmt}
theorem inv_asg {i : Nat} {e : E} (h : ckS Γ (.asg i e) st = true) : ∃ x p v pos, st = .Assign [.Name x p] v pos := by
  unfold ckS at h; split at h <;> first | (exact ⟨_, _, _, _, rfl⟩) | (rename_i q; cases q) | (rename_i q _; cases q) | (cases h) | skip
  all_goals first | (rename_i q; cases q; exact ⟨_, _, _, _, rfl⟩) | (simp_all; done)
theorem inv_tas {i : List Nat} {e : E} (h : ckS Γ (.tas i e) st = true) : ∃ ts k p v pos, st = .Assign [.Tuple ts k p] v pos := by
  unfold ckS at h; split at h <;> first | (rename_i q; cases q; exact ⟨_, _, _, _, _, rfl⟩) | (simp_all; done)
theorem inv_par {i : List Nat} {e : List E} (h : ckS Γ (.par i e) st = true) : ∃ ts k p vs k2 p2 pos, st = .Assign [.Tuple ts k p] (.Tuple vs k2 p2) pos := by
  unfold ckS at h; split at h <;> first | (rename_i q; cases q; exact ⟨_, _, _, _, _, _, _, rfl⟩) | (simp_all; done)
theorem inv_aug {i : Nat} {o : Bop} {e : E} (h : ckS Γ (.aug i o e) st = true) : ∃ x p op v pos, st = .AugAssign (.Name x p) op v pos := by
  unfold ckS at h; split at h <;> first | (rename_i q; cases q; exact ⟨_, _, _, _, _, rfl⟩) | (simp_all; done)
theorem inv_setix {i : Nat} {ix e : E} (h : ckS Γ (.setix i ix e) st = true) : ∃ x p ie sp v pos, st = .Assign [.Subscript (.Name x p) ie sp] v pos := by
  unfold ckS at h; split at h <;> first | (rename_i q; cases q; exact ⟨_, _, _, _, _, _, rfl⟩) | (simp_all; done)
theorem inv_app {i : Nat} {e : E} (h : ckS Γ (.app i e) st = true) : ∃ x p m ap v cp pos, st = .Expr (.Call (.Attribute (.Name x p) m ap) [v] [] cp) pos := by
  unfold ckS at h; split at h <;> first | (rename_i q; cases q; exact ⟨_, _, _, _, _, _, _, rfl⟩) | (simp_all; done)
theorem inv_ite {c : E} {a b : S} (h : ckS Γ (.ite c a b) st = true) : ∃ t x y pos, st = .If t x y pos := by
  unfold ckS at h; split at h <;> first | (rename_i q; cases q; exact ⟨_, _, _, _, rfl⟩) | (simp_all; done)
theorem inv_loop {c : E} {a : Tg} {b : S} (h : ckS Γ (.loop c a b) st = true) : ∃ t it body pos, st = .For t it body [] pos := by
  unfold ckS at h; split at h <;> first | (rename_i q; cases q; exact ⟨_, _, _, _, rfl⟩) | (simp_all; done)
theorem inv_whil {c : E} {b : S} (h : ckS Γ (.whil c b) st = true) : ∃ t body pos, st = .While t body [] pos := by
  unfold ckS at h; split at h <;> first | (rename_i q; cases q; exact ⟨_, _, _, rfl⟩) | (simp_all; done)
theorem inv_ret {e : E} (h : ckS Γ (.ret e) st = true) : ∃ v pos, st = .Return (some v) pos := by
  unfold ckS at h; split at h <;> first | (rename_i q; cases q; exact ⟨_, _, rfl⟩) | (simp_all; done)
theorem inv_retn (h : ckS Γ .retn st = true) : ∃ pos, st = .Return none pos := by
  unfold ckS at h; split at h <;> first | (rename_i q; cases q; exact ⟨_, rfl⟩) | (exact ⟨_, rfl⟩) | (simp_all; done)
theorem inv_cont (h : ckS Γ .cont st = true) : ∃ pos, st = .Continue pos := by
  unfold ckS at h; split at h <;> first | (rename_i q; cases q; exact ⟨_, rfl⟩) | (exact ⟨_, rfl⟩) | (simp_all; done)
theorem inv_brk (h : ckS Γ .brk st = true) : ∃ pos, st = .Break pos := by
  unfold ckS at h; split at h <;> first | (rename_i q; cases q; exact ⟨_, rfl⟩) | (exact ⟨_, rfl⟩) | (simp_all; done)
theorem inv_pass (h : ckS Γ .pass st = true) : ∃ pos, st = .Pass pos := by
  unfold ckS at h; split at h <;> first | (rename_i q; cases q; exact ⟨_, rfl⟩) | (exact ⟨_, rfl⟩) | (simp_all; done)
theorem inv_seq {a b : S} (h : ckB Γ (.seq a b) sts = true) : ∃ x xs, sts = x :: xs := by
  unfold ckB at h; split at h <;> first | (rename_i q; cases q; exact ⟨_, _, rfl⟩) | (simp_all; done)
theorem inv_skip (h : ckB Γ .skip sts = true) : sts = [] := by
  unfold ckB at h; split at h <;> first | rfl | (rename_i q; cases q; rfl) | (simp_all; done)
theorem p_nx {s : S} (hx : ∀ g, exS cal fu s g = some (.nx g)) : PS X (.Pass (default : Pos)) (tS (mkP X.K f) cal fu s) := PS_imp ps_pass fun D σ H ⟨Dk, g, r, R, ev, k⟩ => by
  rw [hx] at ev; cases ev; exact k σ Dk H R (Sub.refl _)
structure SndS (cal : Cal) (fu : Nat) (z : S) : Prop where
  s : ∀ (Γ : Ck) (X : Cx) (f : Fx) (st : Stmt), CxOk Γ X cal → XS X → ckS Γ z st = true → PS X st (tS (mkP X.K f) cal fu z)
  b : ∀ (Γ : Ck) (X : Cx) (f : Fx) (st : List Stmt), CxOk Γ X cal → XS X → ckB Γ z st = true → PSs X st (tS (mkP X.K f) cal fu z)
theorem noB {s : S} (h : ckB Γ s sts = true) (n1 : s ≠ .skip) (n2 : ∀ a b, s ≠ .seq a b) : False := by
  unfold ckB at h
  split at h
  · exact n1 rfl
  · exact n2 _ _ rfl
  · cases h
theorem noS {s : S} (h : ckS Γ s st = true) (n : s = .skip ∨ ∃ a b, s = .seq a b) : False := by
  rcases n with rfl | ⟨a, b, rfl⟩
  · cases st <;> simp [ckS] at h
  · cases st <;> simp [ckS] at h
theorem snd_s (cal : Cal) (fu : Nat) : ∀ s, SndS cal fu s
  | .asg i e => ⟨fun Γ X f st C xs h => by obtain ⟨x, p, v, pos, rfl⟩ := inv_asg h; exact p_asg C h, fun Γ X f st C xs h => (noB h (by simp) (by simp)).elim⟩
  | .tas i e => ⟨fun Γ X f st C xs h => by obtain ⟨ts, k, p, v, pos, rfl⟩ := inv_tas h; exact p_tas C h, fun Γ X f st C xs h => (noB h (by simp) (by simp)).elim⟩
  | .par i e => ⟨fun Γ X f st C xs h => by obtain ⟨ts, k, p, vs, k2, p2, pos, rfl⟩ := inv_par h; exact p_par C xs h, fun Γ X f st C xs h => (noB h (by simp) (by simp)).elim⟩
  | .aug i o e => ⟨fun Γ X f st C xs h => by obtain ⟨x, p, op, v, pos, rfl⟩ := inv_aug h; exact p_aug C h, fun Γ X f st C xs h => (noB h (by simp) (by simp)).elim⟩
  | .setix i ix e => ⟨fun Γ X f st C xs h => by obtain ⟨x, p, ie, sp, v, pos, rfl⟩ := inv_setix h; exact p_setix C h, fun Γ X f st C xs h => (noB h (by simp) (by simp)).elim⟩
  | .app i e => ⟨fun Γ X f st C xs h => by
      obtain ⟨x, p, m, ap, v, cp, pos, rfl⟩ := inv_app h
      have hm : m = ("append" : Str) := by simp only [ckS, Bool.and_eq_true, decide_eq_true_eq] at h; exact h.1.1.1
      subst hm
      exact p_app C h, fun Γ X f st C xs h => (noB h (by simp) (by simp)).elim⟩
  | .ite c a b => ⟨fun Γ X f st C xs h => by
      obtain ⟨t, x, y, pos, rfl⟩ := inv_ite h
      simp only [ckS, Bool.and_eq_true] at h
      exact p_ite ((snd_all c).t Γ X f t C h.1.1) ((snd_s cal fu a).b Γ X f x C xs h.1.2) ((snd_s cal fu b).b Γ X f y C xs h.2), fun Γ X f st C xs h => (noB h (by simp) (by simp)).elim⟩
  | .skip => ⟨fun Γ X f st C xs h => (noS h (.inl rfl)).elim, fun Γ X f st C xs h => by cases inv_skip h; exact b_skip⟩
  | .seq a b => ⟨fun Γ X f st C xs h => (noS h (.inr ⟨_, _, rfl⟩)).elim, fun Γ X f st C xs h => by
      obtain ⟨x, ys, rfl⟩ := inv_seq h
      simp only [ckB, Bool.and_eq_true] at h
      exact b_seq ((snd_s cal fu a).s Γ X f x C xs h.1) ((snd_s cal fu b).b Γ X f ys C xs h.2)⟩
  | .loop src tg b => ⟨fun Γ X f st C xs h => by
      obtain ⟨t, it, body, pos, rfl⟩ := inv_loop h
      simp only [ckS, Bool.and_eq_true] at h
      exact p_loop C xs ((snd_all src).i Γ X f t it C h.1.1) (g_tg C h.1.2) ((snd_s cal fu b).b Γ X f body C xs h.2) (fold_of h.1.1), fun Γ X f st C xs h => (noB h (by simp) (by simp)).elim⟩
  | .whil c b => ⟨fun Γ X f st C xs h => by
      obtain ⟨t, body, pos, rfl⟩ := inv_whil h
      simp only [ckS, Bool.and_eq_true] at h
      exact p_whil xs ((snd_all c).t Γ X f t C h.1) ((snd_s cal fu b).b Γ X f body C xs h.2), fun Γ X f st C xs h => (noB h (by simp) (by simp)).elim⟩
  | .ret e => ⟨fun Γ X f st C xs h => by
      obtain ⟨v, pos, rfl⟩ := inv_ret h
      simp only [ckS] at h
      exact p_ret C h, fun Γ X f st C xs h => (noB h (by simp) (by simp)).elim⟩
  | .retn => ⟨fun Γ X f st C xs h => by
      obtain ⟨pos, rfl⟩ := inv_retn h
      exact PS_imp ps_retN fun D σ H ⟨Dk, g, r, R, ev, k⟩ => by
        cases ev; exact k .non Dk H ⟨⟨g, σ, R, rfl⟩, Dq.non⟩ (Sub.refl _), fun Γ X f st C xs h => (noB h (by simp) (by simp)).elim⟩
  | .cont => ⟨fun Γ X f st C xs h => by
      obtain ⟨pos, rfl⟩ := inv_cont h
      exact PS_imp ps_continue fun D σ H ⟨Dk, g, r, R, ev, k⟩ => by
        cases ev; exact k σ Dk H R (Sub.refl _), fun Γ X f st C xs h => (noB h (by simp) (by simp)).elim⟩
  | .brk => ⟨fun Γ X f st C xs h => by
      obtain ⟨pos, rfl⟩ := inv_brk h
      exact PS_imp ps_break fun D σ H ⟨Dk, g, r, R, ev, k⟩ => by
        cases ev; exact k σ Dk H R (Sub.refl _), fun Γ X f st C xs h => (noB h (by simp) (by simp)).elim⟩
  | .pass => ⟨fun Γ X f st C xs h => by
      obtain ⟨pos, rfl⟩ := inv_pass h
      exact PS_imp ps_pass fun D σ H ⟨Dk, g, r, R, ev, k⟩ => by
        cases ev; exact k σ Dk H R (Sub.refl _), fun Γ X f st C xs h => (noB h (by simp) (by simp)).elim⟩
end
end PX
set_option Elab.async false
set_option autoImplicit false
set_option maxRecDepth 100000
set_option maxHeartbeats 8100000
/-! PXO: a text's defs as a table; each keeps the evaluator's promise. -/
namespace PX
open PySem.Spec L2 PyProof.Rows PySem

structure FdD where
  nm : Str
  ps : List Str
  N : List Str
  body : S
def entryE (d : FdD) (args : List RV) : List Sl := args.map some ++ List.replicate (d.N.length - args.length) none
def runF (cal : Cal) (fu : Nat) (d : FdD) (args : List RV) (bx : Bx) : Option (RV × Bx) :=
  if args.length = d.ps.length then match exS cal fu d.body ⟨entryE d args, bx⟩ with
    | some (.rt r b) => some (r, b)
    | some (.nx g) => some (.dat .none, g.bx)
    | _ => none
  else none
def callN (T : List FdD) (fu : Nat) : Nat → Cal
  | 0 => fun _ _ _ => none
  | n + 1 => fun i args bx => match T[i]? with
    | some d => runF (callN T fu n) fu d args bx
    | none => none
/-- what is checked of the text for the whole table -/
structure Tab where
  T : List FdD
  cns : List (Str × PyData)
  bls : List Str
  kwl : List (Nat × Nat × List Str)
def Tab.ck (W : Tab) (N : List Str) (sc : Scope) : Ck := ⟨N, sc, sc, W.T.map fun d => (d.nm, d.ps), W.cns, W.bls, W.kwl⟩
/-- a def of the table and its text -/
def ckD (W : Tab) (d : FdD) (st : Stmt) : Bool := ckB (W.ck d.N (defScope st)) d.body (defBody st)
def scD (d : FdD) (st : Stmt) : Bool := (defScope st).kind == .function && !(defScope st).isCoroutine && !(defScope st).isGenerator && decide d.N.Nodup && decide (d.N.take d.ps.length = d.ps) &&
  (d.ps.all fun x => decide ((defScope st).names.lookup x = some .local) || decide ((defScope st).names.lookup x = some .cell)) && (defScope st).names.all fun y => decide (y.2 ≠ .free)
theorem sc_of {d : FdD} {st : Stmt} (h : scD d st = true) : FnScope d.N d.ps (defScope st) := by
  simp only [scD, Bool.and_eq_true, Bool.not_eq_true', decide_eq_true_eq, List.all_eq_true, Bool.or_eq_true] at h
  obtain ⟨⟨⟨⟨⟨⟨h1, h2⟩, h3⟩, h4⟩, h5⟩, h6⟩, h7⟩ := h
  refine ⟨?_, h2, h3, h4, h5, h6, h7⟩
  revert h1
  cases (defScope st).kind <;> intro h1 <;> first | rfl | (cases h1)
section
variable {P : Program} {w : World} {K : PySem.W.Frag} {mg : Str → Option Value} {base : Heap} {W : Tab}
/-- what the top has written of a def -/
structure FnFact (K : PySem.W.Frag) (mg : Str → Option Value) (W : Tab) (i : Nat) (d : FdD) (st : Stmt) (f : Addr) (fd : FuncData) : Prop where
  fn : Fun K d.nm d.nm st f fd
  mgf : mg d.nm = some (.ref f)
  bd : Binds K fd d.ps []
  kb : ∀ n ks, (i, n, ks) ∈ W.kwl → KBinds K fd d.ps ks (selL n ks.length (permOf d.ps n ks)) (selL n ks.length (permOf d.ps n ks))
  ck : ckD W d st = true
  sc : scD d st = true
structure TabOk (K : PySem.W.Frag) (mg : Str → Option Value) (W : Tab) : Prop where
  fns : ∀ i d, W.T[i]? = some d → ∃ st f fd, FnFact K mg W i d st f fd
  bls : ∀ x ∈ W.bls, mg x = none
  cns : ∀ x d, W.cns.lookup x = some d → ∃ v u, mg x = some u ∧ RelV v u ∧ ∀ H, Dq K H v d
theorem argsOk_slot {B : Option Addr} {H D : Hp} {d : FdD} {vs : List V} {rs : List RV} (h : ArgsOk ⟨K, B, H, D⟩ D vs rs) (i : Nat) (sl : Sl) (e : (entryE d rs)[i]? = some sl) :
    SlOk ⟨K, B, H, D⟩ D H sl (start d.N vs)[i]? ∧ ∀ ds, sl ≠ some (.own ds) := by
  unfold entryE at e
  unfold L2.start
  by_cases hi : i < rs.length
  · rw [List.getElem?_append_left (by rw [List.length_map]; exact hi), List.getElem?_map] at e
    rw [List.getElem?_append_left (by rw [List.length_map, h.len]; exact hi), List.getElem?_map]
    cases e1 : rs[i]? with
    | none => rw [e1] at e; cases e
    | some r =>
      rw [e1] at e
      have e2 : sl = some r := (Option.some.inj e).symm
      subst e2
      obtain ⟨x, hx, hr⟩ := h.get e1
      rw [hx]
      cases r with
      | dat d => exact ⟨⟨x, rfl, hr⟩, by simp⟩
      | box => obtain ⟨a, h1, rfl⟩ := hr; exact ⟨⟨a, h1, rfl⟩, by simp⟩
      | own ds => exact hr.elim
  · rw [List.getElem?_append_right (by rw [List.length_map]; omega), List.getElem?_replicate] at e
    split at e
    · cases e; exact ⟨trivial, by simp⟩
    · cases e
theorem fn_ok {fu n i : Nat} {d : FdD} {st : Stmt} {f : Addr} {fd : FuncData} (hT : W.T[i]? = some d) (F : FnFact K mg W i d st f fd) (ok : TabOk K mg W)
    (ih : ∀ j dj st fj fdj, W.T[j]? = some dj → FnFact K mg W j dj st fj fdj → FnOk P w K mg base CX0 n fj fdj dj.ps (spF (callN W.T fu n) K j)) :
    FnOk P w K mg base CX0 (n + 1) f fd d.ps (spF (callN W.T fu (n + 1)) K i) := by
  have SC := sc_of F.sc
  refine F.fn.ok SC (fun vs H Q E h => ?_) fun cdv A outer s H vs Q E hr h => ?_
  · obtain ⟨B, D, rs, bx, r, bx', _, _, ha, hc, _⟩ := h
    simp only [callN, hT, runF] at hc
    split at hc
    · rename_i hl; rw [ha.len]; exact hl
    · cases hc
  · obtain ⟨B, D, rs, bx, r, bx', sub, hb, ha, hc, q⟩ := h
    simp only [callN, hT, runF] at hc
    split at hc
    case isFalse => cases hc
    rename_i hl
    have C : CxOk (W.ck d.N (defScope st)) (cxOf CX0 P w K mg base d.N d.nm (defScope st) f cdv A outer s H E).nox (callN W.T fu n) := by
      refine ⟨rfl, SC.nd, rfl, rfl, by have := hr.un; show (A.deeper _).units + 65 < cLine; omega, fun x => ⟨fun h => h, fun h => ⟨h, rfl⟩⟩, fun j x ps hj => ?_, ok.bls, ok.cns⟩
      have hj : (W.T.map fun d => (d.nm, d.ps))[j]? = some (x, ps) := hj
      rw [List.getElem?_map] at hj
      cases hTj : W.T[j]? with
      | none => rw [hTj] at hj; cases hj
      | some dj =>
        rw [hTj] at hj
        cases hj
        obtain ⟨stj, fj, fdj, Fj⟩ := ok.fns j dj hTj
        exact ⟨fj, fdj, n, Fj.mgf, Fj.fn.kp, Fj.bd, hr, ih j dj stj fj fdj hTj Fj, Fj.kb⟩
    have XSS : XS (cxOf CX0 P w K mg base d.N d.nm (defScope st) f cdv A outer s H E).nox := ⟨rfl, SC.kind⟩
    refine ⟨_, (snd_s (callN W.T fu n) fu d.body).b _ _ ⟨B, H, D⟩ _ C XSS F.ck, ?_⟩
    have R0 : Rel ⟨K, B, H, D⟩ D ⟨entryE d rs, bx⟩ (start d.N vs) H := by
      refine ⟨sub, fun _ _ h _ => h, fun _ _ _ h => h, ?_, fun j sl e => (argsOk_slot ha j sl e).1, fun j l p es fs h1 => absurd rfl ((argsOk_slot ha j _ h1).2 es), hb⟩
      unfold entryE L2.start
      rw [List.length_append, List.length_append, List.length_map, List.length_map, ha.len, List.length_replicate, List.length_replicate]
    cases e : exS (callN W.T fu n) fu d.body ⟨entryE d rs, bx⟩ with
    | none => rw [e] at hc; cases hc
    | some rr =>
      rw [e] at hc
      refine ⟨D, _, rr, R0, e, ?_⟩
      cases rr with
      | bk g => cases hc
      | ct g => cases hc
      | nx g =>
        cases hc
        exact fun σ D' H' R s => q _ D' H' ⟨R.sub, s, R.old, R.new, R.box, Dq.non⟩
      | rt rv b =>
        cases hc
        intro x D' H' hv s
        obtain ⟨⟨g, σ, R, hg⟩, hv⟩ := hv
        refine q x D' H' ⟨R.sub, s, R.old, R.new, by rw [← hg]; exact R.box, ?_⟩
        cases r with
        | dat d => exact hv
        | box => exact hv
        | own ds => obtain ⟨p, xs, e1, o⟩ := hv; exact ⟨p, xs, e1, o.at_, o.all, o.no, o.new, o.nb⟩
theorem spF0 {fu i : Nat} {vs : List V} {H : Hp} {Q : VK} {E : XK} (h : spF (callN W.T fu 0) K i vs H Q E) : False := by
  obtain ⟨B, D, rs, bx, r, bx', _, _, _, hc, _⟩ := h
  cases hc
theorem tab_ok {fu : Nat} (ok : TabOk K mg W) : ∀ n i d st f fd, W.T[i]? = some d → FnFact K mg W i d st f fd → FnOk P w K mg base CX0 n f fd d.ps (spF (callN W.T fu n) K i)
  | 0, i, d, st, f, fd, _, _ => ⟨fun vs H Q E h => (spF0 h).elim, fun A outer s H args us vs Q E _ _ _ _ h => (spF0 h).elim⟩
  | n + 1, i, d, st, f, fd, hT, F => fn_ok hT F ok fun j dj stj fj fdj hj Fj => tab_ok ok n j dj stj fj fdj hj Fj

/-! ### how keywords bind -/
theorem sel_rel {vs zs : List V} {us ws : List Value} (a : Vals vs us) (b : Vals zs ws) : ∀ pm : List Nat, Vals (pm.filterMap fun i => (vs ++ zs)[i]?) (pm.filterMap fun i => (us ++ ws)[i]?)
  | [] => .nil
  | i :: pm => by
    have ab := a.append b
    rw [List.filterMap_cons, List.filterMap_cons]
    cases e : (vs ++ zs)[i]? with
    | none => rw [ab.none_of e]; exact sel_rel a b pm
    | some x =>
      obtain ⟨u, hu, r⟩ := ab.get e
      rw [hu]
      exact .cons r (sel_rel a b pm)
theorem kb_mk {fd : FuncData} {ps ks : List Str} {n : Nat} (np : ps ≠ []) (h : ∀ us ws : List Value, us.length = n → ws.length = ks.length → bindArgs fd ⟨us, ks.zip ws⟩ = pure (ps.zip ((permOf ps n ks).filterMap fun i => (us ++ ws)[i]?))) :
    KBinds K fd ps ks (selL n ks.length (permOf ps n ks)) (selL n ks.length (permOf ps n ks)) := by
  refine ⟨fun s us ws _ hl => ?_, fun {vs us zs ws} r1 r2 => ?_⟩
  · unfold selL at hl ⊢
    split
    · rename_i c
      exact .of_eq (h us ws c.1 c.2)
    · rename_i c
      rw [if_neg c] at hl
      cases ps with
      | nil => exact absurd rfl np
      | cons => cases hl
  · unfold selL
    rw [r1.length, r2.length]
    split
    · exact sel_rel r1 r2 _
    · exact .nil
end
end PX
set_option Elab.async false
set_option autoImplicit false
set_option maxRecDepth 100000
set_option maxHeartbeats 8100000
/-! PXP: the table behind a law's head. -/
namespace PX
open PySem.Spec L2 PyProof.Rows PySem

def defD (d : FdD) (st : Stmt) : He.DefD := ⟨(d.nm, none), d.nm, d.nm, defArgs st, defBody st, defScope st, [], []⟩
def fnL : List FdD → List Stmt → List He.DefD
  | d :: ds, st :: sts => defD d st :: fnL ds sts
  | _, _ => []
def cnF : Str × PyData → He.Fa
  | (x, .int i) => .int x i
  | (x, .str z) => .str x z
  | (x, _) => .glo x
def cnOk : Str × PyData → Bool
  | (_, .int _) => true
  | (_, .str _) => true
  | _ => false
def faL (W : Tab) : List He.Fa := W.T.map (fun d => .glo d.nm) ++ (W.bls.map .free ++ W.cns.map cnF)
theorem fnL_at : ∀ {ds : List FdD} {sts : List Stmt} {i : Nat} {d : FdD} {st : Stmt}, ds[i]? = some d → sts[i]? = some st → (fnL ds sts)[i]? = some (defD d st)
  | [], _, _, _, _, h, _ => by simp at h
  | _ :: _, [], _, _, _, _, h => by simp at h
  | d :: ds, st :: sts, 0, _, _, h, h2 => by simp at h h2; subst h; subst h2; rfl
  | d :: ds, st :: sts, i + 1, _, _, h, h2 => fnL_at (ds := ds) (sts := sts) (i := i) (by simpa using h) (by simpa using h2)
/-- how a def's parameters bind -/
def BdOk (d : FdD) (st : Stmt) : Prop := ∀ (kV doc pm : Value) (an : Option Addr) (cdv ct : Value) (us : List Value), us.length = d.ps.length →
  bindArgs (PySem.W.fnOf d.nm d.nm (defArgs st) (defBody st) (defScope st) .none kV doc pm an cdv ct) ⟨us, []⟩ = pure (d.ps.zip us)
def KbOk (d : FdD) (st : Stmt) (n : Nat) (ks : List Str) : Prop := d.ps ≠ [] ∧ ∀ (kV doc pm : Value) (an : Option Addr) (cdv ct : Value) (us ws : List Value), us.length = n → ws.length = ks.length →
  bindArgs (PySem.W.fnOf d.nm d.nm (defArgs st) (defBody st) (defScope st) .none kV doc pm an cdv ct) ⟨us, ks.zip ws⟩ = pure (d.ps.zip ((permOf d.ps n ks).filterMap fun i => (us ++ ws)[i]?))
/-- what is checked of each def's text -/
structure DefOk (W : Tab) (d : FdD) (st : Stmt) : Prop where
  ck : ckD W d st = true
  sc : scD d st = true
  bd : BdOk d st
def DefsOk (W : Tab) : List FdD → List Stmt → Prop
  | [], [] => True
  | d :: ds, st :: sts => DefOk W d st ∧ DefsOk W ds sts
  | _, _ => False
theorem DefsOk.at {W : Tab} : ∀ {ds : List FdD} {sts : List Stmt} {i : Nat} {d : FdD}, DefsOk W ds sts → ds[i]? = some d → ∃ st, sts[i]? = some st ∧ DefOk W d st
  | [], _, _, _, _, h => by simp at h
  | _ :: _, [], _, _, h, _ => h.elim
  | d :: ds, st :: sts, 0, _, h, h2 => by simp at h2; subst h2; exact ⟨st, rfl, h.1⟩
  | d :: ds, st :: sts, i + 1, _, h, h2 => by
    obtain ⟨st', a, b⟩ := DefsOk.at (i := i) h.2 (by simpa using h2)
    exact ⟨st', by simpa using a, b⟩
def KwsOk (T : List FdD) (sts : List Stmt) : List (Nat × Nat × List Str) → Prop
  | [] => True
  | (i, n, ks) :: r => (∃ d st, T[i]? = some d ∧ sts[i]? = some st ∧ KbOk d st n ks) ∧ KwsOk T sts r
theorem KwsOk.at {T : List FdD} {sts : List Stmt} : ∀ {l : List (Nat × Nat × List Str)} {i n : Nat} {ks : List Str}, KwsOk T sts l → (i, n, ks) ∈ l → ∃ d st, T[i]? = some d ∧ sts[i]? = some st ∧ KbOk d st n ks
  | [], _, _, _, _, h => by simp at h
  | (j, m, js) :: r, i, n, ks, h, h2 => by
    rcases List.mem_cons.mp h2 with e | h2
    · cases e; exact h.1
    · exact KwsOk.at h.2 h2
section
variable {K : PySem.W.Frag} {h : Heap} {mg : Str → Option Value} {W : Tab} {sts : List Stmt}
theorem funD_fun {x qual : Str} {st : Stmt} {kws : List (Str × V)} {f : Addr} {fd : FuncData} (F : FunD K x qual (defArgs st) (defBody st) (defScope st) [] kws f fd) : Fun K x qual st f fd := by
  obtain ⟨⟨oc, od, dV, kV, doc, pm, an, cdv, ct, osl, e, lk, c, dv, kw⟩, kp⟩ := F
  have : dV = .none := by
    rcases dv with ⟨_, rfl⟩ | ⟨n, _⟩
    · rfl
    · exact absurd rfl n
  subst this
  exact ⟨⟨oc, od, kV, doc, pm, an, cdv, ct, osl, e, lk, c⟩, kp⟩
theorem fact_of (X : K.In h) (G : h.Ns mainGlobals mg) (c : He.SaysD (faL W) (fnL W.T sts) K) (hk : KwsOk W.T sts W.kwl) {i : Nat} {d : FdD} {st : Stmt} (hi : W.T[i]? = some d) (hs : sts[i]? = some st) (D : DefOk W d st) :
    ∃ f fd, FnFact K mg W i d st f fd := by
  have fact : ∀ fa ∈ faL W, fa.ok K = true := fun fa hm => by
    obtain ⟨i, hi, e⟩ := List.mem_iff_getElem.mp hm
    exact c.fact i (f := fa) (by rw [List.getElem?_eq_getElem hi, e])
  obtain ⟨fd, F⟩ := c.def_ i (d := defD d st) (fnL_at hi hs)
  have F1 : Fun K d.nm d.nm st (He.fAd K (d.nm, none)) fd := funD_fun F
  have hg := He.glo_ok X G (fact (.glo d.nm) (by
    unfold faL
    exact List.mem_append_left _ (List.mem_map.mpr ⟨d, List.mem_of_getElem? hi, rfl⟩)))
  refine ⟨_, fd, F1, hg, F1.binds D.bd, fun n ks hm => ?_, D.ck, D.sc⟩
  obtain ⟨d', st', e1, e2, np, hb⟩ := hk.at hm
  rw [hi] at e1; cases e1
  rw [hs] at e2; cases e2
  obtain ⟨oc, od, kV, doc, pm, an, cdv, ct, osl, rfl, lk, hcd⟩ := F1.ex
  exact kb_mk np fun us ws h1 h2 => hb kV doc pm an cdv ct us ws h1 h2
theorem tab_of (X : K.In h) (G : h.Ns mainGlobals mg) (c : He.SaysD (faL W) (fnL W.T sts) K) (hd : DefsOk W W.T sts) (hk : KwsOk W.T sts W.kwl) (hc : W.cns.all cnOk = true) : TabOk K mg W := by
  have fact : ∀ fa ∈ faL W, fa.ok K = true := fun fa hm => by
    obtain ⟨i, hi, e⟩ := List.mem_iff_getElem.mp hm
    exact c.fact i (f := fa) (by rw [List.getElem?_eq_getElem hi, e])
  refine ⟨fun i d hi => ?_, fun x hx => He.free_ok X G (fact _ ?_), fun x d hx => ?_⟩
  · obtain ⟨st, hs, D⟩ := hd.at hi
    obtain ⟨f, fd, F⟩ := fact_of X G c hk hi hs D
    exact ⟨st, f, fd, F⟩
  · unfold faL
    exact List.mem_append_right _ (List.mem_append_left _ (List.mem_map.mpr ⟨x, hx, rfl⟩))
  · have hm : (x, d) ∈ W.cns := by
      have := PySem.mem_of_lookup hx
      exact this
    have ok := List.all_eq_true.mp hc _ hm
    have hf := fact (cnF (x, d)) (by
      unfold faL
      exact List.mem_append_right _ (List.mem_append_right _ (List.mem_map.mpr ⟨_, hm, rfl⟩)))
    cases d <;> first | (cases ok; done) | skip
    · rename_i i
      obtain ⟨t, ht⟩ := He.int_ok X G hf
      exact ⟨.int i, _, ht, ⟨t, rfl⟩, fun H => .int i⟩
    · rename_i z
      obtain ⟨t, ht⟩ := He.str_ok X G hf
      exact ⟨.str z, _, ht, ⟨t, rfl⟩, fun H => .str z⟩
theorem law_of {P : Program} {w : World} {fu n i : Nat} {d : FdD} {st : Stmt} {x : Str} {f : Addr} (X : K.In h) (G : h.Ns mainGlobals mg) (hfa : mg ("law" : Str) = some (.ref f)) (c : He.SaysD (faL W) (fnL W.T sts) K) (hd : DefsOk W W.T sts) (hk : KwsOk W.T sts W.kwl) (hc : W.cns.all cnOk = true)
    (hi : W.T[i]? = some d) (hs : sts[i]? = some st) (D : DefOk W d st) (hps : d.ps = [x]) (hnm : d.nm = ("law" : Str)) :
    ∃ fd : FuncData, (∀ (s : Shared) (v : Value), BindsTo s fd ⟨[v], []⟩ [(x, v)]) ∧ ∀ base : Heap, K.In base → base.Ns mainGlobals mg → FnOk P w K mg base CX0 n f fd [x] (spF (callN W.T fu n) K i) := by
  obtain ⟨f', fd, F⟩ := fact_of X G c hk hi hs D
  have e := F.mgf
  rw [hnm, hfa] at e
  cases e
  refine ⟨fd, fun s v => ?_, fun base _ _ => by have q := tab_ok (P := P) (w := w) (base := base) (fu := fu) (tab_of X G c hd hk hc) n i d st _ fd hi F; rw [hps] at q; exact q⟩
  obtain ⟨oc, od, kV, doc, pm, an, cdv, ct, osl, e, lk, hcd⟩ := F.fn.ex
  have q := D.bd kV doc pm an cdv ct [v] (by rw [hps]; rfl)
  rw [e]
  rw [hps] at q
  exact .of_eq q
/-- the script, as data -/
theorem dq_ints (H : Hp) : ∀ ns : List Int, DqAll K H (ns.map V.int) (ns.map .int)
  | [] => .nil
  | n :: ns => .cons (.int n) (dq_ints H ns)
/-- the law's def: what it promises of every script -/
theorem law_sp {cal : Cal} {i : Nat} {H : Hp} {a : Addr} {ns : List Int} (hS : SqL K H a (ns.map V.int)) (e : cal i [.dat (.list (ns.map .int))] none = some (.dat (.bool true), none)) :
    spF cal K i [.ref a] H (fun v _ => v = .bl true) fun _ _ _ => False := by
  refine ⟨none, H, _, none, _, none, Sub.refl H, fun _ h => (by cases h), .cons (r := .dat (.list (ns.map .int))) (Dq.lst hS (dq_ints H ns)) .nil, e, fun z D' H' ro => ?_⟩
  have v : Dq K D' z (.bool true) := ro.val
  cases v
  rfl
end
end PX
set_option Elab.async false
set_option autoImplicit false
set_option maxRecDepth 100000
set_option maxHeartbeats 8100000
/-! PXR: the evaluator's steps, one by one (for simp). -/
namespace PX
open PySem

theorem mapM_pd_nil : ([] : List RV).mapM RV.pd = some [] := rfl
theorem mapM_pd_cons {r : RV} {rs : List RV} : (r :: rs).mapM RV.pd = r.pd.bind fun d => (rs.mapM RV.pd).bind fun ds => some (d :: ds) := by
  rw [List.mapM_cons]; rfl
theorem permL_nil {as : List RV} : permL [] as = some [] := rfl
theorem permL_cons {i : Nat} {pm : List Nat} {as : List RV} : permL (i :: pm) as = as[i]?.bind fun r => (permL pm as).bind fun rs => some (r :: rs) := by
  unfold permL; rw [List.mapM_cons]; rfl
section
variable {i j k : Int} {a b : Bool} {x y : Str} {d : PyData} {ds es : List PyData}
theorem cmp_lt : cmpop .lt (.int i) (.int j) = some (decide (i < j)) := rfl
theorem cmp_le : cmpop .le (.int i) (.int j) = some (decide (i ≤ j)) := rfl
theorem cmp_gt : cmpop .gt (.int i) (.int j) = some (decide (j < i)) := rfl
theorem cmp_ge : cmpop .ge (.int i) (.int j) = some (decide (j ≤ i)) := rfl
theorem okd_i : okd (.int i) = true := rfl
theorem okd_b : okd (.bool a) = true := rfl
theorem cmp_eq_i : cmpop .eq (.int i) (.int j) = some (decide (i = j)) := by
  show some (PyData.eqv (.int i) (.int j)) = _
  simp only [PyData.eqv]; rfl
theorem cmp_ne_i : cmpop .ne (.int i) (.int j) = some (!decide (i = j)) := by
  show some (!PyData.eqv (.int i) (.int j)) = _
  simp only [PyData.eqv]; rfl
theorem cmp_eq_b : cmpop .eq (.bool a) (.bool b) = some (decide (a = b)) := by
  show some (PyData.eqv (.bool a) (.bool b)) = _
  simp only [PyData.eqv]; cases a <;> cases b <;> rfl
theorem cmp_ne_b : cmpop .ne (.bool a) (.bool b) = some (!decide (a = b)) := by
  show some (!PyData.eqv (.bool a) (.bool b)) = _
  simp only [PyData.eqv]; cases a <;> cases b <;> rfl
theorem cmp_eq_s (h : okd (.str x) = true) (h2 : okd (.str y) = true) : cmpop .eq (.str x) (.str y) = some (x == y) := by
  show (if (okd (.str x) && okd (.str y)) = true then some (PyData.eqv (.str x) (.str y)) else none) = _
  rw [h, h2]
  simp only [PyData.eqv]; rfl
theorem cmp_ne_s (h : okd (.str x) = true) (h2 : okd (.str y) = true) : cmpop .ne (.str x) (.str y) = some (!(x == y)) := by
  show (if (okd (.str x) && okd (.str y)) = true then some (!PyData.eqv (.str x) (.str y)) else none) = _
  rw [h, h2]
  simp only [PyData.eqv]; rfl
theorem cmp_eq_nn : cmpop .eq .none .none = some true := rfl
theorem cmp_is : cmpop .is_ d .none = some (isNone d) := by cases d <;> rfl
theorem cmp_isnot : cmpop .isnot d .none = some (!isNone d) := by cases d <;> rfl
theorem isNone_none : isNone .none = true := rfl
theorem isNone_bool : isNone (.bool a) = false := rfl
theorem isNone_int : isNone (.int i) = false := rfl
theorem isNone_str : isNone (.str x) = false := rfl
theorem isNone_list : isNone (.list ds) = false := rfl
theorem isNone_tuple : isNone (.tuple ds) = false := rfl
theorem bin_add : binop .add (.int i) (.int j) = some (.dat (.int (i + j))) := rfl
theorem bin_sub : binop .sub (.int i) (.int j) = some (.dat (.int (i - j))) := rfl
theorem bin_mul (h : mulOk i j = true) : binop .mul (.int i) (.int j) = some (.dat (.int (i * j))) := by
  show (if mulOk i j = true then _ else _) = _
  rw [if_pos h]
theorem log2_lt {i : Int} {k : Nat} (h : i.natAbs < 2 ^ k) (hk : 0 < k) : i.natAbs.log2 < k := by
  by_cases e : i.natAbs = 0
  · rw [e]; simpa using hk
  · exact (Nat.log2_lt e).mpr h
theorem mulOk_l {i j : Int} (h : i.natAbs < 2 ^ 64) : mulOk i j = true := by
  unfold mulOk
  rw [decide_eq_true (log2_lt h (by decide))]; rfl
theorem mulOk_r {i j : Int} (h : j.natAbs < 2 ^ 64) : mulOk i j = true := by
  unfold mulOk
  rw [decide_eq_true (log2_lt h (by decide))]; simp
/-- a small written factor -/
theorem mulOk_n {n : Nat} (h : n < 18446744073709551616) : mulOk (no_index (OfNat.ofNat n)) j = true := mulOk_l h
theorem mulOk_m {n : Nat} (h : n < 18446744073709551616) : mulOk j (no_index (OfNat.ofNat n)) = true := mulOk_r h
theorem bin_fdiv (h : divOk j = true) : binop .fdiv (.int i) (.int j) = some (.dat (.int (i.fdiv j))) := by
  show (if divOk j = true then _ else _) = _
  rw [if_pos h]
theorem bin_mod (h : j ≠ 0) : binop .mod (.int i) (.int j) = some (.dat (.int (i.fmod j))) := by
  show (if decide (j ≠ 0) = true then _ else _) = _
  rw [if_pos (decide_eq_true h)]
theorem bin_addl (h : szOk (ds.length + es.length) = true) : binop .add (.list ds) (.list es) = some (.own (ds ++ es)) := by
  show (if szOk (ds.length + es.length) = true then _ else _) = _
  rw [if_pos h]
theorem bin_addt (h : szOk (ds.length + es.length) = true) : binop .add (.tuple ds) (.tuple es) = some (.dat (.tuple (ds ++ es))) := by
  show (if szOk (ds.length + es.length) = true then _ else _) = _
  rw [if_pos h]
theorem bin_mull (h : (decide (-(2 ^ 63) ≤ k) && decide (k < 2 ^ 63) && szOk (ds.length * k.toNat)) = true) : binop .mul (.list ds) (.int k) = some (.own (List.replicate k.toNat ds).flatten) := by
  show (if (decide (-(2 ^ 63) ≤ k) && decide (k < 2 ^ 63) && szOk (ds.length * k.toNat)) = true then _ else _) = _
  rw [if_pos h]
theorem bin_pow (h : powOk i j = true) : binop .pow (.int i) (.int j) = some (.dat (.int (i ^ j.toNat))) := by
  show (if powOk i j = true then _ else _) = _
  rw [if_pos h]
/-- a short list twice -/
theorem bin_mul2 (h : ds.length ≤ 1000000) : binop .mul (.list ds) (.int 2) = some (.own (ds ++ ds)) := by
  have h2 : szOk (ds.length * Int.toNat 2) = true := decide_eq_true (show ds.length * 2 ≤ _ by omega)
  rw [bin_mull (by rw [show (decide (-(2 ^ 63) ≤ (2 : Int)) && decide ((2 : Int) < 2 ^ 63)) = true from rfl, Bool.true_and]; exact h2)]
  show some (RV.own (List.replicate 2 ds).flatten) = _
  simp [List.replicate_succ]
theorem bin_shl (h : shlOk i j = true) : binop .shl (.int i) (.int j) = some (.dat (.int (i * 2 ^ j.toNat))) := by
  show (if shlOk i j = true then _ else _) = _
  rw [if_pos h]
theorem bin_shr (h : 0 ≤ j) : binop .shr (.int i) (.int j) = some (.dat (.int (i / 2 ^ j.toNat))) := by
  show (if decide (0 ≤ j) = true then _ else _) = _
  rw [if_pos (decide_eq_true h)]
theorem bin_band : binop .band (.int i) (.int j) = some (.dat (.int (Builtin.bitAnd i j))) := rfl
theorem bin_bor : binop .bor (.int i) (.int j) = some (.dat (.int (Builtin.bitOr i j))) := rfl
theorem tru_b : truth (.dat (.bool b)) = some b := rfl
theorem tru_i : truth (.dat (.int i)) = some (i != 0) := rfl
theorem tru_n : truth (.dat .none) = some false := rfl
theorem tru_l : truth (.dat (.list ds)) = some (!ds.isEmpty) := rfl
theorem tru_t : truth (.dat (.tuple ds)) = some (!ds.isEmpty) := rfl
theorem tru_o : truth (.own ds) = some (!ds.isEmpty) := rfl
theorem len_l : lenOf (.dat (.list ds)) = some ds.length := rfl
theorem len_t : lenOf (.dat (.tuple ds)) = some ds.length := rfl
theorem len_o : lenOf (.own ds) = some ds.length := rfl
theorem item_l {bx : Bx} : item bx (.dat (.list ds)) (.int k) = L2.atI ds k := rfl
theorem item_t {bx : Bx} : item bx (.dat (.tuple ds)) (.int k) = L2.atI ds k := rfl
theorem item_o {bx : Bx} : item bx (.own ds) (.int k) = L2.atI ds k := rfl
theorem item_b0 {u v w : Int} : item (some (u, v, w)) .box (.int 0) = some (.int u) := rfl
theorem item_b1 {u v w : Int} : item (some (u, v, w)) .box (.int 1) = some (.int v) := rfl
theorem item_b2 {u v w : Int} : item (some (u, v, w)) .box (.int 2) = some (.int w) := rfl
theorem at_nat {n : Nat} (h : ds[n]? = some d) : L2.atI ds (n : Int) = some d := L2.atI_nat h
theorem at0 {d : PyData} {ds : List PyData} : L2.atI (d :: ds) 0 = some d := at_nat (n := 0) rfl
theorem at1 {e d : PyData} {ds : List PyData} : L2.atI (e :: d :: ds) 1 = some d := at_nat (n := 1) rfl
theorem at2 {e f d : PyData} {ds : List PyData} : L2.atI (e :: f :: d :: ds) 2 = some d := at_nat (n := 2) rfl
theorem at3 {e f g d : PyData} {ds : List PyData} : L2.atI (e :: f :: g :: d :: ds) 3 = some d := at_nat (n := 3) rfl
theorem at4 {e f g h d : PyData} {ds : List PyData} : L2.atI (e :: f :: g :: h :: d :: ds) 4 = some d := at_nat (n := 4) rfl
theorem at5 {e f g h i d : PyData} {ds : List PyData} : L2.atI (e :: f :: g :: h :: i :: d :: ds) 5 = some d := at_nat (n := 5) rfl
theorem atm1 {d : PyData} : L2.atI (ds ++ [d]) (-1) = some d := L2.atI_last ds d
theorem blt_abs : blt .abs [.int i] = some (.dat (.int (if i < 0 then -i else i))) := rfl
theorem blt_int : blt .int [.int i] = some (.dat (.int i)) := rfl
theorem blt_intb : blt .int [.bool a] = some (.dat (.int (if a then 1 else 0))) := rfl
theorem blt_tl : blt .tuple [.list ds] = some (.dat (.tuple ds)) := rfl
theorem blt_tt : blt .tuple [.tuple ds] = some (.dat (.tuple ds)) := rfl
theorem blt_ll : blt .list [.list ds] = some (.own ds) := rfl
theorem blt_lt : blt .list [.tuple ds] = some (.own ds) := rfl
theorem intsOf_map : ∀ ns : List Int, intsOf (ns.map .int) = some ns
  | [] => rfl
  | n :: ns => by
    show (intsOf (ns.map .int)).map (n :: ·) = _
    rw [intsOf_map ns]; rfl
theorem boolsOf_map : ∀ ns : List Bool, boolsOf (ns.map .bool) = some ns
  | [] => rfl
  | n :: ns => by
    show (boolsOf (ns.map .bool)).map (n :: ·) = _
    rw [boolsOf_map ns]; rfl
theorem blt_sum {ns : List Int} : blt .sum [.list (ns.map .int)] = some (.dat (.int ns.sum)) := by
  show (intsOf (ns.map .int)).map _ = _
  rw [intsOf_map]; rfl
theorem blt_all {ns : List Bool} : blt .all [.list (ns.map .bool)] = some (.dat (.bool (ns.all id))) := by
  show (boolsOf (ns.map .bool)).map _ = _
  rw [boolsOf_map]; rfl
theorem blt_any {ns : List Bool} : blt .any [.list (ns.map .bool)] = some (.dat (.bool (ns.any id))) := by
  show (boolsOf (ns.map .bool)).map _ = _
  rw [boolsOf_map]; rfl
theorem blt_min2 : blt .min2 [.int i, .int j] = some (.dat (.int (if j < i then j else i))) := rfl
theorem blt_max2 : blt .max2 [.int i, .int j] = some (.dat (.int (if j > i then j else i))) := rfl
theorem put_b0 {i : Nat} {env : List Sl} {u v w z : Int} (h : env[i]? = some (some .box)) : putIx i 0 (.int z) ⟨env, some (u, v, w)⟩ = some ⟨env, some (z, v, w)⟩ := by
  unfold putIx peek; rw [h]; rfl
theorem put_b1 {i : Nat} {env : List Sl} {u v w z : Int} (h : env[i]? = some (some .box)) : putIx i 1 (.int z) ⟨env, some (u, v, w)⟩ = some ⟨env, some (u, z, w)⟩ := by
  unfold putIx peek; rw [h]; rfl
theorem put_b2 {i : Nat} {env : List Sl} {u v w z : Int} (h : env[i]? = some (some .box)) : putIx i 2 (.int z) ⟨env, some (u, v, w)⟩ = some ⟨env, some (u, v, z)⟩ := by
  unfold putIx peek; rw [h]; rfl
theorem szOk_of {n : Nat} (h : n ≤ 16777216) : szOk n = true := decide_eq_true h
theorem szOk_0 : szOk 0 = true := rfl
theorem szOk_1 : szOk 1 = true := rfl
theorem szOk_2 : szOk 2 = true := rfl
theorem szOk_3 : szOk 3 = true := rfl
theorem szOk_4 : szOk 4 = true := rfl
theorem szOk_5 : szOk 5 = true := rfl
theorem szOk_6 : szOk 6 = true := rfl
theorem szOk_7 : szOk 7 = true := rfl
theorem szOk_8 : szOk 8 = true := rfl
theorem szOk_n {n : Nat} (h : n ≤ 16777216) : szOk (no_index (OfNat.ofNat n)) = true := szOk_of h
theorem divOk_of {j : Int} (h : j ≠ 0) (l : j.natAbs < 2 ^ 64) : divOk j = true := by
  have : j.natAbs.log2 < 64 := log2_lt l (by decide)
  unfold divOk
  rw [decide_eq_true h, decide_eq_true (show j.natAbs.log2 < 9000 by omega)]; rfl
theorem divOk_n {n : Nat} (h : n < 18446744073709551616) (h2 : 0 < n) : divOk (no_index (OfNat.ofNat n)) = true := divOk_of (by
  show (n : Int) ≠ 0
  omega) h
end
/-! ### the equations, one by one (comprehensions and loops are left out) -/
section
variable {cal : Cal} {fu : Nat} {g : G}
theorem ev_var {i : Nat} : evE cal (.var i) g = rd i g := Eq.trans rfl rfl
theorem ev_con {d : PyData} : evE cal (.con d) g = some (.dat d, g) := Eq.trans rfl rfl
theorem ev_bin {o : Bop} {a b : E} : evE cal (.bin o a b) g = match evE cal a g with
    | some (x, g1) => match evE cal b g1 with
      | some (y, g2) => match x.pd, y.pd with
        | some dx, some dy => (binop o dx dy).map (·, g2)
        | _, _ => none
      | none => none
    | none => none := Eq.trans rfl rfl
theorem ev_neg {a : E} : evE cal (.neg a) g = match evE cal a g with
    | some (.dat (.int i), g1) => some (.dat (.int (-i)), g1)
    | _ => none := Eq.trans rfl rfl
theorem ev_not {a : E} : evE cal (.not a) g = match evE cal a g with
    | some (x, g1) => (truth x).map fun k => (.dat (.bool (!k)), g1)
    | none => none := Eq.trans rfl rfl
theorem ev_cmp {o : Cop} {a b : E} : evE cal (.cmp o a b) g = match evE cal a g with
    | some (x, g1) => match (match pk b g1 with | some r => some (r, g1) | none => evE cal b g1) with
      | some (y, g2) => match x.pd, y.pd with
        | some dx, some dy => (cmpop o dx dy).map fun k => (.dat (.bool k), g2)
        | _, _ => none
      | none => none
    | none => none := Eq.trans rfl rfl
theorem ev_chain {o p : Cop} {a b c : E} : evE cal (.chain o p a b c) g = match evE cal a g with
    | some (x, g1) => match evE cal b g1 with
      | some (y, g2) => match x.pd, y.pd with
        | some dx, some dy => match cmpop o dx dy with
          | some true => match evE cal c g2 with
            | some (z, g3) => match z.pd with
              | some dz => (cmpop p dy dz).map fun k => (.dat (.bool k), g3)
              | none => none
            | none => none
          | some false => some (.dat (.bool false), g2)
          | none => none
        | _, _ => none
      | none => none
    | none => none := Eq.trans rfl rfl
theorem ev_and {a b : E} : evE cal (.and a b) g = match evE cal a g with
    | some (x, g1) => match truth x with
      | some true => evE cal b g1
      | some false => some (x, g1)
      | none => none
    | none => none := Eq.trans rfl rfl
theorem ev_or {a b : E} : evE cal (.or a b) g = match evE cal a g with
    | some (x, g1) => match truth x with
      | some false => evE cal b g1
      | some true => some (x, g1)
      | none => none
    | none => none := Eq.trans rfl rfl
theorem ev_ite {c a b : E} : evE cal (.ite c a b) g = match evE cal c g with
    | some (x, g1) => match truth x with
      | some true => evE cal a g1
      | some false => evE cal b g1
      | none => none
    | none => none := Eq.trans rfl rfl
theorem ev_tup {a : E} : evE cal (.tup a) g = match evA cal a g with
    | some (as, g1) => match as.mapM RV.pd with
      | some ds => if szOk ds.length then some (.dat (.tuple ds), g1) else none
      | none => none
    | none => none := Eq.trans rfl rfl
theorem ev_lst {a : E} : evE cal (.lst a) g = match evA cal a g with
    | some (as, g1) => match as.mapM RV.pd with
      | some ds => if szOk ds.length then some (.own ds, g1) else none
      | none => none
    | none => none := Eq.trans rfl rfl
theorem ev_call {f : Nat} {a : E} : evE cal (.call f a) g = match evA cal a g with
    | some (as, g1) => (cal f as g1.bx).map fun r => (r.1, { g1 with bx := r.2 })
    | none => none := Eq.trans rfl rfl
theorem ev_callk {f : Nat} {a k : E} {pm : List Nat} : evE cal (.callk f a k pm) g = match evA cal a g with
    | some (as, g1) => match evA cal k g1 with
      | some (ks, g2) => match permL pm (as ++ ks) with
        | some vs => (cal f vs g2.bx).map fun r => (r.1, { g2 with bx := r.2 })
        | none => none
      | none => none
    | none => none := Eq.trans rfl rfl
theorem ev_bl {b : Bl} {a : E} : evE cal (.bl b a) g = match evA cal a g with
    | some (as, g1) => match as.mapM RV.pd with
      | some ds => (blt b ds).map (·, g1)
      | none => none
    | none => none := Eq.trans rfl rfl
theorem ev_len {a : E} : evE cal (.len a) g = match (match pk a g with | some r => some (r, g) | none => evE cal a g) with
    | some (x, g1) => (lenOf x).map fun (m : Nat) => (RV.dat (PyData.int (m : Int)), g1)
    | none => none := Eq.trans rfl rfl
theorem ev_bits {a : E} : evE cal (.bits a) g = match evE cal a g with
    | some (.dat (.int i), g1) => some (.dat (.int (Builtin.Int.intBits i : Nat)), g1)
    | _ => none := Eq.trans rfl rfl
theorem ev_isi {a : E} {ts : List Ty} : evE cal (.isi a ts) g = match evE cal a g with
    | some (x, g1) => match x.pd with
      | some d => if isData d then some (.dat (.bool (ts.any (tyOf d))), g1) else none
      | none => none
    | none => none := Eq.trans rfl rfl
theorem ev_sub {a i : E} : evE cal (.sub a i) g = match (match pk a g with | some r => some (r, g) | none => evE cal a g) with
    | some (x, g1) => match evE cal i g1 with
      | some (y, g2) => match y.pd with
        | some k => (item g2.bx x k).map fun d => (.dat d, g2)
        | none => none
      | none => none
    | none => none := Eq.trans rfl rfl
theorem ev_slc {a lo hi : E} : evE cal (.slc a lo hi) g = match (match pk a g with | some r => some (r, g) | none => evE cal a g) with
    | some (x, g1) => match (if isNo lo then some (none, g1) else match evE cal lo g1 with | some (.dat (.int i), g2) => some (some i, g2) | _ => none) with
      | some (l, g2) => match (if isNo hi then some (none, g2) else match evE cal hi g2 with | some (.dat (.int i), g3) => some (some i, g3) | _ => none) with
        | some (h, g3) => (slice x l h).map (·, g3)
        | none => none
      | none => none
    | none => none := Eq.trans rfl rfl
theorem ev_callb {f : Nat} {a : E} : evE cal (.callb f a) g = match evE cal a g with
    | some (.own [.int x, .int y, .int z], g1) => (cal f [.box] (some (x, y, z))).map fun r => (r.1, g1)
    | _ => none := Eq.trans rfl rfl
theorem ev_lrngw {a b : E} : evE cal (.lrngw a b) g = match evE cal a g with
    | some (.dat (.int i), g1) => match evE cal b g1 with
      | some (.dat (.int j), g2) => if szOk (j - i).toNat then some (.own (rangeD i (j - i).toNat), g2) else none
      | _ => none
    | _ => none := rfl
theorem ev_sset {a : E} : evE cal (.sset a) g = match evE cal a g with
    | some (x, g1) => (ssetD x).map (·, g1)
    | none => none := Eq.trans rfl rfl
theorem ev_rev {a : E} : evE cal (.rev a) g = match (match pk a g with | some r => some (r, g) | none => evE cal a g) with
    | some (x, g1) => (revD x).map (·, g1)
    | none => none := Eq.trans rfl rfl
theorem sset_l {ns : List Int} (h : ns.length ≤ 4000) : ssetD (.dat (.list (ns.map .int))) = some (.own ((setI ns).map .int)) := by
  unfold ssetD RV.pd
  simp only [intsOf_map, h, decide_true, if_true]
theorem sset_o {ns : List Int} (h : ns.length ≤ 4000) : ssetD (.own (ns.map .int)) = some (.own ((setI ns).map .int)) := sset_l h
theorem rev_l {ds : List PyData} : revD (.dat (.list ds)) = some (.own ds.reverse) := rfl
theorem rev_o {ds : List PyData} : revD (.own ds) = some (.own ds.reverse) := rfl
theorem ea_nil : evA cal .nil g = some ([], g) := Eq.trans rfl rfl
theorem ea_cons {a r : E} : evA cal (.cons a r) g = match evE cal a g with
    | some (x, g1) => match evA cal r g1 with
      | some (xs, g2) => some (x.frz :: xs, g2)
      | none => none
    | none => none := Eq.trans rfl rfl
theorem ei_rng1 {a : E} : evI cal (.rng1 a) g = match evE cal a g with
    | some (.dat (.int n), g1) => if inR n then some (rangeD 0 n.toNat, g1) else none
    | _ => none := Eq.trans rfl rfl
theorem ei_rng2 {a b : E} : evI cal (.rng2 a b) g = match evE cal a g with
    | some (.dat (.int i), g1) => match evE cal b g1 with
      | some (.dat (.int j), g2) => if inR i && inR j then some (rangeD i (j - i).toNat, g2) else none
      | _ => none
    | _ => none := Eq.trans rfl rfl
theorem ei_zip {a b : E} : evI cal (.zip a b) g = match evE cal a g with
    | some (x, g1) => match evE cal b g1 with
      | some (y, g2) => (zipOf x y).map (·, g2)
      | none => none
    | none => none := Eq.trans rfl rfl
theorem ei_enum {a : E} : evI cal (.enum a) g = match evE cal a g with
    | some (x, g1) => (lstOf x).map fun xs => (enumD 0 xs, g1)
    | none => none := Eq.trans rfl rfl
theorem ei_it {e : E} : evI cal (.it e) g = match evE cal e g with
    | some (x, g1) => (iterOf x).map (·, g1)
    | none => none := Eq.trans rfl rfl
theorem ex_asg {i : Nat} {e : E} : exS cal fu (.asg i e) g = match evE cal e g with
    | some (r, g1) => some (.nx { g1 with env := g1.env.set i (some r) })
    | none => none := Eq.trans rfl rfl
theorem ex_tas {is : List Nat} {e : E} : exS cal fu (.tas is e) g = match evE cal e g with
    | some (r, g1) => match r.pd with
      | some d => (bindT (.tp is) d g1.env).map fun env => .nx { g1 with env := env }
      | none => none
    | none => none := Eq.trans rfl rfl
theorem ex_par {is : List Nat} {es : List E} : exS cal fu (.par is es) g = match evP cal es g with
    | some (rs, g1) => (setRs is rs g1.env).map fun env => .nx { g1 with env := env }
    | none => none := Eq.trans rfl rfl
theorem ex_setix {i : Nat} {ix e : E} : exS cal fu (.setix i ix e) g = match evE cal e g with
    | some (r, g1) => match r.pd with
      | some y => if canPut i g1 = true then match evE cal ix g1 with
          | some (.dat (.int k), g2) => (putIx i k y g2).map .nx
          | _ => none
        else none
      | none => none
    | none => none := Eq.trans rfl rfl
theorem ex_app {i : Nat} {e : E} : exS cal fu (.app i e) g = if canPut i g = true then match evE cal e g with
      | some (r, g1) => match r.pd with
        | some y => (appE i y g1).map .nx
        | none => none
      | none => none
    else none := Eq.trans rfl rfl
theorem ex_ite {c : E} {a b : S} : exS cal fu (.ite c a b) g = match evE cal c g with
    | some (x, g1) => match truth x with
      | some true => exS cal fu a g1
      | some false => exS cal fu b g1
      | none => none
    | none => none := Eq.trans rfl rfl
theorem ex_skip : exS cal fu .skip g = some (.nx g) := Eq.trans rfl rfl
theorem ex_seq {a b : S} : exS cal fu (.seq a b) g = match exS cal fu a g with
    | some (.nx g1) => exS cal fu b g1
    | r => r := Eq.trans rfl rfl
theorem ex_ret {e : E} : exS cal fu (.ret e) g = match evRet cal e g with
    | some (.box, _) => none
    | some (r, g1) => some (.rt r g1.bx)
    | none => none := Eq.trans rfl rfl
theorem ex_retn : exS cal fu .retn g = some (.rt (.dat .none) g.bx) := Eq.trans rfl rfl
theorem ex_pass : exS cal fu .pass g = some (.nx g) := Eq.trans rfl rfl
theorem ex_cont : exS cal fu .cont g = some (.ct g) := Eq.trans rfl rfl
theorem ex_brk : exS cal fu .brk g = some (.bk g) := Eq.trans rfl rfl
theorem ex_loop {src : E} {tg : Tg} {b : S} : exS cal fu (.loop src tg b) g = match evI cal src g with
    | some (ds, g1) => forL tg (exS cal fu b) ds g1
    | none => none := Eq.trans rfl rfl
theorem ex_whil {c : E} {b : S} : exS cal fu (.whil c b) g = whL (evE cal c) (exS cal fu b) fu g := Eq.trans rfl rfl
/-- the last statement's place in a block -/
theorem canPut_own {i : Nat} {env : List Sl} {bx : Bx} {ds : List PyData} (h : env[i]? = some (some (.own ds))) : canPut i ⟨env, bx⟩ = true := by
  unfold canPut peek; rw [h]
theorem appE_own {i : Nat} {env : List Sl} {bx : Bx} {ds : List PyData} {y : PyData} (h : env[i]? = some (some (.own ds))) (hl : ds.length < 16777216) : appE i y ⟨env, bx⟩ = some ⟨env.set i (some (.own (ds ++ [y]))), bx⟩ := by
  unfold appE peek; rw [h]; simp only [hl, decide_true, if_true]
theorem putIx_own {i j : Nat} {k : Int} {env : List Sl} {bx : Bx} {ds : List PyData} {y : PyData} (h : env[i]? = some (some (.own ds))) (hj : L2.ixN ds.length k = some j) : putIx i k y ⟨env, bx⟩ = some ⟨env.set i (some (.own (ds.set j y))), bx⟩ := by
  unfold putIx peek; rw [h]; simp only [hj]
end

/-! ### comprehensions -/
theorem unwipe_inI {old env : List Sl} {j : Nat} : ∀ {own : List Nat}, j ∈ own → (unwipe old env own)[j]? = if j < env.length then some (noOwn (old.getD j none)) else none
  | [], h => by simp at h
  | v :: vs, h => by
    show ((unwipe old env vs).set v _)[j]? = _
    by_cases e : v = j
    · subst e
      by_cases hl : v < env.length
      · rw [if_pos hl, List.getElem?_set_self (by rw [unwipe_len]; exact hl)]
      · rw [if_neg hl, List.getElem?_eq_none (by rw [List.length_set, unwipe_len]; omega)]
    · rw [List.getElem?_set_ne e]
      exact unwipe_inI (by rcases List.mem_cons.mp h with h | h; exact absurd h.symm e; exact h)
theorem unwipe_eq {old env env' : List Sl} {own : List Nat} (h : wipeE env own = wipeE env' own) : unwipe old env own = unwipe old env' own := by
  have hl : env.length = env'.length := by rw [← wipeE_len env own, h, wipeE_len]
  refine List.ext_getElem? fun j => ?_
  by_cases hj : j ∈ own
  · rw [unwipe_inI hj, unwipe_inI hj]; simp only [hl]
  · rw [unwipe_out hj, unwipe_out hj, ← wipeE_out hj, ← wipeE_out (env := env') hj, h]
theorem lcL_pure {own : List Nat} {step : PyData → G → Option (Option PyData × G)} {e0 : List Sl} {bx : Bx} (f : PyData → Option PyData) : ∀ (ds : List PyData) (e : List Sl) (acc : List PyData), wipeE e own = e0 →
    (∀ d ∈ ds, ∃ e', step d ⟨e0, bx⟩ = some (f d, ⟨e', bx⟩) ∧ wipeE e' own = e0) → ∃ e', lcL own step ds ⟨e, bx⟩ acc = some (acc ++ ds.filterMap f, ⟨e', bx⟩) ∧ wipeE e' own = e0
  | [], e, acc, h, _ => ⟨e, by rw [List.filterMap_nil, List.append_nil]; rfl, h⟩
  | d :: ds, e, acc, h, hs => by
    obtain ⟨e1, s1, w1⟩ := hs d List.mem_cons_self
    cases hf : f d with
    | none =>
      rw [hf] at s1
      obtain ⟨e', q1, q2⟩ := lcL_pure f ds e1 acc w1 fun x hx => hs x (List.mem_cons_of_mem _ hx)
      refine ⟨e', ?_, q2⟩
      rw [List.filterMap_cons_none hf, ← q1]
      show (match step d ⟨wipeE e own, bx⟩ with
        | some (some y, g') => lcL own step ds g' (acc ++ [y])
        | some (none, g') => lcL own step ds g' acc
        | none => none) = _
      rw [h, s1]
    | some y =>
      rw [hf] at s1
      obtain ⟨e', q1, q2⟩ := lcL_pure f ds e1 (acc ++ [y]) w1 fun x hx => hs x (List.mem_cons_of_mem _ hx)
      refine ⟨e', ?_, q2⟩
      rw [List.filterMap_cons_some hf, show acc ++ y :: ds.filterMap f = (acc ++ [y]) ++ ds.filterMap f by simp, ← q1]
      show (match step d ⟨wipeE e own, bx⟩ with
        | some (some y, g') => lcL own step ds g' (acc ++ [y])
        | some (none, g') => lcL own step ds g' acc
        | none => none) = _
      rw [h, s1]
/-- a comprehension that draws nothing -/
theorem ev_lc {cal : Cal} {own : List Nat} {src c elt : E} {tg : Tg} {g : G} {env : List Sl} {bx : Bx} {ds : List PyData} (f : PyData → Option PyData) (hs : evI cal src g = some (ds, ⟨env, bx⟩)) (hz : ds.length ≤ 16777216)
    (h : ∀ d ∈ ds, ∃ e', lcStep tg (condOf (isNo c) fun g => evE cal c g) (fun g => evE cal elt g) d ⟨wipeE env own, bx⟩ = some (f d, ⟨e', bx⟩) ∧ wipeE e' own = wipeE env own) :
    evE cal (.lc own src tg c elt) g = some (.own (ds.filterMap f), ⟨unwipe env env own, bx⟩) := by
  obtain ⟨e', q1, q2⟩ := lcL_pure (own := own) f ds env [] rfl h
  rw [List.nil_append] at q1
  show (match evI cal src g with
    | some (ds, g1) => if szOk ds.length then
        match lcL own (lcStep tg (condOf (isNo c) fun g => evE cal c g) fun g => evE cal elt g) ds g1 [] with
        | some (ys, g2) => some (RV.own ys, { g2 with env := unwipe g1.env g2.env own })
        | none => none
      else none
    | none => none) = _
  rw [hs]
  show (if szOk ds.length = true then _ else _) = _
  rw [if_pos (szOk_of hz), q1]
  show some (RV.own (ds.filterMap f), G.mk (unwipe env e' own) bx) = _
  rw [unwipe_eq q2]
/-- draws in a comprehension: what each item has become -/
inductive All2 {α β : Type} (R : α → β → Prop) : List α → List β → Prop where
  | nil : All2 R [] []
  | cons {a : α} {b : β} {as : List α} {bs : List β} : R a b → All2 R as bs → All2 R (a :: as) (b :: bs)
theorem All2.len {α β : Type} {R : α → β → Prop} {as : List α} {bs : List β} (h : All2 R as bs) : as.length = bs.length := by
  induction h with
  | nil => rfl
  | cons _ _ ih => rw [List.length_cons, List.length_cons, ih]
theorem lcL_draw {own : List Nat} {step : PyData → G → Option (Option PyData × G)} {e0 : List Sl} (R : PyData → PyData → Prop) (J : Nat → Bx → Prop) : ∀ (ds : List PyData) (n : Nat) (e : List Sl) (bx : Bx) (acc : List PyData), wipeE e own = e0 → J n bx →
    (∀ d ∈ ds, ∀ k bx, k < n + ds.length → J k bx → ∃ y e' bx', step d ⟨e0, bx⟩ = some (some y, ⟨e', bx'⟩) ∧ wipeE e' own = e0 ∧ R d y ∧ J (k + 1) bx') →
    ∃ ys e' bx', lcL own step ds ⟨e, bx⟩ acc = some (acc ++ ys, ⟨e', bx'⟩) ∧ wipeE e' own = e0 ∧ All2 R ds ys ∧ J (n + ds.length) bx'
  | [], n, e, bx, acc, h, j, _ => ⟨[], e, bx, by rw [List.append_nil]; rfl, h, .nil, j⟩
  | d :: ds, n, e, bx, acc, h, j, hs => by
    obtain ⟨y, e1, bx1, s1, w1, r1, j1⟩ := hs d List.mem_cons_self n bx (by simp) j
    obtain ⟨ys, e', bx', q1, q2, q3, q4⟩ := lcL_draw R J ds (n + 1) e1 bx1 (acc ++ [y]) w1 j1 fun x hx k b hk => hs x (List.mem_cons_of_mem _ hx) k b (by rw [List.length_cons]; omega)
    refine ⟨y :: ys, e', bx', ?_, q2, .cons r1 q3, by rw [List.length_cons, show n + (ds.length + 1) = n + 1 + ds.length by omega]; exact q4⟩
    rw [show acc ++ y :: ys = (acc ++ [y]) ++ ys by simp, ← q1]
    show (match step d ⟨wipeE e own, bx⟩ with
      | some (some y, g') => lcL own step ds g' (acc ++ [y])
      | some (none, g') => lcL own step ds g' acc
      | none => none) = _
    rw [h, s1]
theorem ev_lcd {cal : Cal} {own : List Nat} {src c elt : E} {tg : Tg} {g : G} {env : List Sl} {bx : Bx} {ds : List PyData} (R : PyData → PyData → Prop) (J : Nat → Bx → Prop) (hs : evI cal src g = some (ds, ⟨env, bx⟩)) (hz : ds.length ≤ 16777216) (j : J 0 bx)
    (h : ∀ d ∈ ds, ∀ k bx, k < ds.length → J k bx → ∃ y e' bx', lcStep tg (condOf (isNo c) fun g => evE cal c g) (fun g => evE cal elt g) d ⟨wipeE env own, bx⟩ = some (some y, ⟨e', bx'⟩) ∧ wipeE e' own = wipeE env own ∧ R d y ∧ J (k + 1) bx') :
    ∃ ys bx', evE cal (.lc own src tg c elt) g = some (.own ys, ⟨unwipe env env own, bx'⟩) ∧ All2 R ds ys ∧ J ds.length bx' := by
  obtain ⟨ys, e', bx', q1, q2, q3, q4⟩ := lcL_draw (own := own) R J ds 0 env bx [] rfl j (by simpa using h)
  rw [List.nil_append] at q1
  refine ⟨ys, bx', ?_, q3, by simpa using q4⟩
  show (match evI cal src g with
    | some (ds, g1) => if szOk ds.length then
        match lcL own (lcStep tg (condOf (isNo c) fun g => evE cal c g) fun g => evE cal elt g) ds g1 [] with
        | some (ys, g2) => some (RV.own ys, { g2 with env := unwipe g1.env g2.env own })
        | none => none
      else none
    | none => none) = _
  rw [hs]
  show (if szOk ds.length = true then _ else _) = _
  rw [if_pos (szOk_of hz), q1]
  show some (RV.own ys, G.mk (unwipe env e' own) bx') = _
  rw [unwipe_eq q2]
/-! ### runs that end, and how -/
def wp {α : Type} (o : Option α) (P : α → Prop) : Prop := ∃ a, o = some a ∧ P a
theorem wp_some {α : Type} {a : α} {P : α → Prop} : wp (some a) P = P a := propext ⟨fun ⟨_, e, h⟩ => by cases e; exact h, fun h => ⟨a, rfl, h⟩⟩
theorem wp_mono {α : Type} {o : Option α} {P Q : α → Prop} (h : wp o P) (f : ∀ a, P a → Q a) : wp o Q := let ⟨a, e, p⟩ := h; ⟨a, e, f a p⟩
/-- a block has gone on to its end -/
def Nx (P : G → Prop) : R → Prop
  | .nx g => P g
  | _ => False
def Rt (P : RV → Bx → Prop) : R → Prop
  | .rt r b => P r b
  | _ => False
theorem Nx_nx {P : G → Prop} {g : G} : Nx P (.nx g) = P g := rfl
theorem Rt_rt {P : RV → Bx → Prop} {r : RV} {b : Bx} : Rt P (.rt r b) = P r b := rfl
/-! ### loops -/
theorem forL_cons {tg : Tg} {body : G → Option R} {d : PyData} {ds : List PyData} {g : G} : forL tg body (d :: ds) g = match bindT tg d g.env with
  | none => none
  | some env => match body { g with env := env } with
    | some (.nx g') => forL tg body ds g'
    | some (.ct g') => forL tg body ds g'
    | some (.bk g') => some (.nx g')
    | some (.rt r b) => some (.rt r b)
    | none => none := rfl
theorem forL_nil {tg : Tg} {body : G → Option R} {g : G} : forL tg body [] g = some (.nx g) := rfl
theorem forL_inv {tg : Tg} {body : G → Option R} (I : Nat → G → Prop) : ∀ (ds : List PyData) (n : Nat) (g : G), I n g →
    (∀ k d g, ds[k]? = some d → I (n + k) g → wp (bindT tg d g.env) fun env => wp (body { g with env := env }) (Nx (I (n + k + 1)))) → ∃ g', forL tg body ds g = some (.nx g') ∧ I (n + ds.length) g'
  | [], n, g, h, _ => ⟨g, rfl, h⟩
  | d :: ds, n, g, h, hs => by
    obtain ⟨env, b1, r, b2, b3⟩ := hs 0 d g rfl h
    cases r with
    | nx g1 =>
      obtain ⟨g', q1, q2⟩ := forL_inv I ds (n + 1) g1 b3 fun k x g2 hx hI => by
        have := hs (k + 1) x g2 (by simpa using hx) (by rw [show n + (k + 1) = n + 1 + k by omega]; exact hI)
        rw [show n + (k + 1) + 1 = n + 1 + k + 1 by omega] at this
        exact this
      refine ⟨g', ?_, by rw [List.length_cons, show n + (ds.length + 1) = n + 1 + ds.length by omega]; exact q2⟩
      rw [← q1, forL_cons, b1]
      simp only [b2]
    | _ => exact b3.elim
/-- a comprehension by an invariant of the state (its own slots wiped) and of what is there -/
theorem lcL_inv {own : List Nat} {step : PyData → G → Option (Option PyData × G)} (I : Nat → List Sl → Bx → List PyData → Prop) : ∀ (ds : List PyData) (n : Nat) (g : G) (acc : List PyData), I n (wipeE g.env own) g.bx acc →
    (∀ k d e bx acc, ds[k]? = some d → I (n + k) e bx acc → wp (step d ⟨e, bx⟩) fun r => I (n + k + 1) (wipeE r.2.env own) r.2.bx (acc ++ r.1.toList)) → ∃ acc' g', lcL own step ds g acc = some (acc', g') ∧ I (n + ds.length) (wipeE g'.env own) g'.bx acc'
  | [], n, g, acc, h, _ => ⟨acc, g, rfl, h⟩
  | d :: ds, n, g, acc, h, hs => by
    obtain ⟨⟨o, g1⟩, b1, b2⟩ := hs 0 d _ _ acc rfl h
    obtain ⟨acc', g', q1, q2⟩ := lcL_inv I ds (n + 1) g1 _ b2 fun k x e bx acc hx hI => by
      have := hs (k + 1) x e bx acc (by simpa using hx) (by rw [show n + (k + 1) = n + 1 + k by omega]; exact hI)
      rw [show n + (k + 1) + 1 = n + 1 + k + 1 by omega] at this
      exact this
    refine ⟨acc', g', ?_, by rw [List.length_cons, show n + (ds.length + 1) = n + 1 + ds.length by omega]; exact q2⟩
    rw [← q1]
    show (match step d ⟨wipeE g.env own, g.bx⟩ with
      | some (some y, g') => lcL own step ds g' (acc ++ [y])
      | some (none, g') => lcL own step ds g' acc
      | none => none) = _
    rw [b1]
    cases o with
    | none => show lcL own step ds g1 acc = lcL own step ds g1 (acc ++ []); rw [List.append_nil]
    | some y => rfl
theorem ev_lcI {cal : Cal} {own : List Nat} {src c elt : E} {tg : Tg} {g : G} {env : List Sl} {bx : Bx} {ds : List PyData} (I : Nat → List Sl → Bx → List PyData → Prop) (hs : evI cal src g = some (ds, ⟨env, bx⟩)) (hz : ds.length ≤ 16777216) (h0 : I 0 (wipeE env own) bx [])
    (h : ∀ k d e bx acc, ds[k]? = some d → I k e bx acc → wp (lcStep tg (condOf (isNo c) fun g => evE cal c g) (fun g => evE cal elt g) d ⟨e, bx⟩) fun r => I (k + 1) (wipeE r.2.env own) r.2.bx (acc ++ r.1.toList)) :
    ∃ acc env' bx', evE cal (.lc own src tg c elt) g = some (.own acc, ⟨unwipe env env' own, bx'⟩) ∧ I ds.length (wipeE env' own) bx' acc := by
  obtain ⟨acc, g', q1, q2⟩ := lcL_inv (own := own) I ds 0 ⟨env, bx⟩ [] h0 (by simpa using h)
  refine ⟨acc, g'.env, g'.bx, ?_, by simpa using q2⟩
  show (match evI cal src g with
    | some (ds, g1) => if szOk ds.length then
        match lcL own (lcStep tg (condOf (isNo c) fun g => evE cal c g) fun g => evE cal elt g) ds g1 [] with
        | some (ys, g2) => some (RV.own ys, { g2 with env := unwipe g1.env g2.env own })
        | none => none
      else none
    | none => none) = _
  rw [hs]
  show (if szOk ds.length = true then _ else _) = _
  rw [if_pos (szOk_of hz), q1]
end PX
set_option Elab.async false
set_option autoImplicit false
set_option maxRecDepth 100000
set_option maxHeartbeats 8100000
/-! PXQ: what the laws' common defs compute. -/
namespace PX
open PySem

/-! ### runs -/
theorem run_of {T : List FdD} {fu n i : Nat} {d : FdD} {args : List RV} {bx bx' : Bx} {r : RV} (hT : T[i]? = some d) (hl : args.length = d.ps.length) (h : exS (callN T fu n) fu d.body ⟨entryE d args, bx⟩ = some (.rt r bx')) :
    callN T fu (n + 1) i args bx = some (r, bx') := by
  simp only [callN, hT, runF, if_pos hl, h]

/-- the draw's list is in order: m draws at most so far -/
structure BOk (m : Int) (b : Int × Int × Int) : Prop where
  y0 : 0 ≤ b.2.1
  y1 : b.2.1 < 2 ^ 63
  z0 : 0 ≤ b.2.2
  z1 : b.2.2 ≤ m
theorem BOk.mono {m k : Int} {b : Int × Int × Int} (h : BOk m b) (l : m ≤ k) : BOk k b := ⟨h.y0, h.y1, h.z0, Int.le_trans h.z1 l⟩

def takeB : S := (.seq (.ite (.cmp .gt (.sub (.var 0) (.con (.int 0))) (.con (.int 0))) (.seq (.asg 2 (.bin .mod (.bl .int (.cons (.sub (.var 0) (.con (.int 0))) .nil)) (.var 1))) (.seq (.setix 0 (.con (.int 0)) (.bin .fdiv (.sub (.var 0) (.con (.int 0))) (.var 1))) (.seq (.ret (.var 2)) .skip))) .skip) (.seq (.setix 0 (.con (.int 2)) (.bin .add (.sub (.var 0) (.con (.int 2))) (.con (.int 1)))) (.seq (.asg 3 (.bin .mod (.bl .int (.cons (.bin .mul (.bin .add (.sub (.var 0) (.con (.int 1))) (.bin .mul (.con (.int 48271)) (.sub (.var 0) (.con (.int 2))))) (.bin .add (.con (.int 39373)) (.sub (.var 0) (.con (.int 2))))) .nil)) (.con (.int 2147483647)))) (.seq (.asg 4 (.bin .add (.bin .mod (.bl .int (.cons (.var 3) .nil)) (.con (.int 40009))) (.con (.int 7)))) (.seq (.asg 5 (.bin .mod (.bl .int (.cons (.bin .mul (.bin .add (.bin .add (.var 3) (.sub (.var 0) (.con (.int 2)))) (.bin .fdiv (.sub (.var 0) (.con (.int 1))) (.con (.int 1000003)))) (.var 4)) .nil)) (.con (.int 2147483629)))) (.seq (.ret (.bin .mod (.bl .int (.cons (.bin .fdiv (.bin .mod (.bl .int (.cons (.bin .add (.bin .mul (.var 5) (.con (.int 48271))) (.var 3)) .nil)) (.con (.int 2147483587))) (.con (.int 64))) .nil)) (.var 1))) .skip))))))
def takeV (y z : Int) : Int := (((((((((y + 48271 * (z + 1)) * (39373 + (z + 1))).fmod 2147483647) + (z + 1) + y.fdiv 1000003) * ((((y + 48271 * (z + 1)) * (39373 + (z + 1))).fmod 2147483647).fmod 40009 + 7)).fmod 2147483629) * 48271 + (((y + 48271 * (z + 1)) * (39373 + (z + 1))).fmod 2147483647)).fmod 2147483587).fdiv 64)
theorem take_ex {cal : Cal} {fu : Nat} {n x y z : Int} {e2 e3 e4 e5 : Sl} (hn : 0 < n) (hn2 : n < 2 ^ 64) (y0 : 0 ≤ y) (z0 : 0 ≤ z) (z1 : z < 2 ^ 60) :
    ∃ v x' z', exS cal fu takeB ⟨[some .box, some (.dat (.int n)), e2, e3, e4, e5], some (x, y, z)⟩ = some (.rt (.dat (.int v)) (some (x', y, z'))) ∧ 0 ≤ v ∧ v < n ∧ 0 ≤ z' ∧ z' ≤ z + 1 := by
  have hn0 : n ≠ 0 := by omega
  have hnd : divOk n = true := divOk_of hn0 (by omega)
  by_cases hx : 0 < x
  · refine ⟨x.fmod n, x.fdiv n, z, ?_, Int.fmod_nonneg_of_pos _ hn, Int.fmod_lt_of_pos _ hn, z0, by omega⟩
    simp only [takeB, ev_var, ev_con, ev_bin, ev_neg, ev_not, ev_cmp, ev_chain, ev_and, ev_or, ev_ite, ev_tup, ev_lst, ev_call, ev_callk, ev_bl, ev_len, ev_bits, ev_isi, ev_sub, ev_slc, ev_callb, ea_nil, ea_cons, ei_rng1, ei_rng2, ei_zip, ei_enum, ei_it, ex_asg, ex_tas, ex_par, ex_setix, ex_app, ex_ite, ex_skip, ex_seq, ex_ret, ex_retn, ex_pass, ex_cont, ex_brk, evP, setRs, evRet, pk, peek, rd, setAll, bindT, wipeE, unwipe, noOwn, condOf, isNo, RV.pd, RV.frz, canPut, entryE, List.length_cons, List.length_nil, List.map_cons, List.map_nil, List.cons_append, List.nil_append, List.append_nil, Nat.sub_self, Nat.reduceSub, Nat.reduceAdd, Nat.zero_add, List.replicate_succ, List.replicate_zero, List.getElem?_cons_zero, List.getElem?_cons_succ, List.set_cons_zero, List.set_cons_succ, List.getD_cons_zero, List.getD_cons_succ, mapM_pd_nil, mapM_pd_cons, permL_nil, permL_cons, Option.map_some, Option.map_none, Option.bind_some, Option.pure_def, Option.bind_eq_bind, Bool.false_eq_true, if_true, if_false, ite_true, ite_false, reduceIte, reduceCtorEq, cmp_lt, cmp_le, cmp_gt, cmp_ge, cmp_eq_i, cmp_ne_i, cmp_eq_b, cmp_ne_b, cmp_eq_s, cmp_ne_s, cmp_eq_nn, cmp_is, cmp_isnot, isNone_none, isNone_bool, isNone_int, isNone_str, isNone_list, isNone_tuple, bin_add, bin_sub, mulOk_n, mulOk_m, divOk_n, Nat.reduceLT, Int.reduceEq, Int.reduceNe, ne_eq, not_false_eq_true, decide_true, decide_false, bin_mul, bin_fdiv, bin_mod, bin_addl, bin_addt, bin_shl, bin_shr, bin_band, bin_bor, tru_b, tru_i, tru_l, tru_t, tru_o, tru_n, len_l, len_t, len_o, item_l, item_t, item_o, item_b0, item_b1, item_b2, at0, at1, at2, at3, at4, at5, atm1, blt_abs, blt_int, blt_intb, blt_tl, blt_tt, blt_ll, blt_lt, blt_sum, blt_all, blt_any, blt_min2, blt_max2, put_b0, put_b1, put_b2, szOk_0, szOk_1, szOk_n, Nat.reduceLeDiff, bin_mul2, bin_pow, Bool.not_true, Bool.not_false, wp_some, Nx_nx, Rt_rt, Option.toList_some, Option.toList_none, hx, hn0, hnd]
  · refine ⟨(takeV y z).fmod n, x, z + 1, ?_, Int.fmod_nonneg_of_pos _ hn, Int.fmod_lt_of_pos _ hn, by omega, by omega⟩
    unfold takeV
    generalize ho : ((y + 48271 * (z + 1)) * (39373 + (z + 1))).fmod 2147483647 = o
    have m2 : mulOk (y + 48271 * (z + 1)) (39373 + (z + 1)) = true := mulOk_r (by omega)
    have m3 : ∀ w : Int, mulOk w (o.fmod 40009 + 7) = true := fun w => mulOk_r (by
      have h1 := Int.fmod_nonneg_of_pos o (show (0 : Int) < 40009 by decide)
      have h2 := Int.fmod_lt_of_pos o (show (0 : Int) < 40009 by decide)
      omega)
    simp only [takeB, ev_var, ev_con, ev_bin, ev_neg, ev_not, ev_cmp, ev_chain, ev_and, ev_or, ev_ite, ev_tup, ev_lst, ev_call, ev_callk, ev_bl, ev_len, ev_bits, ev_isi, ev_sub, ev_slc, ev_callb, ea_nil, ea_cons, ei_rng1, ei_rng2, ei_zip, ei_enum, ei_it, ex_asg, ex_tas, ex_par, ex_setix, ex_app, ex_ite, ex_skip, ex_seq, ex_ret, ex_retn, ex_pass, ex_cont, ex_brk, evP, setRs, evRet, pk, peek, rd, setAll, bindT, wipeE, unwipe, noOwn, condOf, isNo, RV.pd, RV.frz, canPut, entryE, List.length_cons, List.length_nil, List.map_cons, List.map_nil, List.cons_append, List.nil_append, List.append_nil, Nat.sub_self, Nat.reduceSub, Nat.reduceAdd, Nat.zero_add, List.replicate_succ, List.replicate_zero, List.getElem?_cons_zero, List.getElem?_cons_succ, List.set_cons_zero, List.set_cons_succ, List.getD_cons_zero, List.getD_cons_succ, mapM_pd_nil, mapM_pd_cons, permL_nil, permL_cons, Option.map_some, Option.map_none, Option.bind_some, Option.pure_def, Option.bind_eq_bind, Bool.false_eq_true, if_true, if_false, ite_true, ite_false, reduceIte, reduceCtorEq, cmp_lt, cmp_le, cmp_gt, cmp_ge, cmp_eq_i, cmp_ne_i, cmp_eq_b, cmp_ne_b, cmp_eq_s, cmp_ne_s, cmp_eq_nn, cmp_is, cmp_isnot, isNone_none, isNone_bool, isNone_int, isNone_str, isNone_list, isNone_tuple, bin_add, bin_sub, mulOk_n, mulOk_m, divOk_n, Nat.reduceLT, Int.reduceEq, Int.reduceNe, ne_eq, not_false_eq_true, decide_true, decide_false, bin_mul, bin_fdiv, bin_mod, bin_addl, bin_addt, bin_shl, bin_shr, bin_band, bin_bor, tru_b, tru_i, tru_l, tru_t, tru_o, tru_n, len_l, len_t, len_o, item_l, item_t, item_o, item_b0, item_b1, item_b2, at0, at1, at2, at3, at4, at5, atm1, blt_abs, blt_int, blt_intb, blt_tl, blt_tt, blt_ll, blt_lt, blt_sum, blt_all, blt_any, blt_min2, blt_max2, put_b0, put_b1, put_b2, szOk_0, szOk_1, szOk_n, Nat.reduceLeDiff, bin_mul2, bin_pow, Bool.not_true, Bool.not_false, wp_some, Nx_nx, Rt_rt, Option.toList_some, Option.toList_none, hx, hn0, hnd, m2, ho, m3]

/-! ### the common defs of a table -/
/-- the i-th def of the table: p parameters, N slots, the body b -/
def Is (T : List FdD) (i p N : Nat) (b : S) : Prop := ∃ d : FdD, T[i]? = some d ∧ d.ps.length = p ∧ d.N.length = N ∧ d.body = b
def ent (N : Nat) (args : List RV) : List Sl := args.map some ++ List.replicate (N - args.length) none
section
variable {T : List FdD} {fu n i j : Nat}
theorem run_is {p N : Nat} {b : S} {args : List RV} {bx bx' : Bx} {r : RV} (h : Is T i p N b) (hl : args.length = p) (e : exS (callN T fu n) fu b ⟨ent N args, bx⟩ = some (.rt r bx')) : callN T fu (n + 1) i args bx = some (r, bx') := by
  obtain ⟨d, h1, h2, h3, rfl⟩ := h
  refine run_of h1 (by rw [h2]; exact hl) ?_
  unfold entryE
  rw [h3]
  exact e
theorem take_call (h : Is T i 2 6 takeB) {m k : Int} {b : Int × Int × Int} (hb : BOk m b) (hm : m < 2 ^ 60) (h0 : 0 < k) (h1 : k < 2 ^ 64) :
    ∃ v b', callN T fu (n + 1) i [.box, .dat (.int k)] (some b) = some (.dat (.int v), some b') ∧ 0 ≤ v ∧ v < k ∧ BOk (m + 1) b' := by
  obtain ⟨x, y, z⟩ := b
  obtain ⟨y0, y1, z0, z1⟩ := hb
  simp only at y0 y1 z0 z1
  obtain ⟨v, x', z', e, v0, v1, w0, w1⟩ := take_ex (cal := callN T fu n) (fu := fu) (x := x) (e2 := none) (e3 := none) (e4 := none) (e5 := none) h0 h1 y0 z0 (by omega)
  exact ⟨v, (x', y, z'), run_is h rfl e, v0, v1, y0, y1, w0, by simp only; omega⟩
/-! a choice from a pool -/
def ofB (t : Nat) : S := (.seq (.ret (.sub (.var 1) (.call t (.cons (.var 0) (.cons (.len (.var 1)) .nil))))) .skip)
theorem at_of {ds : List PyData} {v : Int} (h0 : 0 ≤ v) (h1 : v < ds.length) : ∃ d, L2.atI ds v = some d ∧ d ∈ ds := by
  obtain ⟨k, rfl⟩ := Int.eq_ofNat_of_zero_le h0
  have hk : k < ds.length := by omega
  exact ⟨ds[k], at_nat (List.getElem?_eq_getElem hk), List.getElem_mem _⟩
theorem of_call (ht : Is T j 2 6 takeB) (h : Is T i 2 2 (ofB j)) {m : Int} {b : Int × Int × Int} {ds : List PyData} (hb : BOk m b) (hm : m < 2 ^ 60) (h0 : ds ≠ []) (h1 : ds.length < 1000000) :
    ∃ d b', callN T fu (n + 2) i [.box, .dat (.list ds)] (some b) = some (.dat d, some b') ∧ d ∈ ds ∧ BOk (m + 1) b' := by
  have hl : 0 < ds.length := List.length_pos_iff.mpr h0
  obtain ⟨v, b', e, v0, v1, hb'⟩ := take_call (fu := fu) (n := n) ht hb hm (k := (ds.length : Int)) (by omega) (by omega)
  obtain ⟨d, q1, q2⟩ := at_of v0 v1
  refine ⟨d, b', run_is h rfl ?_, q2, hb'⟩
  simp only [ofB, ent, ev_var, ev_con, ev_bin, ev_neg, ev_not, ev_cmp, ev_chain, ev_and, ev_or, ev_ite, ev_tup, ev_lst, ev_call, ev_callk, ev_bl, ev_len, ev_bits, ev_isi, ev_sub, ev_slc, ev_callb, ea_nil, ea_cons, ei_rng1, ei_rng2, ei_zip, ei_enum, ei_it, ex_asg, ex_tas, ex_par, ex_setix, ex_app, ex_ite, ex_skip, ex_seq, ex_ret, ex_retn, ex_pass, ex_cont, ex_brk, evP, setRs, evRet, pk, peek, rd, setAll, bindT, wipeE, unwipe, noOwn, condOf, isNo, RV.pd, RV.frz, canPut, entryE, List.length_cons, List.length_nil, List.map_cons, List.map_nil, List.cons_append, List.nil_append, List.append_nil, Nat.sub_self, Nat.reduceSub, Nat.reduceAdd, Nat.zero_add, List.replicate_succ, List.replicate_zero, List.getElem?_cons_zero, List.getElem?_cons_succ, List.set_cons_zero, List.set_cons_succ, List.getD_cons_zero, List.getD_cons_succ, mapM_pd_nil, mapM_pd_cons, permL_nil, permL_cons, Option.map_some, Option.map_none, Option.bind_some, Option.pure_def, Option.bind_eq_bind, Bool.false_eq_true, if_true, if_false, ite_true, ite_false, reduceIte, reduceCtorEq, cmp_lt, cmp_le, cmp_gt, cmp_ge, cmp_eq_i, cmp_ne_i, cmp_eq_b, cmp_ne_b, cmp_eq_s, cmp_ne_s, cmp_eq_nn, cmp_is, cmp_isnot, isNone_none, isNone_bool, isNone_int, isNone_str, isNone_list, isNone_tuple, bin_add, bin_sub, mulOk_n, mulOk_m, divOk_n, Nat.reduceLT, Int.reduceEq, Int.reduceNe, ne_eq, not_false_eq_true, decide_true, decide_false, bin_mul, bin_fdiv, bin_mod, bin_addl, bin_addt, bin_shl, bin_shr, bin_band, bin_bor, tru_b, tru_i, tru_l, tru_t, tru_o, tru_n, len_l, len_t, len_o, item_l, item_t, item_o, item_b0, item_b1, item_b2, at0, at1, at2, at3, at4, at5, atm1, blt_abs, blt_int, blt_intb, blt_tl, blt_tt, blt_ll, blt_lt, blt_sum, blt_all, blt_any, blt_min2, blt_max2, put_b0, put_b1, put_b2, szOk_0, szOk_1, szOk_n, Nat.reduceLeDiff, bin_mul2, bin_pow, Bool.not_true, Bool.not_false, wp_some, Nx_nx, Rt_rt, Option.toList_some, Option.toList_none, e, q1]
/-! equality of data, kinds and all -/
def sameB (t : Nat) : S := (.seq (.ite (.isi (.var 1) [.list, .tuple]) (.seq (.ite (.or (.cmp .ne (.isi (.var 0) [.list]) (.isi (.var 1) [.list])) (.cmp .ne (.isi (.var 0) [.tuple]) (.isi (.var 1) [.tuple]))) (.seq (.ret (.con (.bool false))) .skip) .skip) (.seq (.ret (.and (.cmp .eq (.len (.var 0)) (.len (.var 1))) (.bl .all (.cons (.lc [2, 3] (.zip (.var 0) (.var 1)) (.tp [2, 3]) .no (.call t (.cons (.var 2) (.cons (.var 3) .nil)))) .nil)))) .skip)) .skip) (.seq (.ite (.or (.cmp .is_ (.var 1) (.con .none)) (.isi (.var 1) [.bool, .str])) (.seq (.ret (.and (.cmp .eq (.var 0) (.var 1)) (.and (.cmp .eq (.isi (.var 0) [.bool]) (.isi (.var 1) [.bool])) (.cmp .eq (.cmp .is_ (.var 0) (.con .none)) (.cmp .is_ (.var 1) (.con .none)))))) .skip) .skip) (.seq (.ret (.and (.isi (.var 0) [.int]) (.and (.not (.isi (.var 0) [.bool])) (.cmp .eq (.var 0) (.var 1))))) .skip)))
/-- data whose equality with itself is told -/
inductive Fine : Nat → PyData → Prop where
  | none {n : Nat} : Fine n .none
  | bool {n : Nat} (b : Bool) : Fine n (.bool b)
  | int {n : Nat} (i : Int) : Fine n (.int i)
  | str {n : Nat} (x : Str) (h : okd (.str x) = true) : Fine n (.str x)
  | list {n : Nat} {ds : List PyData} (h : ds.length ≤ 16777216) (a : ∀ d ∈ ds, Fine n d) : Fine (n + 1) (.list ds)
  | tuple {n : Nat} {ds : List PyData} (h : ds.length ≤ 16777216) (a : ∀ d ∈ ds, Fine n d) : Fine (n + 1) (.tuple ds)
theorem Fine.mono {n m : Nat} {d : PyData} (h : Fine n d) (l : n ≤ m) : Fine m d := by
  induction h generalizing m with
  | none => exact .none
  | bool b => exact .bool b
  | int i => exact .int i
  | str x h => exact .str x h
  | list h a ih => cases m with
    | zero => omega
    | succ m => exact .list h fun d hd => ih d hd (by omega)
  | tuple h a ih => cases m with
    | zero => omega
    | succ m => exact .tuple h fun d hd => ih d hd (by omega)
theorem zipSame {ds : List PyData} : (List.zipWith pairD ds ds).filterMap (fun _ => some (PyData.bool true)) = (List.replicate ds.length true).map .bool := by
  induction ds with
  | nil => rfl
  | cons d ds ih =>
    rw [List.zipWith_cons_cons, List.filterMap_cons, ih, List.length_cons, List.replicate_succ, List.map_cons]
theorem mem_zipSame {d : PyData} : ∀ {ds : List PyData}, d ∈ List.zipWith pairD ds ds → ∃ e ∈ ds, d = pairD e e
  | [], h => by simp at h
  | e :: ds, h => by
    rw [List.zipWith_cons_cons] at h
    rcases List.mem_cons.mp h with h | h
    · exact ⟨e, List.mem_cons_self, h⟩
    · obtain ⟨x, hx, q⟩ := mem_zipSame h
      exact ⟨x, List.mem_cons_of_mem _ hx, q⟩
theorem all_rep (n : Nat) : (List.replicate n true).all id = true := by
  rw [List.all_eq_true]
  intro x hx
  rw [List.eq_of_mem_replicate hx]; rfl
theorem same_true (h : Is T i 2 4 (sameB i)) : ∀ (m : Nat) (d : PyData) (bx : Bx), Fine m d → ∀ k, m ≤ k → callN T fu (k + 1) i [.dat d, .dat d] bx = some (.dat (.bool true), bx) := by
  have lc : ∀ (k : Nat) (ds : List PyData) (x : PyData) (bx : Bx), iterOf (.dat x) = some ds → seqOf (.dat x) = some ds → ds.length ≤ 16777216 → (∀ d ∈ ds, callN T fu k i [.dat d, .dat d] bx = some (.dat (.bool true), bx)) →
      evE (callN T fu k) (.lc [2, 3] (.zip (.var 0) (.var 1)) (.tp [2, 3]) .no (.call i (.cons (.var 2) (.cons (.var 3) .nil)))) ⟨[some (.dat x), some (.dat x), none, none], bx⟩ =
        some (.own ((List.replicate ds.length true).map .bool), ⟨[some (.dat x), some (.dat x), none, none], bx⟩) := fun k ds x bx _ hs hl ih => by
    rw [← zipSame]
    refine ev_lc (env := [some (.dat x), some (.dat x), none, none]) (bx := bx) (fun _ => some (.bool true)) (ds := List.zipWith pairD ds ds) ?_ (by rw [List.length_zipWith]; omega) fun d hd => ?_
    · simp only [ev_var, ev_con, ev_bin, ev_neg, ev_not, ev_cmp, ev_chain, ev_and, ev_or, ev_ite, ev_tup, ev_lst, ev_call, ev_callk, ev_bl, ev_len, ev_bits, ev_isi, ev_sub, ev_slc, ev_callb, ea_nil, ea_cons, ei_rng1, ei_rng2, ei_zip, ei_enum, ei_it, ex_asg, ex_tas, ex_par, ex_setix, ex_app, ex_ite, ex_skip, ex_seq, ex_ret, ex_retn, ex_pass, ex_cont, ex_brk, evP, setRs, evRet, pk, peek, rd, setAll, bindT, wipeE, unwipe, noOwn, condOf, isNo, RV.pd, RV.frz, canPut, entryE, List.length_cons, List.length_nil, List.map_cons, List.map_nil, List.cons_append, List.nil_append, List.append_nil, Nat.sub_self, Nat.reduceSub, Nat.reduceAdd, Nat.zero_add, List.replicate_succ, List.replicate_zero, List.getElem?_cons_zero, List.getElem?_cons_succ, List.set_cons_zero, List.set_cons_succ, List.getD_cons_zero, List.getD_cons_succ, mapM_pd_nil, mapM_pd_cons, permL_nil, permL_cons, Option.map_some, Option.map_none, Option.bind_some, Option.pure_def, Option.bind_eq_bind, Bool.false_eq_true, if_true, if_false, ite_true, ite_false, reduceIte, reduceCtorEq, cmp_lt, cmp_le, cmp_gt, cmp_ge, cmp_eq_i, cmp_ne_i, cmp_eq_b, cmp_ne_b, cmp_eq_s, cmp_ne_s, cmp_eq_nn, cmp_is, cmp_isnot, isNone_none, isNone_bool, isNone_int, isNone_str, isNone_list, isNone_tuple, bin_add, bin_sub, mulOk_n, mulOk_m, divOk_n, Nat.reduceLT, Int.reduceEq, Int.reduceNe, ne_eq, not_false_eq_true, decide_true, decide_false, bin_mul, bin_fdiv, bin_mod, bin_addl, bin_addt, bin_shl, bin_shr, bin_band, bin_bor, tru_b, tru_i, tru_l, tru_t, tru_o, tru_n, len_l, len_t, len_o, item_l, item_t, item_o, item_b0, item_b1, item_b2, at0, at1, at2, at3, at4, at5, atm1, blt_abs, blt_int, blt_intb, blt_tl, blt_tt, blt_ll, blt_lt, blt_sum, blt_all, blt_any, blt_min2, blt_max2, put_b0, put_b1, put_b2, szOk_0, szOk_1, szOk_n, Nat.reduceLeDiff, bin_mul2, bin_pow, Bool.not_true, Bool.not_false, wp_some, Nx_nx, Rt_rt, Option.toList_some, Option.toList_none, zipOf, hs]
    · obtain ⟨e, he, rfl⟩ := mem_zipSame hd
      refine ⟨[some (.dat x), some (.dat x), some (.dat e), some (.dat e)], ?_, rfl⟩
      simp only [lcStep, pairD, ev_var, ev_con, ev_bin, ev_neg, ev_not, ev_cmp, ev_chain, ev_and, ev_or, ev_ite, ev_tup, ev_lst, ev_call, ev_callk, ev_bl, ev_len, ev_bits, ev_isi, ev_sub, ev_slc, ev_callb, ea_nil, ea_cons, ei_rng1, ei_rng2, ei_zip, ei_enum, ei_it, ex_asg, ex_tas, ex_par, ex_setix, ex_app, ex_ite, ex_skip, ex_seq, ex_ret, ex_retn, ex_pass, ex_cont, ex_brk, evP, setRs, evRet, pk, peek, rd, setAll, bindT, wipeE, unwipe, noOwn, condOf, isNo, RV.pd, RV.frz, canPut, entryE, List.length_cons, List.length_nil, List.map_cons, List.map_nil, List.cons_append, List.nil_append, List.append_nil, Nat.sub_self, Nat.reduceSub, Nat.reduceAdd, Nat.zero_add, List.replicate_succ, List.replicate_zero, List.getElem?_cons_zero, List.getElem?_cons_succ, List.set_cons_zero, List.set_cons_succ, List.getD_cons_zero, List.getD_cons_succ, mapM_pd_nil, mapM_pd_cons, permL_nil, permL_cons, Option.map_some, Option.map_none, Option.bind_some, Option.pure_def, Option.bind_eq_bind, Bool.false_eq_true, if_true, if_false, ite_true, ite_false, reduceIte, reduceCtorEq, cmp_lt, cmp_le, cmp_gt, cmp_ge, cmp_eq_i, cmp_ne_i, cmp_eq_b, cmp_ne_b, cmp_eq_s, cmp_ne_s, cmp_eq_nn, cmp_is, cmp_isnot, isNone_none, isNone_bool, isNone_int, isNone_str, isNone_list, isNone_tuple, bin_add, bin_sub, mulOk_n, mulOk_m, divOk_n, Nat.reduceLT, Int.reduceEq, Int.reduceNe, ne_eq, not_false_eq_true, decide_true, decide_false, bin_mul, bin_fdiv, bin_mod, bin_addl, bin_addt, bin_shl, bin_shr, bin_band, bin_bor, tru_b, tru_i, tru_l, tru_t, tru_o, tru_n, len_l, len_t, len_o, item_l, item_t, item_o, item_b0, item_b1, item_b2, at0, at1, at2, at3, at4, at5, atm1, blt_abs, blt_int, blt_intb, blt_tl, blt_tt, blt_ll, blt_lt, blt_sum, blt_all, blt_any, blt_min2, blt_max2, put_b0, put_b1, put_b2, szOk_0, szOk_1, szOk_n, Nat.reduceLeDiff, bin_mul2, bin_pow, Bool.not_true, Bool.not_false, wp_some, Nx_nx, Rt_rt, Option.toList_some, Option.toList_none, ih e he]
  intro m d bx hd k hk
  induction hd generalizing k bx with
  | none => exact run_is h rfl (by simp only [sameB, ent, ev_var, ev_con, ev_bin, ev_neg, ev_not, ev_cmp, ev_chain, ev_and, ev_or, ev_ite, ev_tup, ev_lst, ev_call, ev_callk, ev_bl, ev_len, ev_bits, ev_isi, ev_sub, ev_slc, ev_callb, ea_nil, ea_cons, ei_rng1, ei_rng2, ei_zip, ei_enum, ei_it, ex_asg, ex_tas, ex_par, ex_setix, ex_app, ex_ite, ex_skip, ex_seq, ex_ret, ex_retn, ex_pass, ex_cont, ex_brk, evP, setRs, evRet, pk, peek, rd, setAll, bindT, wipeE, unwipe, noOwn, condOf, isNo, RV.pd, RV.frz, canPut, entryE, List.length_cons, List.length_nil, List.map_cons, List.map_nil, List.cons_append, List.nil_append, List.append_nil, Nat.sub_self, Nat.reduceSub, Nat.reduceAdd, Nat.zero_add, List.replicate_succ, List.replicate_zero, List.getElem?_cons_zero, List.getElem?_cons_succ, List.set_cons_zero, List.set_cons_succ, List.getD_cons_zero, List.getD_cons_succ, mapM_pd_nil, mapM_pd_cons, permL_nil, permL_cons, Option.map_some, Option.map_none, Option.bind_some, Option.pure_def, Option.bind_eq_bind, Bool.false_eq_true, if_true, if_false, ite_true, ite_false, reduceIte, reduceCtorEq, cmp_lt, cmp_le, cmp_gt, cmp_ge, cmp_eq_i, cmp_ne_i, cmp_eq_b, cmp_ne_b, cmp_eq_s, cmp_ne_s, cmp_eq_nn, cmp_is, cmp_isnot, isNone_none, isNone_bool, isNone_int, isNone_str, isNone_list, isNone_tuple, bin_add, bin_sub, mulOk_n, mulOk_m, divOk_n, Nat.reduceLT, Int.reduceEq, Int.reduceNe, ne_eq, not_false_eq_true, decide_true, decide_false, bin_mul, bin_fdiv, bin_mod, bin_addl, bin_addt, bin_shl, bin_shr, bin_band, bin_bor, tru_b, tru_i, tru_l, tru_t, tru_o, tru_n, len_l, len_t, len_o, item_l, item_t, item_o, item_b0, item_b1, item_b2, at0, at1, at2, at3, at4, at5, atm1, blt_abs, blt_int, blt_intb, blt_tl, blt_tt, blt_ll, blt_lt, blt_sum, blt_all, blt_any, blt_min2, blt_max2, put_b0, put_b1, put_b2, szOk_0, szOk_1, szOk_n, Nat.reduceLeDiff, bin_mul2, bin_pow, Bool.not_true, Bool.not_false, wp_some, Nx_nx, Rt_rt, Option.toList_some, Option.toList_none, isData, List.any_cons, List.any_nil, tyOf, Bool.or_false, Bool.or_self])
  | bool b => exact run_is h rfl (by simp only [sameB, ent, ev_var, ev_con, ev_bin, ev_neg, ev_not, ev_cmp, ev_chain, ev_and, ev_or, ev_ite, ev_tup, ev_lst, ev_call, ev_callk, ev_bl, ev_len, ev_bits, ev_isi, ev_sub, ev_slc, ev_callb, ea_nil, ea_cons, ei_rng1, ei_rng2, ei_zip, ei_enum, ei_it, ex_asg, ex_tas, ex_par, ex_setix, ex_app, ex_ite, ex_skip, ex_seq, ex_ret, ex_retn, ex_pass, ex_cont, ex_brk, evP, setRs, evRet, pk, peek, rd, setAll, bindT, wipeE, unwipe, noOwn, condOf, isNo, RV.pd, RV.frz, canPut, entryE, List.length_cons, List.length_nil, List.map_cons, List.map_nil, List.cons_append, List.nil_append, List.append_nil, Nat.sub_self, Nat.reduceSub, Nat.reduceAdd, Nat.zero_add, List.replicate_succ, List.replicate_zero, List.getElem?_cons_zero, List.getElem?_cons_succ, List.set_cons_zero, List.set_cons_succ, List.getD_cons_zero, List.getD_cons_succ, mapM_pd_nil, mapM_pd_cons, permL_nil, permL_cons, Option.map_some, Option.map_none, Option.bind_some, Option.pure_def, Option.bind_eq_bind, Bool.false_eq_true, if_true, if_false, ite_true, ite_false, reduceIte, reduceCtorEq, cmp_lt, cmp_le, cmp_gt, cmp_ge, cmp_eq_i, cmp_ne_i, cmp_eq_b, cmp_ne_b, cmp_eq_s, cmp_ne_s, cmp_eq_nn, cmp_is, cmp_isnot, isNone_none, isNone_bool, isNone_int, isNone_str, isNone_list, isNone_tuple, bin_add, bin_sub, mulOk_n, mulOk_m, divOk_n, Nat.reduceLT, Int.reduceEq, Int.reduceNe, ne_eq, not_false_eq_true, decide_true, decide_false, bin_mul, bin_fdiv, bin_mod, bin_addl, bin_addt, bin_shl, bin_shr, bin_band, bin_bor, tru_b, tru_i, tru_l, tru_t, tru_o, tru_n, len_l, len_t, len_o, item_l, item_t, item_o, item_b0, item_b1, item_b2, at0, at1, at2, at3, at4, at5, atm1, blt_abs, blt_int, blt_intb, blt_tl, blt_tt, blt_ll, blt_lt, blt_sum, blt_all, blt_any, blt_min2, blt_max2, put_b0, put_b1, put_b2, szOk_0, szOk_1, szOk_n, Nat.reduceLeDiff, bin_mul2, bin_pow, Bool.not_true, Bool.not_false, wp_some, Nx_nx, Rt_rt, Option.toList_some, Option.toList_none, isData, List.any_cons, List.any_nil, tyOf, Bool.or_false, Bool.or_self])
  | int x => exact run_is h rfl (by simp only [sameB, ent, ev_var, ev_con, ev_bin, ev_neg, ev_not, ev_cmp, ev_chain, ev_and, ev_or, ev_ite, ev_tup, ev_lst, ev_call, ev_callk, ev_bl, ev_len, ev_bits, ev_isi, ev_sub, ev_slc, ev_callb, ea_nil, ea_cons, ei_rng1, ei_rng2, ei_zip, ei_enum, ei_it, ex_asg, ex_tas, ex_par, ex_setix, ex_app, ex_ite, ex_skip, ex_seq, ex_ret, ex_retn, ex_pass, ex_cont, ex_brk, evP, setRs, evRet, pk, peek, rd, setAll, bindT, wipeE, unwipe, noOwn, condOf, isNo, RV.pd, RV.frz, canPut, entryE, List.length_cons, List.length_nil, List.map_cons, List.map_nil, List.cons_append, List.nil_append, List.append_nil, Nat.sub_self, Nat.reduceSub, Nat.reduceAdd, Nat.zero_add, List.replicate_succ, List.replicate_zero, List.getElem?_cons_zero, List.getElem?_cons_succ, List.set_cons_zero, List.set_cons_succ, List.getD_cons_zero, List.getD_cons_succ, mapM_pd_nil, mapM_pd_cons, permL_nil, permL_cons, Option.map_some, Option.map_none, Option.bind_some, Option.pure_def, Option.bind_eq_bind, Bool.false_eq_true, if_true, if_false, ite_true, ite_false, reduceIte, reduceCtorEq, cmp_lt, cmp_le, cmp_gt, cmp_ge, cmp_eq_i, cmp_ne_i, cmp_eq_b, cmp_ne_b, cmp_eq_s, cmp_ne_s, cmp_eq_nn, cmp_is, cmp_isnot, isNone_none, isNone_bool, isNone_int, isNone_str, isNone_list, isNone_tuple, bin_add, bin_sub, mulOk_n, mulOk_m, divOk_n, Nat.reduceLT, Int.reduceEq, Int.reduceNe, ne_eq, not_false_eq_true, decide_true, decide_false, bin_mul, bin_fdiv, bin_mod, bin_addl, bin_addt, bin_shl, bin_shr, bin_band, bin_bor, tru_b, tru_i, tru_l, tru_t, tru_o, tru_n, len_l, len_t, len_o, item_l, item_t, item_o, item_b0, item_b1, item_b2, at0, at1, at2, at3, at4, at5, atm1, blt_abs, blt_int, blt_intb, blt_tl, blt_tt, blt_ll, blt_lt, blt_sum, blt_all, blt_any, blt_min2, blt_max2, put_b0, put_b1, put_b2, szOk_0, szOk_1, szOk_n, Nat.reduceLeDiff, bin_mul2, bin_pow, Bool.not_true, Bool.not_false, wp_some, Nx_nx, Rt_rt, Option.toList_some, Option.toList_none, isData, List.any_cons, List.any_nil, tyOf, Bool.or_false, Bool.or_self])
  | str x hx => exact run_is h rfl (by simp only [sameB, ent, ev_var, ev_con, ev_bin, ev_neg, ev_not, ev_cmp, ev_chain, ev_and, ev_or, ev_ite, ev_tup, ev_lst, ev_call, ev_callk, ev_bl, ev_len, ev_bits, ev_isi, ev_sub, ev_slc, ev_callb, ea_nil, ea_cons, ei_rng1, ei_rng2, ei_zip, ei_enum, ei_it, ex_asg, ex_tas, ex_par, ex_setix, ex_app, ex_ite, ex_skip, ex_seq, ex_ret, ex_retn, ex_pass, ex_cont, ex_brk, evP, setRs, evRet, pk, peek, rd, setAll, bindT, wipeE, unwipe, noOwn, condOf, isNo, RV.pd, RV.frz, canPut, entryE, List.length_cons, List.length_nil, List.map_cons, List.map_nil, List.cons_append, List.nil_append, List.append_nil, Nat.sub_self, Nat.reduceSub, Nat.reduceAdd, Nat.zero_add, List.replicate_succ, List.replicate_zero, List.getElem?_cons_zero, List.getElem?_cons_succ, List.set_cons_zero, List.set_cons_succ, List.getD_cons_zero, List.getD_cons_succ, mapM_pd_nil, mapM_pd_cons, permL_nil, permL_cons, Option.map_some, Option.map_none, Option.bind_some, Option.pure_def, Option.bind_eq_bind, Bool.false_eq_true, if_true, if_false, ite_true, ite_false, reduceIte, reduceCtorEq, cmp_lt, cmp_le, cmp_gt, cmp_ge, cmp_eq_i, cmp_ne_i, cmp_eq_b, cmp_ne_b, cmp_eq_s, cmp_ne_s, cmp_eq_nn, cmp_is, cmp_isnot, isNone_none, isNone_bool, isNone_int, isNone_str, isNone_list, isNone_tuple, bin_add, bin_sub, mulOk_n, mulOk_m, divOk_n, Nat.reduceLT, Int.reduceEq, Int.reduceNe, ne_eq, not_false_eq_true, decide_true, decide_false, bin_mul, bin_fdiv, bin_mod, bin_addl, bin_addt, bin_shl, bin_shr, bin_band, bin_bor, tru_b, tru_i, tru_l, tru_t, tru_o, tru_n, len_l, len_t, len_o, item_l, item_t, item_o, item_b0, item_b1, item_b2, at0, at1, at2, at3, at4, at5, atm1, blt_abs, blt_int, blt_intb, blt_tl, blt_tt, blt_ll, blt_lt, blt_sum, blt_all, blt_any, blt_min2, blt_max2, put_b0, put_b1, put_b2, szOk_0, szOk_1, szOk_n, Nat.reduceLeDiff, bin_mul2, bin_pow, Bool.not_true, Bool.not_false, wp_some, Nx_nx, Rt_rt, Option.toList_some, Option.toList_none, isData, List.any_cons, List.any_nil, tyOf, Bool.or_false, Bool.or_self, Bool.false_or, Bool.or_true, Bool.true_or, cmp_eq_s hx hx, beq_self_eq_true])
  | @list n ds hl a ih =>
    cases k with
    | zero => omega
    | succ k =>
      have q := lc (k + 1) ds (.list ds) bx rfl rfl hl fun d hd => ih d hd bx k (by omega)
      exact run_is h rfl (by simp only [sameB, ent, ev_var, ev_con, ev_bin, ev_neg, ev_not, ev_cmp, ev_chain, ev_and, ev_or, ev_ite, ev_tup, ev_lst, ev_call, ev_callk, ev_bl, ev_len, ev_bits, ev_isi, ev_sub, ev_slc, ev_callb, ea_nil, ea_cons, ei_rng1, ei_rng2, ei_zip, ei_enum, ei_it, ex_asg, ex_tas, ex_par, ex_setix, ex_app, ex_ite, ex_skip, ex_seq, ex_ret, ex_retn, ex_pass, ex_cont, ex_brk, evP, setRs, evRet, pk, peek, rd, setAll, bindT, wipeE, unwipe, noOwn, condOf, isNo, RV.pd, RV.frz, canPut, entryE, List.length_cons, List.length_nil, List.map_cons, List.map_nil, List.cons_append, List.nil_append, List.append_nil, Nat.sub_self, Nat.reduceSub, Nat.reduceAdd, Nat.zero_add, List.replicate_succ, List.replicate_zero, List.getElem?_cons_zero, List.getElem?_cons_succ, List.set_cons_zero, List.set_cons_succ, List.getD_cons_zero, List.getD_cons_succ, mapM_pd_nil, mapM_pd_cons, permL_nil, permL_cons, Option.map_some, Option.map_none, Option.bind_some, Option.pure_def, Option.bind_eq_bind, Bool.false_eq_true, if_true, if_false, ite_true, ite_false, reduceIte, reduceCtorEq, cmp_lt, cmp_le, cmp_gt, cmp_ge, cmp_eq_i, cmp_ne_i, cmp_eq_b, cmp_ne_b, cmp_eq_s, cmp_ne_s, cmp_eq_nn, cmp_is, cmp_isnot, isNone_none, isNone_bool, isNone_int, isNone_str, isNone_list, isNone_tuple, bin_add, bin_sub, mulOk_n, mulOk_m, divOk_n, Nat.reduceLT, Int.reduceEq, Int.reduceNe, ne_eq, not_false_eq_true, decide_true, decide_false, bin_mul, bin_fdiv, bin_mod, bin_addl, bin_addt, bin_shl, bin_shr, bin_band, bin_bor, tru_b, tru_i, tru_l, tru_t, tru_o, tru_n, len_l, len_t, len_o, item_l, item_t, item_o, item_b0, item_b1, item_b2, at0, at1, at2, at3, at4, at5, atm1, blt_abs, blt_int, blt_intb, blt_tl, blt_tt, blt_ll, blt_lt, blt_sum, blt_all, blt_any, blt_min2, blt_max2, put_b0, put_b1, put_b2, szOk_0, szOk_1, szOk_n, Nat.reduceLeDiff, bin_mul2, bin_pow, Bool.not_true, Bool.not_false, wp_some, Nx_nx, Rt_rt, Option.toList_some, Option.toList_none, isData, List.any_cons, List.any_nil, tyOf, Bool.or_false, Bool.or_self, Bool.or_true, Bool.true_or, q, all_rep])
  | @tuple n ds hl a ih =>
    cases k with
    | zero => omega
    | succ k =>
      have q := lc (k + 1) ds (.tuple ds) bx rfl rfl hl fun d hd => ih d hd bx k (by omega)
      exact run_is h rfl (by simp only [sameB, ent, ev_var, ev_con, ev_bin, ev_neg, ev_not, ev_cmp, ev_chain, ev_and, ev_or, ev_ite, ev_tup, ev_lst, ev_call, ev_callk, ev_bl, ev_len, ev_bits, ev_isi, ev_sub, ev_slc, ev_callb, ea_nil, ea_cons, ei_rng1, ei_rng2, ei_zip, ei_enum, ei_it, ex_asg, ex_tas, ex_par, ex_setix, ex_app, ex_ite, ex_skip, ex_seq, ex_ret, ex_retn, ex_pass, ex_cont, ex_brk, evP, setRs, evRet, pk, peek, rd, setAll, bindT, wipeE, unwipe, noOwn, condOf, isNo, RV.pd, RV.frz, canPut, entryE, List.length_cons, List.length_nil, List.map_cons, List.map_nil, List.cons_append, List.nil_append, List.append_nil, Nat.sub_self, Nat.reduceSub, Nat.reduceAdd, Nat.zero_add, List.replicate_succ, List.replicate_zero, List.getElem?_cons_zero, List.getElem?_cons_succ, List.set_cons_zero, List.set_cons_succ, List.getD_cons_zero, List.getD_cons_succ, mapM_pd_nil, mapM_pd_cons, permL_nil, permL_cons, Option.map_some, Option.map_none, Option.bind_some, Option.pure_def, Option.bind_eq_bind, Bool.false_eq_true, if_true, if_false, ite_true, ite_false, reduceIte, reduceCtorEq, cmp_lt, cmp_le, cmp_gt, cmp_ge, cmp_eq_i, cmp_ne_i, cmp_eq_b, cmp_ne_b, cmp_eq_s, cmp_ne_s, cmp_eq_nn, cmp_is, cmp_isnot, isNone_none, isNone_bool, isNone_int, isNone_str, isNone_list, isNone_tuple, bin_add, bin_sub, mulOk_n, mulOk_m, divOk_n, Nat.reduceLT, Int.reduceEq, Int.reduceNe, ne_eq, not_false_eq_true, decide_true, decide_false, bin_mul, bin_fdiv, bin_mod, bin_addl, bin_addt, bin_shl, bin_shr, bin_band, bin_bor, tru_b, tru_i, tru_l, tru_t, tru_o, tru_n, len_l, len_t, len_o, item_l, item_t, item_o, item_b0, item_b1, item_b2, at0, at1, at2, at3, at4, at5, atm1, blt_abs, blt_int, blt_intb, blt_tl, blt_tt, blt_ll, blt_lt, blt_sum, blt_all, blt_any, blt_min2, blt_max2, put_b0, put_b1, put_b2, szOk_0, szOk_1, szOk_n, Nat.reduceLeDiff, bin_mul2, bin_pow, Bool.not_true, Bool.not_false, wp_some, Nx_nx, Rt_rt, Option.toList_some, Option.toList_none, isData, List.any_cons, List.any_nil, tyOf, Bool.or_false, Bool.or_self, Bool.or_true, Bool.true_or, Bool.false_or, q, all_rep])
/-! ranges -/
theorem rangeD_len {lo : Int} {n : Nat} : (rangeD lo n).length = n := by unfold rangeD; simp
theorem rangeD_at {lo : Int} {n k : Nat} {d : PyData} (h : (rangeD lo n)[k]? = some d) : k < n ∧ d = .int (lo + k) := by
  unfold rangeD at h
  rw [List.getElem?_map] at h
  cases e : (List.range n)[k]? with
  | none => rw [e] at h; cases h
  | some j =>
    rw [e] at h
    obtain ⟨h1, h2⟩ := List.getElem?_eq_some_iff.mp e
    rw [List.length_range] at h1
    rw [List.getElem_range] at h2
    subst h2
    exact ⟨h1, (Option.some.inj h).symm⟩
theorem rangeD_mem {lo : Int} {n : Nat} {d : PyData} (h : d ∈ rangeD lo n) : ∃ k, k < n ∧ d = .int (lo + k) := by
  obtain ⟨k, hk, e⟩ := List.mem_iff_getElem.mp h
  exact ⟨k, (rangeD_at (by rw [List.getElem?_eq_getElem hk, e])).1, (rangeD_at (by rw [List.getElem?_eq_getElem hk, e])).2⟩
theorem inR_ok {i : Int} (h0 : -4611686018427387904 < i) (h1 : i < 4611686018427387904) : inR i = true := by
  cases i with
  | ofNat n => exact smallN_ok (by simp only [Int.ofNat_eq_natCast] at h1; omega)
  | negSucc n => exact smallN_ok (by omega)
/-! drawn coefficients and bounds -/
def coefsB (t : Nat) : S := (.seq (.asg 4 (.lst .nil)) (.seq (.loop (.rng1 (.bin .add (.con (.int 1)) (.call t (.cons (.var 0) (.cons (.var 1) .nil))))) (.nm 5) (.seq (.asg 6 (.bin .add (.con (.int 1)) (.call t (.cons (.var 0) (.cons (.var 2) .nil))))) (.seq (.app 4 (.ite (.and (.var 3) (.cmp .eq (.call t (.cons (.var 0) (.cons (.con (.int 2)) .nil))) (.con (.int 1)))) (.neg (.var 6)) (.var 6))) .skip))) (.seq (.ret (.bl .tuple (.cons (.var 4) .nil))) .skip)))
/-- s: signs too -/
def CoefOk (hi : Int) (s : Bool) (c : Int) : Prop := c ≠ 0 ∧ -hi ≤ c ∧ c ≤ hi ∧ (s = false → 0 < c)
theorem coefs_call (ht : Is T j 2 6 takeB) (h : Is T i 4 7 (coefsB j)) {m many hi : Int} {s : Bool} {b : Int × Int × Int} (hb : BOk m b) (h0 : 0 < many) (h1 : many ≤ 1000) (hm : m + 3000 < 2 ^ 60) (g0 : 0 < hi) (g1 : hi < 2 ^ 64) :
    ∃ (cs : List Int) (b' : Int × Int × Int), callN T fu (n + 2) i [.box, .dat (.int many), .dat (.int hi), .dat (.bool s)] (some b) = some (.dat (.tuple (cs.map .int)), some b') ∧
      1 ≤ cs.length ∧ (cs.length : Int) ≤ many ∧ (∀ c ∈ cs, CoefOk hi s c) ∧ BOk (m + 3000) b' := by
  obtain ⟨v, b1, e1, v0, v1, hb1⟩ := take_call (fu := fu) (n := n) ht hb (by omega) (k := many) h0 (by omega)
  obtain ⟨N, hN⟩ := Int.eq_ofNat_of_zero_le v0
  have loop := forL_inv (tg := .nm 5) (body := exS (callN T fu (n + 1)) fu (.seq (.asg 6 (.bin .add (.con (.int 1)) (.call j (.cons (.var 0) (.cons (.var 2) .nil))))) (.seq (.app 4 (.ite (.and (.var 3) (.cmp .eq (.call j (.cons (.var 0) (.cons (.con (.int 2)) .nil))) (.con (.int 1)))) (.neg (.var 6)) (.var 6))) .skip)))
    (fun k g => ∃ (cs : List Int) (e5 e6 : Sl) (b' : Int × Int × Int), g = ⟨[some .box, some (.dat (.int many)), some (.dat (.int hi)), some (.dat (.bool s)), some (.own (cs.map .int)), e5, e6], some b'⟩ ∧ cs.length = k ∧ (∀ c ∈ cs, CoefOk hi s c) ∧ BOk (m + 1 + 2 * k) b')
    (rangeD 0 (N + 1)) 0 ⟨[some .box, some (.dat (.int many)), some (.dat (.int hi)), some (.dat (.bool s)), some (.own []), none, none], some b1⟩ ⟨[], none, none, b1, rfl, rfl, by simp, by simpa using hb1⟩
    fun k d g hd hI => by
      obtain ⟨cs, e5, e6, b2, rfl, hl, hc, hb2⟩ := hI
      obtain ⟨hk, rfl⟩ := rangeD_at hd
      obtain ⟨u, b3, e3, u0, u1, hb3⟩ := take_call (fu := fu) (n := n) ht hb2 (by omega) (k := hi) g0 g1
      have hlen : (cs.map PyData.int).length < 16777216 := by rw [List.length_map]; omega
      cases s with
      | false =>
        simp only [ev_var, ev_con, ev_bin, ev_neg, ev_not, ev_cmp, ev_chain, ev_and, ev_or, ev_ite, ev_tup, ev_lst, ev_call, ev_callk, ev_bl, ev_len, ev_bits, ev_isi, ev_sub, ev_slc, ev_callb, ea_nil, ea_cons, ei_rng1, ei_rng2, ei_zip, ei_enum, ei_it, ex_asg, ex_tas, ex_par, ex_setix, ex_app, ex_ite, ex_skip, ex_seq, ex_ret, ex_retn, ex_pass, ex_cont, ex_brk, evP, setRs, evRet, pk, peek, rd, setAll, bindT, wipeE, unwipe, noOwn, condOf, isNo, RV.pd, RV.frz, canPut, entryE, List.length_cons, List.length_nil, List.map_cons, List.map_nil, List.cons_append, List.nil_append, List.append_nil, Nat.sub_self, Nat.reduceSub, Nat.reduceAdd, Nat.zero_add, List.replicate_succ, List.replicate_zero, List.getElem?_cons_zero, List.getElem?_cons_succ, List.set_cons_zero, List.set_cons_succ, List.getD_cons_zero, List.getD_cons_succ, mapM_pd_nil, mapM_pd_cons, permL_nil, permL_cons, Option.map_some, Option.map_none, Option.bind_some, Option.pure_def, Option.bind_eq_bind, Bool.false_eq_true, if_true, if_false, ite_true, ite_false, reduceIte, reduceCtorEq, cmp_lt, cmp_le, cmp_gt, cmp_ge, cmp_eq_i, cmp_ne_i, cmp_eq_b, cmp_ne_b, cmp_eq_s, cmp_ne_s, cmp_eq_nn, cmp_is, cmp_isnot, isNone_none, isNone_bool, isNone_int, isNone_str, isNone_list, isNone_tuple, bin_add, bin_sub, mulOk_n, mulOk_m, divOk_n, Nat.reduceLT, Int.reduceEq, Int.reduceNe, ne_eq, not_false_eq_true, decide_true, decide_false, bin_mul, bin_fdiv, bin_mod, bin_addl, bin_addt, bin_shl, bin_shr, bin_band, bin_bor, tru_b, tru_i, tru_l, tru_t, tru_o, tru_n, len_l, len_t, len_o, item_l, item_t, item_o, item_b0, item_b1, item_b2, at0, at1, at2, at3, at4, at5, atm1, blt_abs, blt_int, blt_intb, blt_tl, blt_tt, blt_ll, blt_lt, blt_sum, blt_all, blt_any, blt_min2, blt_max2, put_b0, put_b1, put_b2, szOk_0, szOk_1, szOk_n, Nat.reduceLeDiff, bin_mul2, bin_pow, Bool.not_true, Bool.not_false, wp_some, Nx_nx, Rt_rt, Option.toList_some, Option.toList_none, e3, appE, hlen]
        refine ⟨cs ++ [1 + u], _, _, b3, by rw [List.map_append]; rfl, by simp; omega, fun c hc' => ?_, hb3.mono (by omega)⟩
        rcases List.mem_append.mp hc' with q | q
        · exact hc c q
        · rw [List.mem_singleton.mp q]; exact ⟨by omega, by omega, by omega, fun _ => by omega⟩
      | true =>
        obtain ⟨w, b4, e4, w0, w1, hb4⟩ := take_call (fu := fu) (n := n) ht hb3 (by omega) (k := 2) (by omega) (by omega)
        by_cases hw : w = 1
        · simp only [ev_var, ev_con, ev_bin, ev_neg, ev_not, ev_cmp, ev_chain, ev_and, ev_or, ev_ite, ev_tup, ev_lst, ev_call, ev_callk, ev_bl, ev_len, ev_bits, ev_isi, ev_sub, ev_slc, ev_callb, ea_nil, ea_cons, ei_rng1, ei_rng2, ei_zip, ei_enum, ei_it, ex_asg, ex_tas, ex_par, ex_setix, ex_app, ex_ite, ex_skip, ex_seq, ex_ret, ex_retn, ex_pass, ex_cont, ex_brk, evP, setRs, evRet, pk, peek, rd, setAll, bindT, wipeE, unwipe, noOwn, condOf, isNo, RV.pd, RV.frz, canPut, entryE, List.length_cons, List.length_nil, List.map_cons, List.map_nil, List.cons_append, List.nil_append, List.append_nil, Nat.sub_self, Nat.reduceSub, Nat.reduceAdd, Nat.zero_add, List.replicate_succ, List.replicate_zero, List.getElem?_cons_zero, List.getElem?_cons_succ, List.set_cons_zero, List.set_cons_succ, List.getD_cons_zero, List.getD_cons_succ, mapM_pd_nil, mapM_pd_cons, permL_nil, permL_cons, Option.map_some, Option.map_none, Option.bind_some, Option.pure_def, Option.bind_eq_bind, Bool.false_eq_true, if_true, if_false, ite_true, ite_false, reduceIte, reduceCtorEq, cmp_lt, cmp_le, cmp_gt, cmp_ge, cmp_eq_i, cmp_ne_i, cmp_eq_b, cmp_ne_b, cmp_eq_s, cmp_ne_s, cmp_eq_nn, cmp_is, cmp_isnot, isNone_none, isNone_bool, isNone_int, isNone_str, isNone_list, isNone_tuple, bin_add, bin_sub, mulOk_n, mulOk_m, divOk_n, Nat.reduceLT, Int.reduceEq, Int.reduceNe, ne_eq, not_false_eq_true, decide_true, decide_false, bin_mul, bin_fdiv, bin_mod, bin_addl, bin_addt, bin_shl, bin_shr, bin_band, bin_bor, tru_b, tru_i, tru_l, tru_t, tru_o, tru_n, len_l, len_t, len_o, item_l, item_t, item_o, item_b0, item_b1, item_b2, at0, at1, at2, at3, at4, at5, atm1, blt_abs, blt_int, blt_intb, blt_tl, blt_tt, blt_ll, blt_lt, blt_sum, blt_all, blt_any, blt_min2, blt_max2, put_b0, put_b1, put_b2, szOk_0, szOk_1, szOk_n, Nat.reduceLeDiff, bin_mul2, bin_pow, Bool.not_true, Bool.not_false, wp_some, Nx_nx, Rt_rt, Option.toList_some, Option.toList_none, e3, e4, hw, appE, hlen]
          refine ⟨cs ++ [-(1 + u)], _, _, b4, by rw [List.map_append]; rfl, by simp; omega, fun c hc' => ?_, hb4.mono (by omega)⟩
          rcases List.mem_append.mp hc' with q | q
          · exact hc c q
          · rw [List.mem_singleton.mp q]; exact ⟨by omega, by omega, by omega, fun z => by cases z⟩
        · simp only [ev_var, ev_con, ev_bin, ev_neg, ev_not, ev_cmp, ev_chain, ev_and, ev_or, ev_ite, ev_tup, ev_lst, ev_call, ev_callk, ev_bl, ev_len, ev_bits, ev_isi, ev_sub, ev_slc, ev_callb, ea_nil, ea_cons, ei_rng1, ei_rng2, ei_zip, ei_enum, ei_it, ex_asg, ex_tas, ex_par, ex_setix, ex_app, ex_ite, ex_skip, ex_seq, ex_ret, ex_retn, ex_pass, ex_cont, ex_brk, evP, setRs, evRet, pk, peek, rd, setAll, bindT, wipeE, unwipe, noOwn, condOf, isNo, RV.pd, RV.frz, canPut, entryE, List.length_cons, List.length_nil, List.map_cons, List.map_nil, List.cons_append, List.nil_append, List.append_nil, Nat.sub_self, Nat.reduceSub, Nat.reduceAdd, Nat.zero_add, List.replicate_succ, List.replicate_zero, List.getElem?_cons_zero, List.getElem?_cons_succ, List.set_cons_zero, List.set_cons_succ, List.getD_cons_zero, List.getD_cons_succ, mapM_pd_nil, mapM_pd_cons, permL_nil, permL_cons, Option.map_some, Option.map_none, Option.bind_some, Option.pure_def, Option.bind_eq_bind, Bool.false_eq_true, if_true, if_false, ite_true, ite_false, reduceIte, reduceCtorEq, cmp_lt, cmp_le, cmp_gt, cmp_ge, cmp_eq_i, cmp_ne_i, cmp_eq_b, cmp_ne_b, cmp_eq_s, cmp_ne_s, cmp_eq_nn, cmp_is, cmp_isnot, isNone_none, isNone_bool, isNone_int, isNone_str, isNone_list, isNone_tuple, bin_add, bin_sub, mulOk_n, mulOk_m, divOk_n, Nat.reduceLT, Int.reduceEq, Int.reduceNe, ne_eq, not_false_eq_true, decide_true, decide_false, bin_mul, bin_fdiv, bin_mod, bin_addl, bin_addt, bin_shl, bin_shr, bin_band, bin_bor, tru_b, tru_i, tru_l, tru_t, tru_o, tru_n, len_l, len_t, len_o, item_l, item_t, item_o, item_b0, item_b1, item_b2, at0, at1, at2, at3, at4, at5, atm1, blt_abs, blt_int, blt_intb, blt_tl, blt_tt, blt_ll, blt_lt, blt_sum, blt_all, blt_any, blt_min2, blt_max2, put_b0, put_b1, put_b2, szOk_0, szOk_1, szOk_n, Nat.reduceLeDiff, bin_mul2, bin_pow, Bool.not_true, Bool.not_false, wp_some, Nx_nx, Rt_rt, Option.toList_some, Option.toList_none, e3, e4, hw, appE, hlen]
          refine ⟨cs ++ [1 + u], _, _, b4, by rw [List.map_append]; rfl, by simp; omega, fun c hc' => ?_, hb4.mono (by omega)⟩
          rcases List.mem_append.mp hc' with q | q
          · exact hc c q
          · rw [List.mem_singleton.mp q]; exact ⟨by omega, by omega, by omega, fun z => by cases z⟩
  obtain ⟨g', q1, cs, e5, e6, b', rfl, hl, hc, hb'⟩ := loop
  rw [rangeD_len] at hl hb'
  refine ⟨cs, b', run_is h rfl ?_, by omega, by omega, hc, hb'.mono (by omega)⟩
  have hr : inR (1 + v) = true := inR_ok (by omega) (by omega)
  have hn : (1 + v).toNat = N + 1 := by omega
  simp only [coefsB, ent, ev_var, ev_con, ev_bin, ev_neg, ev_not, ev_cmp, ev_chain, ev_and, ev_or, ev_ite, ev_tup, ev_lst, ev_call, ev_callk, ev_bl, ev_len, ev_bits, ev_isi, ev_sub, ev_slc, ev_callb, ea_nil, ea_cons, ei_rng1, ei_rng2, ei_zip, ei_enum, ei_it, ex_asg, ex_tas, ex_par, ex_setix, ex_app, ex_ite, ex_skip, ex_seq, ex_ret, ex_retn, ex_pass, ex_cont, ex_brk, evP, setRs, evRet, pk, peek, rd, setAll, bindT, wipeE, unwipe, noOwn, condOf, isNo, RV.pd, RV.frz, canPut, entryE, List.length_cons, List.length_nil, List.map_cons, List.map_nil, List.cons_append, List.nil_append, List.append_nil, Nat.sub_self, Nat.reduceSub, Nat.reduceAdd, Nat.zero_add, List.replicate_succ, List.replicate_zero, List.getElem?_cons_zero, List.getElem?_cons_succ, List.set_cons_zero, List.set_cons_succ, List.getD_cons_zero, List.getD_cons_succ, mapM_pd_nil, mapM_pd_cons, permL_nil, permL_cons, Option.map_some, Option.map_none, Option.bind_some, Option.pure_def, Option.bind_eq_bind, Bool.false_eq_true, if_true, if_false, ite_true, ite_false, reduceIte, reduceCtorEq, cmp_lt, cmp_le, cmp_gt, cmp_ge, cmp_eq_i, cmp_ne_i, cmp_eq_b, cmp_ne_b, cmp_eq_s, cmp_ne_s, cmp_eq_nn, cmp_is, cmp_isnot, isNone_none, isNone_bool, isNone_int, isNone_str, isNone_list, isNone_tuple, bin_add, bin_sub, mulOk_n, mulOk_m, divOk_n, Nat.reduceLT, Int.reduceEq, Int.reduceNe, ne_eq, not_false_eq_true, decide_true, decide_false, bin_mul, bin_fdiv, bin_mod, bin_addl, bin_addt, bin_shl, bin_shr, bin_band, bin_bor, tru_b, tru_i, tru_l, tru_t, tru_o, tru_n, len_l, len_t, len_o, item_l, item_t, item_o, item_b0, item_b1, item_b2, at0, at1, at2, at3, at4, at5, atm1, blt_abs, blt_int, blt_intb, blt_tl, blt_tt, blt_ll, blt_lt, blt_sum, blt_all, blt_any, blt_min2, blt_max2, put_b0, put_b1, put_b2, szOk_0, szOk_1, szOk_n, Nat.reduceLeDiff, bin_mul2, bin_pow, Bool.not_true, Bool.not_false, wp_some, Nx_nx, Rt_rt, Option.toList_some, Option.toList_none, ex_loop, e1, hr, hn, q1]
def boundsB (t : Nat) : S := (.seq (.ret (.bl .tuple (.cons (.lc [3] (.rng1 (.var 1)) (.nm 3) .no (.bin .add (.con (.int 1)) (.call t (.cons (.var 0) (.cons (.var 2) .nil))))) .nil))) .skip)
theorem all2_ints {ds ys : List PyData} {P : Int → Prop} (h : All2 (fun _ y => ∃ z, y = PyData.int z ∧ P z) ds ys) : ∃ zs : List Int, ys = zs.map .int ∧ zs.length = ds.length ∧ ∀ z ∈ zs, P z := by
  induction h with
  | nil => exact ⟨[], rfl, rfl, by simp⟩
  | cons a _ ih =>
    obtain ⟨z, rfl, hz⟩ := a
    obtain ⟨zs, rfl, hl, hp⟩ := ih
    exact ⟨z :: zs, rfl, by simp [hl], fun x hx => by rcases List.mem_cons.mp hx with rfl | hx; exact hz; exact hp x hx⟩
theorem bounds_call (ht : Is T j 2 6 takeB) (h : Is T i 3 4 (boundsB j)) {m hi : Int} {many : Nat} {b : Int × Int × Int} (hb : BOk m b) (h1 : many ≤ 1000) (hm : m + 3000 < 2 ^ 60) (g0 : 0 < hi) (g1 : hi < 2 ^ 64) :
    ∃ (cs : List Int) (b' : Int × Int × Int), callN T fu (n + 2) i [.box, .dat (.int (many : Int)), .dat (.int hi)] (some b) = some (.dat (.tuple (cs.map .int)), some b') ∧ cs.length = many ∧ (∀ c ∈ cs, 1 ≤ c ∧ c ≤ hi) ∧ BOk (m + 3000) b' := by
  have hr : inR (many : Int) = true := inR_ok (by omega) (by omega)
  obtain ⟨ys, bx', q1, q2, q3⟩ := ev_lcd (cal := callN T fu (n + 1)) (own := [3]) (src := .rng1 (.var 1)) (c := .no) (elt := .bin .add (.con (.int 1)) (.call j (.cons (.var 0) (.cons (.var 2) .nil)))) (tg := .nm 3)
    (g := ⟨[some .box, some (.dat (.int (many : Int))), some (.dat (.int hi)), none], some b⟩) (env := [some .box, some (.dat (.int (many : Int))), some (.dat (.int hi)), none]) (bx := some b) (ds := rangeD 0 many)
    (fun _ y => ∃ z, y = PyData.int z ∧ 1 ≤ z ∧ z ≤ hi) (fun k bx => ∃ b', bx = some b' ∧ BOk (m + k) b') (by simp only [ev_var, ev_con, ev_bin, ev_neg, ev_not, ev_cmp, ev_chain, ev_and, ev_or, ev_ite, ev_tup, ev_lst, ev_call, ev_callk, ev_bl, ev_len, ev_bits, ev_isi, ev_sub, ev_slc, ev_callb, ea_nil, ea_cons, ei_rng1, ei_rng2, ei_zip, ei_enum, ei_it, ex_asg, ex_tas, ex_par, ex_setix, ex_app, ex_ite, ex_skip, ex_seq, ex_ret, ex_retn, ex_pass, ex_cont, ex_brk, evP, setRs, evRet, pk, peek, rd, setAll, bindT, wipeE, unwipe, noOwn, condOf, isNo, RV.pd, RV.frz, canPut, entryE, List.length_cons, List.length_nil, List.map_cons, List.map_nil, List.cons_append, List.nil_append, List.append_nil, Nat.sub_self, Nat.reduceSub, Nat.reduceAdd, Nat.zero_add, List.replicate_succ, List.replicate_zero, List.getElem?_cons_zero, List.getElem?_cons_succ, List.set_cons_zero, List.set_cons_succ, List.getD_cons_zero, List.getD_cons_succ, mapM_pd_nil, mapM_pd_cons, permL_nil, permL_cons, Option.map_some, Option.map_none, Option.bind_some, Option.pure_def, Option.bind_eq_bind, Bool.false_eq_true, if_true, if_false, ite_true, ite_false, reduceIte, reduceCtorEq, cmp_lt, cmp_le, cmp_gt, cmp_ge, cmp_eq_i, cmp_ne_i, cmp_eq_b, cmp_ne_b, cmp_eq_s, cmp_ne_s, cmp_eq_nn, cmp_is, cmp_isnot, isNone_none, isNone_bool, isNone_int, isNone_str, isNone_list, isNone_tuple, bin_add, bin_sub, mulOk_n, mulOk_m, divOk_n, Nat.reduceLT, Int.reduceEq, Int.reduceNe, ne_eq, not_false_eq_true, decide_true, decide_false, bin_mul, bin_fdiv, bin_mod, bin_addl, bin_addt, bin_shl, bin_shr, bin_band, bin_bor, tru_b, tru_i, tru_l, tru_t, tru_o, tru_n, len_l, len_t, len_o, item_l, item_t, item_o, item_b0, item_b1, item_b2, at0, at1, at2, at3, at4, at5, atm1, blt_abs, blt_int, blt_intb, blt_tl, blt_tt, blt_ll, blt_lt, blt_sum, blt_all, blt_any, blt_min2, blt_max2, put_b0, put_b1, put_b2, szOk_0, szOk_1, szOk_n, Nat.reduceLeDiff, bin_mul2, bin_pow, Bool.not_true, Bool.not_false, wp_some, Nx_nx, Rt_rt, Option.toList_some, Option.toList_none, hr, Int.toNat_natCast]) (by rw [rangeD_len]; omega) ⟨b, rfl, by simpa using hb⟩ fun d hd k bx hk hj => by
      obtain ⟨b2, rfl, hb2⟩ := hj
      rw [rangeD_len] at hk
      obtain ⟨u, b3, e3, u0, u1, hb3⟩ := take_call (fu := fu) (n := n) ht hb2 (by omega) (k := hi) g0 g1
      exact ⟨.int (1 + u), [some .box, some (.dat (.int (many : Int))), some (.dat (.int hi)), some (.dat d)], _, by simp only [lcStep, ev_var, ev_con, ev_bin, ev_neg, ev_not, ev_cmp, ev_chain, ev_and, ev_or, ev_ite, ev_tup, ev_lst, ev_call, ev_callk, ev_bl, ev_len, ev_bits, ev_isi, ev_sub, ev_slc, ev_callb, ea_nil, ea_cons, ei_rng1, ei_rng2, ei_zip, ei_enum, ei_it, ex_asg, ex_tas, ex_par, ex_setix, ex_app, ex_ite, ex_skip, ex_seq, ex_ret, ex_retn, ex_pass, ex_cont, ex_brk, evP, setRs, evRet, pk, peek, rd, setAll, bindT, wipeE, unwipe, noOwn, condOf, isNo, RV.pd, RV.frz, canPut, entryE, List.length_cons, List.length_nil, List.map_cons, List.map_nil, List.cons_append, List.nil_append, List.append_nil, Nat.sub_self, Nat.reduceSub, Nat.reduceAdd, Nat.zero_add, List.replicate_succ, List.replicate_zero, List.getElem?_cons_zero, List.getElem?_cons_succ, List.set_cons_zero, List.set_cons_succ, List.getD_cons_zero, List.getD_cons_succ, mapM_pd_nil, mapM_pd_cons, permL_nil, permL_cons, Option.map_some, Option.map_none, Option.bind_some, Option.pure_def, Option.bind_eq_bind, Bool.false_eq_true, if_true, if_false, ite_true, ite_false, reduceIte, reduceCtorEq, cmp_lt, cmp_le, cmp_gt, cmp_ge, cmp_eq_i, cmp_ne_i, cmp_eq_b, cmp_ne_b, cmp_eq_s, cmp_ne_s, cmp_eq_nn, cmp_is, cmp_isnot, isNone_none, isNone_bool, isNone_int, isNone_str, isNone_list, isNone_tuple, bin_add, bin_sub, mulOk_n, mulOk_m, divOk_n, Nat.reduceLT, Int.reduceEq, Int.reduceNe, ne_eq, not_false_eq_true, decide_true, decide_false, bin_mul, bin_fdiv, bin_mod, bin_addl, bin_addt, bin_shl, bin_shr, bin_band, bin_bor, tru_b, tru_i, tru_l, tru_t, tru_o, tru_n, len_l, len_t, len_o, item_l, item_t, item_o, item_b0, item_b1, item_b2, at0, at1, at2, at3, at4, at5, atm1, blt_abs, blt_int, blt_intb, blt_tl, blt_tt, blt_ll, blt_lt, blt_sum, blt_all, blt_any, blt_min2, blt_max2, put_b0, put_b1, put_b2, szOk_0, szOk_1, szOk_n, Nat.reduceLeDiff, bin_mul2, bin_pow, Bool.not_true, Bool.not_false, wp_some, Nx_nx, Rt_rt, Option.toList_some, Option.toList_none, e3], rfl, ⟨_, rfl, by omega, by omega⟩, b3, rfl, hb3.mono (by omega)⟩
  obtain ⟨b', rfl, hb'⟩ := q3
  obtain ⟨zs, rfl, hl, hp⟩ := all2_ints q2
  rw [rangeD_len] at hl hb'
  refine ⟨zs, b', run_is h rfl ?_, hl, hp, hb'.mono (by omega)⟩
  simp only [boundsB, ent, ev_var, ev_con, ev_bin, ev_neg, ev_not, ev_cmp, ev_chain, ev_and, ev_or, ev_ite, ev_tup, ev_lst, ev_call, ev_callk, ev_bl, ev_len, ev_bits, ev_isi, ev_sub, ev_slc, ev_callb, ea_nil, ea_cons, ei_rng1, ei_rng2, ei_zip, ei_enum, ei_it, ex_asg, ex_tas, ex_par, ex_setix, ex_app, ex_ite, ex_skip, ex_seq, ex_ret, ex_retn, ex_pass, ex_cont, ex_brk, evP, setRs, evRet, pk, peek, rd, setAll, bindT, wipeE, unwipe, noOwn, condOf, isNo, RV.pd, RV.frz, canPut, entryE, List.length_cons, List.length_nil, List.map_cons, List.map_nil, List.cons_append, List.nil_append, List.append_nil, Nat.sub_self, Nat.reduceSub, Nat.reduceAdd, Nat.zero_add, List.replicate_succ, List.replicate_zero, List.getElem?_cons_zero, List.getElem?_cons_succ, List.set_cons_zero, List.set_cons_succ, List.getD_cons_zero, List.getD_cons_succ, mapM_pd_nil, mapM_pd_cons, permL_nil, permL_cons, Option.map_some, Option.map_none, Option.bind_some, Option.pure_def, Option.bind_eq_bind, Bool.false_eq_true, if_true, if_false, ite_true, ite_false, reduceIte, reduceCtorEq, cmp_lt, cmp_le, cmp_gt, cmp_ge, cmp_eq_i, cmp_ne_i, cmp_eq_b, cmp_ne_b, cmp_eq_s, cmp_ne_s, cmp_eq_nn, cmp_is, cmp_isnot, isNone_none, isNone_bool, isNone_int, isNone_str, isNone_list, isNone_tuple, bin_add, bin_sub, mulOk_n, mulOk_m, divOk_n, Nat.reduceLT, Int.reduceEq, Int.reduceNe, ne_eq, not_false_eq_true, decide_true, decide_false, bin_mul, bin_fdiv, bin_mod, bin_addl, bin_addt, bin_shl, bin_shr, bin_band, bin_bor, tru_b, tru_i, tru_l, tru_t, tru_o, tru_n, len_l, len_t, len_o, item_l, item_t, item_o, item_b0, item_b1, item_b2, at0, at1, at2, at3, at4, at5, atm1, blt_abs, blt_int, blt_intb, blt_tl, blt_tt, blt_ll, blt_lt, blt_sum, blt_all, blt_any, blt_min2, blt_max2, put_b0, put_b1, put_b2, szOk_0, szOk_1, szOk_n, Nat.reduceLeDiff, bin_mul2, bin_pow, Bool.not_true, Bool.not_false, wp_some, Nx_nx, Rt_rt, Option.toList_some, Option.toList_none, q1]
/-! the cells of the script -/
def cellsB : S := (.seq (.asg 2 (.or (.bl .list (.cons (.slc (.var 0) .no (.var 1)) .nil)) (.lst (.cons (.con (.int 0)) .nil)))) (.seq (.loop (.enum (.slc (.var 0) (.var 1) (.con (.int 63)))) (.tp [3, 4]) (.seq (.asg 5 (.bin .mod (.bl .int (.cons (.var 3) .nil)) (.var 1))) (.seq (.setix 2 (.var 5) (.bin .add (.sub (.var 2) (.var 5)) (.bin .mul (.var 4) (.bin .add (.var 3) (.con (.int 2)))))) .skip))) (.seq (.ret (.var 2)) .skip)))
theorem cut_head {xs : List PyData} : cutD xs none (some 3) = xs.take 3 := by
  unfold cutD
  rw [HT.sIx_none]
  show List.take (HT.sIx xs.length xs.length (some ((3 : Nat) : Int)) - 0) (xs.drop 0) = _
  rw [HT.sIx_nat, List.drop_zero, Nat.sub_zero]
  by_cases h : 3 ≤ xs.length
  · rw [Nat.min_eq_left h]
  · rw [Nat.min_eq_right (by omega), List.take_of_length_le (by omega), List.take_of_length_le (by omega)]
theorem cut_mid {xs : List PyData} (h : xs.length ≤ 63) : cutD xs (some 3) (some 63) = xs.drop 3 := by
  unfold cutD
  show List.take (HT.sIx xs.length xs.length (some ((63 : Nat) : Int)) - HT.sIx xs.length 0 (some ((3 : Nat) : Int))) (xs.drop (HT.sIx xs.length 0 (some ((3 : Nat) : Int)))) = _
  rw [HT.sIx_nat, HT.sIx_nat, Nat.min_eq_right h]
  by_cases h3 : 3 ≤ xs.length
  · rw [Nat.min_eq_left h3, List.take_of_length_le (by rw [List.length_drop]; omega)]
  · rw [Nat.min_eq_right (by omega), List.drop_of_length_le (Nat.le_refl _), List.drop_of_length_le (by omega), List.take_nil]
theorem enumD_at' : ∀ (n : Nat) (ds : List PyData) (k : Nat) (d : PyData), (enumD n ds)[k]? = some d → ∃ e, ds[k]? = some e ∧ d = pairD (.int ((n + k : Nat) : Int)) e
  | _, [], k, d, h => by simp [enumD] at h
  | n, e :: r, 0, d, h => by
    have h : some (pairD (.int (n : Int)) e) = some d := h
    cases h; exact ⟨e, rfl, rfl⟩
  | n, e :: r, k + 1, d, h => by
    obtain ⟨x, h1, h2⟩ := enumD_at' (n + 1) r k d h
    exact ⟨x, by simpa using h1, by rw [h2, show n + 1 + k = n + (k + 1) by omega]⟩
theorem enumD_len' : ∀ (n : Nat) (ds : List PyData), (enumD n ds).length = ds.length
  | _, [] => rfl
  | n, d :: r => by show (enumD (n + 1) r).length + 1 = _; rw [enumD_len' (n + 1) r]; rfl
theorem ixN_ok {n k : Nat} (h : k < n) : L2.ixN n (k : Int) = some k := by
  unfold L2.ixN
  rw [if_pos (by omega), if_pos (by omega)]
  rfl
theorem atI_ok {cs : List Int} {k : Nat} (h : k < cs.length) : L2.atI (cs.map PyData.int) (k : Int) = some (.int cs[k]) := at_nat (by rw [List.getElem?_map, List.getElem?_eq_getElem h]; rfl)
theorem cells_call (h : Is T i 2 6 cellsB) {ns : List Int} (hn : ns.length ≤ 63) : ∃ cs : List Int, callN T fu (n + 1) i [.dat (.list (ns.map .int)), .dat (.int 3)] none = some (.own (cs.map .int), none) ∧ 1 ≤ cs.length ∧ cs.length ≤ 3 := by
  have hn' : (ns.map PyData.int).length ≤ 63 := by rw [List.length_map]; exact hn
  -- the head
  obtain ⟨c0, hc0, l1, l2, l3⟩ : ∃ c0 : List Int, exS (callN T fu n) fu (.asg 2 (.or (.bl .list (.cons (.slc (.var 0) .no (.var 1)) .nil)) (.lst (.cons (.con (.int 0)) .nil)))) ⟨[some (.dat (.list (ns.map .int))), some (.dat (.int 3)), none, none, none, none], none⟩ =
      some (.nx ⟨[some (.dat (.list (ns.map .int))), some (.dat (.int 3)), some (.own (c0.map .int)), none, none, none], none⟩) ∧ 1 ≤ c0.length ∧ c0.length ≤ 3 ∧ (3 < ns.length → c0.length = 3) := by
    cases ns with
    | nil => exact ⟨[0], rfl, by simp, by simp, by simp⟩
    | cons x r =>
      refine ⟨(x :: r).take 3, ?_, by simp, by simp; omega, fun h => by rw [List.length_take]; omega⟩
      have e : cutD (PyData.int x :: r.map .int) none (some 3) = PyData.int x :: (r.take 2).map .int := by
        rw [cut_head, List.take_succ_cons, List.map_take]
      simp only [ev_var, ev_con, ev_bin, ev_neg, ev_not, ev_cmp, ev_chain, ev_and, ev_or, ev_ite, ev_tup, ev_lst, ev_call, ev_callk, ev_bl, ev_len, ev_bits, ev_isi, ev_sub, ev_slc, ev_callb, ea_nil, ea_cons, ei_rng1, ei_rng2, ei_zip, ei_enum, ei_it, ex_asg, ex_tas, ex_par, ex_setix, ex_app, ex_ite, ex_skip, ex_seq, ex_ret, ex_retn, ex_pass, ex_cont, ex_brk, evP, setRs, evRet, pk, peek, rd, setAll, bindT, wipeE, unwipe, noOwn, condOf, isNo, RV.pd, RV.frz, canPut, entryE, List.length_cons, List.length_nil, List.map_cons, List.map_nil, List.cons_append, List.nil_append, List.append_nil, Nat.sub_self, Nat.reduceSub, Nat.reduceAdd, Nat.zero_add, List.replicate_succ, List.replicate_zero, List.getElem?_cons_zero, List.getElem?_cons_succ, List.set_cons_zero, List.set_cons_succ, List.getD_cons_zero, List.getD_cons_succ, mapM_pd_nil, mapM_pd_cons, permL_nil, permL_cons, Option.map_some, Option.map_none, Option.bind_some, Option.pure_def, Option.bind_eq_bind, Bool.false_eq_true, if_true, if_false, ite_true, ite_false, reduceIte, reduceCtorEq, cmp_lt, cmp_le, cmp_gt, cmp_ge, cmp_eq_i, cmp_ne_i, cmp_eq_b, cmp_ne_b, cmp_eq_s, cmp_ne_s, cmp_eq_nn, cmp_is, cmp_isnot, isNone_none, isNone_bool, isNone_int, isNone_str, isNone_list, isNone_tuple, bin_add, bin_sub, mulOk_n, mulOk_m, divOk_n, Nat.reduceLT, Int.reduceEq, Int.reduceNe, ne_eq, not_false_eq_true, decide_true, decide_false, bin_mul, bin_fdiv, bin_mod, bin_addl, bin_addt, bin_shl, bin_shr, bin_band, bin_bor, tru_b, tru_i, tru_l, tru_t, tru_o, tru_n, len_l, len_t, len_o, item_l, item_t, item_o, item_b0, item_b1, item_b2, at0, at1, at2, at3, at4, at5, atm1, blt_abs, blt_int, blt_intb, blt_tl, blt_tt, blt_ll, blt_lt, blt_sum, blt_all, blt_any, blt_min2, blt_max2, put_b0, put_b1, put_b2, szOk_0, szOk_1, szOk_n, Nat.reduceLeDiff, bin_mul2, bin_pow, Bool.not_true, Bool.not_false, wp_some, Nx_nx, Rt_rt, Option.toList_some, Option.toList_none, slice, e, List.take_succ_cons, List.isEmpty_cons]
  have loop := forL_inv (tg := .tp [3, 4]) (body := exS (callN T fu n) fu (.seq (.asg 5 (.bin .mod (.bl .int (.cons (.var 3) .nil)) (.var 1))) (.seq (.setix 2 (.var 5) (.bin .add (.sub (.var 2) (.var 5)) (.bin .mul (.var 4) (.bin .add (.var 3) (.con (.int 2)))))) .skip)))
    (fun k g => ∃ (cs : List Int) (e3 e4 e5 : Sl), g = ⟨[some (.dat (.list (ns.map .int))), some (.dat (.int 3)), some (.own (cs.map .int)), e3, e4, e5], none⟩ ∧ cs.length = c0.length)
    (enumD 0 ((ns.map .int).drop 3)) 0 ⟨[some (.dat (.list (ns.map .int))), some (.dat (.int 3)), some (.own (c0.map .int)), none, none, none], none⟩ ⟨c0, none, none, none, rfl, rfl⟩
    fun k d g hd hI => by
      obtain ⟨cs, e3, e4, e5, rfl, hl⟩ := hI
      obtain ⟨e, he, rfl⟩ := enumD_at' _ _ _ _ hd
      rw [← List.map_drop, List.getElem?_map] at he
      cases hc : (ns.drop 3)[k]? with
      | none => rw [hc] at he; cases he
      | some c =>
        rw [hc] at he
        cases he
        have hk := (List.getElem?_eq_some_iff.mp hc).1
        rw [List.length_drop] at hk
        have h3 : cs.length = 3 := by rw [hl]; exact l3 (by omega)
        have hj : (((0 + k : Nat) : Int)).fmod 3 = ((k % 3 : Nat) : Int) := by
          rw [Nat.zero_add, Int.fmod_eq_emod_of_nonneg _ (by decide)]; omega
        have hlt : k % 3 < cs.length := by rw [h3]; exact Nat.mod_lt _ (by decide)
        have m1 : mulOk c (((0 + k : Nat) : Int) + 2) = true := mulOk_r (by omega)
        generalize hz : ((0 + k : Nat) : Int) = z at hj m1
        have a1 := atI_ok hlt
        have a2 : L2.ixN (cs.map PyData.int).length ((k % 3 : Nat) : Int) = some (k % 3) := ixN_ok (by rw [List.length_map]; exact hlt)
        generalize hw : ((k % 3 : Nat) : Int) = w at hj a1 a2
        simp only [pairD, hz, ev_var, ev_con, ev_bin, ev_neg, ev_not, ev_cmp, ev_chain, ev_and, ev_or, ev_ite, ev_tup, ev_lst, ev_call, ev_callk, ev_bl, ev_len, ev_bits, ev_isi, ev_sub, ev_slc, ev_callb, ea_nil, ea_cons, ei_rng1, ei_rng2, ei_zip, ei_enum, ei_it, ex_asg, ex_tas, ex_par, ex_setix, ex_app, ex_ite, ex_skip, ex_seq, ex_ret, ex_retn, ex_pass, ex_cont, ex_brk, evP, setRs, evRet, pk, peek, rd, setAll, bindT, wipeE, unwipe, noOwn, condOf, isNo, RV.pd, RV.frz, canPut, entryE, List.length_cons, List.length_nil, List.map_cons, List.map_nil, List.cons_append, List.nil_append, List.append_nil, Nat.sub_self, Nat.reduceSub, Nat.reduceAdd, Nat.zero_add, List.replicate_succ, List.replicate_zero, List.getElem?_cons_zero, List.getElem?_cons_succ, List.set_cons_zero, List.set_cons_succ, List.getD_cons_zero, List.getD_cons_succ, mapM_pd_nil, mapM_pd_cons, permL_nil, permL_cons, Option.map_some, Option.map_none, Option.bind_some, Option.pure_def, Option.bind_eq_bind, Bool.false_eq_true, if_true, if_false, ite_true, ite_false, reduceIte, reduceCtorEq, cmp_lt, cmp_le, cmp_gt, cmp_ge, cmp_eq_i, cmp_ne_i, cmp_eq_b, cmp_ne_b, cmp_eq_s, cmp_ne_s, cmp_eq_nn, cmp_is, cmp_isnot, isNone_none, isNone_bool, isNone_int, isNone_str, isNone_list, isNone_tuple, bin_add, bin_sub, mulOk_n, mulOk_m, divOk_n, Nat.reduceLT, Int.reduceEq, Int.reduceNe, ne_eq, not_false_eq_true, decide_true, decide_false, bin_mul, bin_fdiv, bin_mod, bin_addl, bin_addt, bin_shl, bin_shr, bin_band, bin_bor, tru_b, tru_i, tru_l, tru_t, tru_o, tru_n, len_l, len_t, len_o, item_l, item_t, item_o, item_b0, item_b1, item_b2, at0, at1, at2, at3, at4, at5, atm1, blt_abs, blt_int, blt_intb, blt_tl, blt_tt, blt_ll, blt_lt, blt_sum, blt_all, blt_any, blt_min2, blt_max2, put_b0, put_b1, put_b2, szOk_0, szOk_1, szOk_n, Nat.reduceLeDiff, bin_mul2, bin_pow, Bool.not_true, Bool.not_false, wp_some, Nx_nx, Rt_rt, Option.toList_some, Option.toList_none, hj, m1, a1, putIx, a2]
        exact ⟨cs.set (k % 3) (cs[k % 3] + c * (z + 2)), _, _, _, by rw [List.map_set], by rw [List.length_set]; exact hl⟩
  obtain ⟨g', q1, cs, e3, e4, e5, rfl, hl⟩ := loop
  refine ⟨cs, run_is h rfl ?_, by omega, by omega⟩
  have e2 : cutD (ns.map PyData.int) (some 3) (some 63) = (ns.map PyData.int).drop 3 := cut_mid hn'
  show exS (callN T fu n) fu cellsB ⟨[some (.dat (.list (ns.map .int))), some (.dat (.int 3)), none, none, none, none], none⟩ = _
  unfold cellsB
  rw [ex_seq, hc0]
  simp only [ev_var, ev_con, ev_bin, ev_neg, ev_not, ev_cmp, ev_chain, ev_and, ev_or, ev_ite, ev_tup, ev_lst, ev_call, ev_callk, ev_bl, ev_len, ev_bits, ev_isi, ev_sub, ev_slc, ev_callb, ea_nil, ea_cons, ei_rng1, ei_rng2, ei_zip, ei_enum, ei_it, ex_asg, ex_tas, ex_par, ex_setix, ex_app, ex_ite, ex_skip, ex_seq, ex_ret, ex_retn, ex_pass, ex_cont, ex_brk, evP, setRs, evRet, pk, peek, rd, setAll, bindT, wipeE, unwipe, noOwn, condOf, isNo, RV.pd, RV.frz, canPut, entryE, List.length_cons, List.length_nil, List.map_cons, List.map_nil, List.cons_append, List.nil_append, List.append_nil, Nat.sub_self, Nat.reduceSub, Nat.reduceAdd, Nat.zero_add, List.replicate_succ, List.replicate_zero, List.getElem?_cons_zero, List.getElem?_cons_succ, List.set_cons_zero, List.set_cons_succ, List.getD_cons_zero, List.getD_cons_succ, mapM_pd_nil, mapM_pd_cons, permL_nil, permL_cons, Option.map_some, Option.map_none, Option.bind_some, Option.pure_def, Option.bind_eq_bind, Bool.false_eq_true, if_true, if_false, ite_true, ite_false, reduceIte, reduceCtorEq, cmp_lt, cmp_le, cmp_gt, cmp_ge, cmp_eq_i, cmp_ne_i, cmp_eq_b, cmp_ne_b, cmp_eq_s, cmp_ne_s, cmp_eq_nn, cmp_is, cmp_isnot, isNone_none, isNone_bool, isNone_int, isNone_str, isNone_list, isNone_tuple, bin_add, bin_sub, mulOk_n, mulOk_m, divOk_n, Nat.reduceLT, Int.reduceEq, Int.reduceNe, ne_eq, not_false_eq_true, decide_true, decide_false, bin_mul, bin_fdiv, bin_mod, bin_addl, bin_addt, bin_shl, bin_shr, bin_band, bin_bor, tru_b, tru_i, tru_l, tru_t, tru_o, tru_n, len_l, len_t, len_o, item_l, item_t, item_o, item_b0, item_b1, item_b2, at0, at1, at2, at3, at4, at5, atm1, blt_abs, blt_int, blt_intb, blt_tl, blt_tt, blt_ll, blt_lt, blt_sum, blt_all, blt_any, blt_min2, blt_max2, put_b0, put_b1, put_b2, szOk_0, szOk_1, szOk_n, Nat.reduceLeDiff, bin_mul2, bin_pow, Bool.not_true, Bool.not_false, wp_some, Nx_nx, Rt_rt, Option.toList_some, Option.toList_none, ex_loop, slice, lstOf, e2, q1]
/-! a cell's box -/
def boxB (c : Int) : S := (.seq (.asg 2 (.ite (.cmp .lt (.var 1) (.len (.var 0))) (.sub (.var 0) (.var 1)) (.con (.int 0)))) (.seq (.ret (.lst (.cons (.bin .mul (.bl .abs (.cons (.var 2) .nil)) (.bl .int (.cons (.cmp .ge (.bl .abs (.cons (.var 2) .nil)) (.bin .pow (.con (.int 10)) (.con (.int 18)))) .nil))) (.cons (.bin .add (.bin .add (.bin .mod (.bl .int (.cons (.var 2) .nil)) (.con (.int 2305843009213693951))) (.bin .mul (.con (.int 39373)) (.var 1))) (.con (.int c))) (.cons (.con (.int 0)) .nil))))) .skip))
theorem pow18 : powOk 10 18 = true := by decide +kernel
theorem box_call {c : Int} (h : Is T i 2 3 (boxB c)) (c0 : 0 ≤ c) (c1 : c < 1000000000) {cs : List Int} {k : Nat} (hk : k < cs.length) (h3 : cs.length ≤ 3) :
    ∃ x y : Int, callN T fu (n + 1) i [.dat (.list (cs.map .int)), .dat (.int (k : Int))] none = some (.own [.int x, .int y, .int 0], none) ∧ BOk 0 (x, y, 0) := by
  have a1 := atI_ok hk
  have hlt : ((k : Int) < ((cs.map PyData.int).length : Int)) := by rw [List.length_map]; omega
  generalize cs[k] = v at a1
  have m1 : ∀ a : Int, ∀ b : Bool, mulOk a (if b = true then 1 else 0) = true := fun a b => mulOk_r (by cases b <;> decide)
  have f0 := Int.fmod_nonneg_of_pos v (show (0 : Int) < 2305843009213693951 by decide)
  have f1 := Int.fmod_lt_of_pos v (show (0 : Int) < 2305843009213693951 by decide)
  have hk0 : (0 : Int) ≤ (k : Int) := by omega
  have hk3 : (k : Int) < 3 := by omega
  generalize (k : Int) = z at a1 hlt hk0 hk3
  generalize hl : ((cs.map PyData.int).length : Int) = l at hlt
  refine ⟨(if v < 0 then -v else v) * (if decide ((10 : Int) ^ (18 : Int).toNat ≤ (if v < 0 then -v else v)) = true then 1 else 0), v.fmod 2305843009213693951 + 39373 * z + c, run_is h rfl ?_, by simp only; omega, by simp only; omega, Int.le_refl _, Int.le_refl _⟩
  simp only [boxB, ent, ev_var, ev_con, ev_bin, ev_neg, ev_not, ev_cmp, ev_chain, ev_and, ev_or, ev_ite, ev_tup, ev_lst, ev_call, ev_callk, ev_bl, ev_len, ev_bits, ev_isi, ev_sub, ev_slc, ev_callb, ea_nil, ea_cons, ei_rng1, ei_rng2, ei_zip, ei_enum, ei_it, ex_asg, ex_tas, ex_par, ex_setix, ex_app, ex_ite, ex_skip, ex_seq, ex_ret, ex_retn, ex_pass, ex_cont, ex_brk, evP, setRs, evRet, pk, peek, rd, setAll, bindT, wipeE, unwipe, noOwn, condOf, isNo, RV.pd, RV.frz, canPut, entryE, List.length_cons, List.length_nil, List.map_cons, List.map_nil, List.cons_append, List.nil_append, List.append_nil, Nat.sub_self, Nat.reduceSub, Nat.reduceAdd, Nat.zero_add, List.replicate_succ, List.replicate_zero, List.getElem?_cons_zero, List.getElem?_cons_succ, List.set_cons_zero, List.set_cons_succ, List.getD_cons_zero, List.getD_cons_succ, mapM_pd_nil, mapM_pd_cons, permL_nil, permL_cons, Option.map_some, Option.map_none, Option.bind_some, Option.pure_def, Option.bind_eq_bind, Bool.false_eq_true, if_true, if_false, ite_true, ite_false, reduceIte, reduceCtorEq, cmp_lt, cmp_le, cmp_gt, cmp_ge, cmp_eq_i, cmp_ne_i, cmp_eq_b, cmp_ne_b, cmp_eq_s, cmp_ne_s, cmp_eq_nn, cmp_is, cmp_isnot, isNone_none, isNone_bool, isNone_int, isNone_str, isNone_list, isNone_tuple, bin_add, bin_sub, mulOk_n, mulOk_m, divOk_n, Nat.reduceLT, Int.reduceEq, Int.reduceNe, ne_eq, not_false_eq_true, decide_true, decide_false, bin_mul, bin_fdiv, bin_mod, bin_addl, bin_addt, bin_shl, bin_shr, bin_band, bin_bor, tru_b, tru_i, tru_l, tru_t, tru_o, tru_n, len_l, len_t, len_o, item_l, item_t, item_o, item_b0, item_b1, item_b2, at0, at1, at2, at3, at4, at5, atm1, blt_abs, blt_int, blt_intb, blt_tl, blt_tt, blt_ll, blt_lt, blt_sum, blt_all, blt_any, blt_min2, blt_max2, put_b0, put_b1, put_b2, szOk_0, szOk_1, szOk_n, Nat.reduceLeDiff, bin_mul2, bin_pow, Bool.not_true, Bool.not_false, wp_some, Nx_nx, Rt_rt, Option.toList_some, Option.toList_none, hl, hlt, a1, bin_pow, pow18, m1]
/-! the law -/
def lawB (ih ic ir ib : Nat) : S := (.seq (.ite (.not (.call ih .nil)) (.seq (.ret (.con (.bool false))) .skip) .skip) (.seq (.asg 1 (.call ic (.cons (.var 0) (.cons (.con (.int 3)) .nil)))) (.seq (.ret (.bl .all (.cons (.lc [2] (.rng1 (.len (.var 1))) (.nm 2) .no (.callb ir (.call ib (.cons (.var 1) (.cons (.var 2) .nil))))) .nil))) .skip)))
/-- a comprehension that answers True at each item -/
theorem ev_lcT {cal : Cal} {own : List Nat} {src c elt : E} {tg : Tg} {g : G} {env : List Sl} {bx : Bx} {ds : List PyData} (hs : evI cal src g = some (ds, ⟨env, bx⟩)) (hz : ds.length ≤ 16777216)
    (h : ∀ d ∈ ds, ∃ e', lcStep tg (condOf (isNo c) fun g => evE cal c g) (fun g => evE cal elt g) d ⟨wipeE env own, bx⟩ = some (some (.bool true), ⟨e', bx⟩) ∧ wipeE e' own = wipeE env own) :
    evE cal (.lc own src tg c elt) g = some (.own ((List.replicate ds.length true).map .bool), ⟨unwipe env env own, bx⟩) := by
  have e := ev_lc (fun _ => some (.bool true)) hs hz h
  have f : ∀ ds : List PyData, ds.filterMap (fun _ => some (PyData.bool true)) = (List.replicate ds.length true).map .bool := fun ds => by
    induction ds with
    | nil => rfl
    | cons d ds ih => rw [List.filterMap_cons, ih, List.length_cons, List.replicate_succ, List.map_cons]
  rw [f] at e
  exact e
theorem law_call {ih ic ir ib : Nat} {c : Int} (hl : Is T i 1 3 (lawB ih ic ir ib)) (hc : Is T ic 2 6 cellsB) (hb : Is T ib 2 3 (boxB c)) (c0 : 0 ≤ c) (c1 : c < 1000000000)
    (hand : callN T fu (n + 1) ih [] none = some (.dat (.bool true), none)) (right : ∀ b, BOk 0 b → ∃ b', callN T fu (n + 1) ir [.box] (some b) = some (.dat (.bool true), b')) {ns : List Int} (hn : ns.length ≤ 63) :
    callN T fu (n + 2) i [.dat (.list (ns.map .int))] none = some (.dat (.bool true), none) := by
  obtain ⟨cs, e1, l1, l2⟩ := cells_call (fu := fu) (n := n) hc hn
  have hr : inR (((cs.map PyData.int).length : Nat) : Int) = true := inR_ok (by omega) (by rw [List.length_map]; omega)
  obtain ⟨acc, env', bx', e2, e3, e4⟩ := ev_lcI (cal := callN T fu (n + 1)) (own := [2]) (src := .rng1 (.len (.var 1))) (c := .no) (elt := .callb ir (.call ib (.cons (.var 1) (.cons (.var 2) .nil)))) (tg := .nm 2)
    (g := ⟨[some (.dat (.list (ns.map .int))), some (.own (cs.map .int)), none], none⟩) (env := [some (.dat (.list (ns.map .int))), some (.own (cs.map .int)), none]) (bx := none) (ds := rangeD 0 (cs.map PyData.int).length)
    (fun k e bx acc => (e = [some (.dat (.list (ns.map .int))), some (.own (cs.map .int)), none] ∨ e = [some (.dat (.list (ns.map .int))), some (.dat (.list (cs.map .int))), none]) ∧ bx = none ∧ acc = (List.replicate k true).map .bool)
    (by simp only [ev_var, ev_con, ev_bin, ev_neg, ev_not, ev_cmp, ev_chain, ev_and, ev_or, ev_ite, ev_tup, ev_lst, ev_call, ev_callk, ev_bl, ev_len, ev_bits, ev_isi, ev_sub, ev_slc, ev_callb, ea_nil, ea_cons, ei_rng1, ei_rng2, ei_zip, ei_enum, ei_it, ex_asg, ex_tas, ex_par, ex_setix, ex_app, ex_ite, ex_skip, ex_seq, ex_ret, ex_retn, ex_pass, ex_cont, ex_brk, evP, setRs, evRet, pk, peek, rd, setAll, bindT, wipeE, unwipe, noOwn, condOf, isNo, RV.pd, RV.frz, canPut, entryE, List.length_cons, List.length_nil, List.map_cons, List.map_nil, List.cons_append, List.nil_append, List.append_nil, Nat.sub_self, Nat.reduceSub, Nat.reduceAdd, Nat.zero_add, List.replicate_succ, List.replicate_zero, List.getElem?_cons_zero, List.getElem?_cons_succ, List.set_cons_zero, List.set_cons_succ, List.getD_cons_zero, List.getD_cons_succ, mapM_pd_nil, mapM_pd_cons, permL_nil, permL_cons, Option.map_some, Option.map_none, Option.bind_some, Option.pure_def, Option.bind_eq_bind, Bool.false_eq_true, if_true, if_false, ite_true, ite_false, reduceIte, reduceCtorEq, cmp_lt, cmp_le, cmp_gt, cmp_ge, cmp_eq_i, cmp_ne_i, cmp_eq_b, cmp_ne_b, cmp_eq_s, cmp_ne_s, cmp_eq_nn, cmp_is, cmp_isnot, isNone_none, isNone_bool, isNone_int, isNone_str, isNone_list, isNone_tuple, bin_add, bin_sub, mulOk_n, mulOk_m, divOk_n, Nat.reduceLT, Int.reduceEq, Int.reduceNe, ne_eq, not_false_eq_true, decide_true, decide_false, bin_mul, bin_fdiv, bin_mod, bin_addl, bin_addt, bin_shl, bin_shr, bin_band, bin_bor, tru_b, tru_i, tru_l, tru_t, tru_o, tru_n, len_l, len_t, len_o, item_l, item_t, item_o, item_b0, item_b1, item_b2, at0, at1, at2, at3, at4, at5, atm1, blt_abs, blt_int, blt_intb, blt_tl, blt_tt, blt_ll, blt_lt, blt_sum, blt_all, blt_any, blt_min2, blt_max2, put_b0, put_b1, put_b2, szOk_0, szOk_1, szOk_n, Nat.reduceLeDiff, bin_mul2, bin_pow, Bool.not_true, Bool.not_false, wp_some, Nx_nx, Rt_rt, Option.toList_some, Option.toList_none, hr, Int.toNat_natCast]) (by rw [rangeD_len, List.length_map]; omega) ⟨.inl rfl, rfl, rfl⟩ fun k d e bx acc hd hI => by
      obtain ⟨he, rfl, rfl⟩ := hI
      obtain ⟨hk, rfl⟩ := rangeD_at hd
      rw [List.length_map] at hk
      obtain ⟨x, y, e3, ok⟩ := box_call (fu := fu) (n := n) hb c0 c1 hk l2
      obtain ⟨b', e4⟩ := right _ ok
      rw [show (0 : Int) + ((k : Nat) : Int) = (k : Int) by omega]
      generalize (k : Int) = z at e3
      have hrep : ∀ k : Nat, (List.replicate k true).map PyData.bool ++ [.bool true] = (List.replicate (k + 1) true).map .bool := fun k => by
        rw [List.replicate_succ', List.map_append]; rfl
      rcases he with rfl | rfl
      · simp only [lcStep, ev_var, ev_con, ev_bin, ev_neg, ev_not, ev_cmp, ev_chain, ev_and, ev_or, ev_ite, ev_tup, ev_lst, ev_call, ev_callk, ev_bl, ev_len, ev_bits, ev_isi, ev_sub, ev_slc, ev_callb, ea_nil, ea_cons, ei_rng1, ei_rng2, ei_zip, ei_enum, ei_it, ex_asg, ex_tas, ex_par, ex_setix, ex_app, ex_ite, ex_skip, ex_seq, ex_ret, ex_retn, ex_pass, ex_cont, ex_brk, evP, setRs, evRet, pk, peek, rd, setAll, bindT, wipeE, unwipe, noOwn, condOf, isNo, RV.pd, RV.frz, canPut, entryE, List.length_cons, List.length_nil, List.map_cons, List.map_nil, List.cons_append, List.nil_append, List.append_nil, Nat.sub_self, Nat.reduceSub, Nat.reduceAdd, Nat.zero_add, List.replicate_succ, List.replicate_zero, List.getElem?_cons_zero, List.getElem?_cons_succ, List.set_cons_zero, List.set_cons_succ, List.getD_cons_zero, List.getD_cons_succ, mapM_pd_nil, mapM_pd_cons, permL_nil, permL_cons, Option.map_some, Option.map_none, Option.bind_some, Option.pure_def, Option.bind_eq_bind, Bool.false_eq_true, if_true, if_false, ite_true, ite_false, reduceIte, reduceCtorEq, cmp_lt, cmp_le, cmp_gt, cmp_ge, cmp_eq_i, cmp_ne_i, cmp_eq_b, cmp_ne_b, cmp_eq_s, cmp_ne_s, cmp_eq_nn, cmp_is, cmp_isnot, isNone_none, isNone_bool, isNone_int, isNone_str, isNone_list, isNone_tuple, bin_add, bin_sub, mulOk_n, mulOk_m, divOk_n, Nat.reduceLT, Int.reduceEq, Int.reduceNe, ne_eq, not_false_eq_true, decide_true, decide_false, bin_mul, bin_fdiv, bin_mod, bin_addl, bin_addt, bin_shl, bin_shr, bin_band, bin_bor, tru_b, tru_i, tru_l, tru_t, tru_o, tru_n, len_l, len_t, len_o, item_l, item_t, item_o, item_b0, item_b1, item_b2, at0, at1, at2, at3, at4, at5, atm1, blt_abs, blt_int, blt_intb, blt_tl, blt_tt, blt_ll, blt_lt, blt_sum, blt_all, blt_any, blt_min2, blt_max2, put_b0, put_b1, put_b2, szOk_0, szOk_1, szOk_n, Nat.reduceLeDiff, bin_mul2, bin_pow, Bool.not_true, Bool.not_false, wp_some, Nx_nx, Rt_rt, Option.toList_some, Option.toList_none, e3, e4, hrep]
        exact ⟨.inr trivial, trivial, trivial⟩
      · simp only [lcStep, ev_var, ev_con, ev_bin, ev_neg, ev_not, ev_cmp, ev_chain, ev_and, ev_or, ev_ite, ev_tup, ev_lst, ev_call, ev_callk, ev_bl, ev_len, ev_bits, ev_isi, ev_sub, ev_slc, ev_callb, ea_nil, ea_cons, ei_rng1, ei_rng2, ei_zip, ei_enum, ei_it, ex_asg, ex_tas, ex_par, ex_setix, ex_app, ex_ite, ex_skip, ex_seq, ex_ret, ex_retn, ex_pass, ex_cont, ex_brk, evP, setRs, evRet, pk, peek, rd, setAll, bindT, wipeE, unwipe, noOwn, condOf, isNo, RV.pd, RV.frz, canPut, entryE, List.length_cons, List.length_nil, List.map_cons, List.map_nil, List.cons_append, List.nil_append, List.append_nil, Nat.sub_self, Nat.reduceSub, Nat.reduceAdd, Nat.zero_add, List.replicate_succ, List.replicate_zero, List.getElem?_cons_zero, List.getElem?_cons_succ, List.set_cons_zero, List.set_cons_succ, List.getD_cons_zero, List.getD_cons_succ, mapM_pd_nil, mapM_pd_cons, permL_nil, permL_cons, Option.map_some, Option.map_none, Option.bind_some, Option.pure_def, Option.bind_eq_bind, Bool.false_eq_true, if_true, if_false, ite_true, ite_false, reduceIte, reduceCtorEq, cmp_lt, cmp_le, cmp_gt, cmp_ge, cmp_eq_i, cmp_ne_i, cmp_eq_b, cmp_ne_b, cmp_eq_s, cmp_ne_s, cmp_eq_nn, cmp_is, cmp_isnot, isNone_none, isNone_bool, isNone_int, isNone_str, isNone_list, isNone_tuple, bin_add, bin_sub, mulOk_n, mulOk_m, divOk_n, Nat.reduceLT, Int.reduceEq, Int.reduceNe, ne_eq, not_false_eq_true, decide_true, decide_false, bin_mul, bin_fdiv, bin_mod, bin_addl, bin_addt, bin_shl, bin_shr, bin_band, bin_bor, tru_b, tru_i, tru_l, tru_t, tru_o, tru_n, len_l, len_t, len_o, item_l, item_t, item_o, item_b0, item_b1, item_b2, at0, at1, at2, at3, at4, at5, atm1, blt_abs, blt_int, blt_intb, blt_tl, blt_tt, blt_ll, blt_lt, blt_sum, blt_all, blt_any, blt_min2, blt_max2, put_b0, put_b1, put_b2, szOk_0, szOk_1, szOk_n, Nat.reduceLeDiff, bin_mul2, bin_pow, Bool.not_true, Bool.not_false, wp_some, Nx_nx, Rt_rt, Option.toList_some, Option.toList_none, e3, e4, hrep]
        exact ⟨.inr trivial, trivial, trivial⟩
  obtain ⟨rfl, rfl⟩ := e4
  refine run_is hl rfl ?_
  simp only [lawB, ent, ev_var, ev_con, ev_bin, ev_neg, ev_not, ev_cmp, ev_chain, ev_and, ev_or, ev_ite, ev_tup, ev_lst, ev_call, ev_callk, ev_bl, ev_len, ev_bits, ev_isi, ev_sub, ev_slc, ev_callb, ea_nil, ea_cons, ei_rng1, ei_rng2, ei_zip, ei_enum, ei_it, ex_asg, ex_tas, ex_par, ex_setix, ex_app, ex_ite, ex_skip, ex_seq, ex_ret, ex_retn, ex_pass, ex_cont, ex_brk, evP, setRs, evRet, pk, peek, rd, setAll, bindT, wipeE, unwipe, noOwn, condOf, isNo, RV.pd, RV.frz, canPut, entryE, List.length_cons, List.length_nil, List.map_cons, List.map_nil, List.cons_append, List.nil_append, List.append_nil, Nat.sub_self, Nat.reduceSub, Nat.reduceAdd, Nat.zero_add, List.replicate_succ, List.replicate_zero, List.getElem?_cons_zero, List.getElem?_cons_succ, List.set_cons_zero, List.set_cons_succ, List.getD_cons_zero, List.getD_cons_succ, mapM_pd_nil, mapM_pd_cons, permL_nil, permL_cons, Option.map_some, Option.map_none, Option.bind_some, Option.pure_def, Option.bind_eq_bind, Bool.false_eq_true, if_true, if_false, ite_true, ite_false, reduceIte, reduceCtorEq, cmp_lt, cmp_le, cmp_gt, cmp_ge, cmp_eq_i, cmp_ne_i, cmp_eq_b, cmp_ne_b, cmp_eq_s, cmp_ne_s, cmp_eq_nn, cmp_is, cmp_isnot, isNone_none, isNone_bool, isNone_int, isNone_str, isNone_list, isNone_tuple, bin_add, bin_sub, mulOk_n, mulOk_m, divOk_n, Nat.reduceLT, Int.reduceEq, Int.reduceNe, ne_eq, not_false_eq_true, decide_true, decide_false, bin_mul, bin_fdiv, bin_mod, bin_addl, bin_addt, bin_shl, bin_shr, bin_band, bin_bor, tru_b, tru_i, tru_l, tru_t, tru_o, tru_n, len_l, len_t, len_o, item_l, item_t, item_o, item_b0, item_b1, item_b2, at0, at1, at2, at3, at4, at5, atm1, blt_abs, blt_int, blt_intb, blt_tl, blt_tt, blt_ll, blt_lt, blt_sum, blt_all, blt_any, blt_min2, blt_max2, put_b0, put_b1, put_b2, szOk_0, szOk_1, szOk_n, Nat.reduceLeDiff, bin_mul2, bin_pow, Bool.not_true, Bool.not_false, wp_some, Nx_nx, Rt_rt, Option.toList_some, Option.toList_none, hand, e1, e2, all_rep]
end
end PX
set_option Elab.async false
set_option autoImplicit false
set_option maxRecDepth 100000
set_option maxHeartbeats 8100000
/-! PXT: tools: statements run one by one, comprehensions and loops by rules that read the goal. -/
namespace PX
open PySem
/-! ### comprehensions -/
def stepOf (cal : Cal) (tg : Tg) (c elt : E) : PyData → G → Option (Option PyData × G) := lcStep tg (condOf (isNo c) fun g => evE cal c g) fun g => evE cal elt g
def lcR (own : List Nat) (step : PyData → G → Option (Option PyData × G)) (ds : List PyData) (g : G) : Option (RV × G) := if szOk ds.length = true then match lcL own step ds g [] with
    | some (ys, g2) => some (.own ys, { g2 with env := unwipe g.env g2.env own })
    | none => none
  else none
section
variable {cal : Cal} {fu : Nat} {g : G} {own : List Nat} {src c elt : E} {tg : Tg} {env : List Sl} {bx : Bx} {d : PyData}
theorem ev_lcR : evE cal (.lc own src tg c elt) g = match evI cal src g with
    | some (ds, g1) => lcR own (stepOf cal tg c elt) ds g1
    | none => none := by
  show (match evI cal src g with
    | some (ds, g1) => if szOk ds.length then
        match lcL own (lcStep tg (condOf (isNo c) fun g => evE cal c g) fun g => evE cal elt g) ds g1 [] with
        | some (ys, g2) => some (RV.own ys, { g2 with env := unwipe g1.env g2.env own })
        | none => none
      else none
    | none => none) = _
  cases evI cal src g with
  | none => rfl
  | some p => rfl
theorem step_no : stepOf cal tg .no elt d g = match bindT tg d g.env with
    | none => none
    | some env => match evE cal elt { g with env := env } with
      | none => none
      | some (x, g2) => x.pd.map fun y => (some y, g2) := rfl
theorem step_if (h : isNo c = false) : stepOf cal tg c elt d g = match bindT tg d g.env with
    | none => none
    | some env => match evE cal c { g with env := env } with
      | none => none
      | some (x, g1) => match truth x with
        | none => none
        | some false => some (none, g1)
        | some true => match evE cal elt g1 with
          | none => none
          | some (x, g2) => x.pd.map fun y => (some y, g2) := by
  unfold stepOf lcStep condOf
  rw [h]
  cases bindT tg d g.env with
  | none => rfl
  | some env =>
    simp only [Bool.false_eq_true, if_false]
    cases evE cal c { g with env := env } with
    | none => rfl
    | some p =>
      obtain ⟨x, g1⟩ := p
      simp only
      cases truth x with
      | none => rfl
      | some k => cases k <;> rfl
def stepC (cal : Cal) (tg : Tg) (c elt : E) (d : PyData) (g : G) : Option (Option PyData × G) := match bindT tg d g.env with
    | none => none
    | some env => match evE cal c { g with env := env } with
      | none => none
      | some (x, g1) => match truth x with
        | none => none
        | some false => some (none, g1)
        | some true => match evE cal elt g1 with
          | none => none
          | some (x, g2) => x.pd.map fun y => (some y, g2)
theorem stepC_eq : stepC cal tg c elt d g = match bindT tg d g.env with
    | none => none
    | some env => match evE cal c { g with env := env } with
      | none => none
      | some (x, g1) => match truth x with
        | none => none
        | some false => some (none, g1)
        | some true => match evE cal elt g1 with
          | none => none
          | some (x, g2) => x.pd.map fun y => (some y, g2) := rfl
section
variable {a b : E} {ds : List PyData}
theorem st_cmp {o : Cop} : stepOf cal tg (.cmp o a b) elt d g = stepC cal tg (.cmp o a b) elt d g := step_if rfl
theorem st_chain {o p : Cop} : stepOf cal tg (.chain o p a b c) elt d g = stepC cal tg (.chain o p a b c) elt d g := step_if rfl
theorem st_and : stepOf cal tg (.and a b) elt d g = stepC cal tg (.and a b) elt d g := step_if rfl
theorem st_or : stepOf cal tg (.or a b) elt d g = stepC cal tg (.or a b) elt d g := step_if rfl
theorem st_not : stepOf cal tg (.not a) elt d g = stepC cal tg (.not a) elt d g := step_if rfl
theorem st_isi {ts : List Ty} : stepOf cal tg (.isi a ts) elt d g = stepC cal tg (.isi a ts) elt d g := step_if rfl
theorem st_call {f : Nat} : stepOf cal tg (.call f a) elt d g = stepC cal tg (.call f a) elt d g := step_if rfl
theorem st_bl {f : Bl} : stepOf cal tg (.bl f a) elt d g = stepC cal tg (.bl f a) elt d g := step_if rfl
theorem st_var {i : Nat} : stepOf cal tg (.var i) elt d g = stepC cal tg (.var i) elt d g := step_if rfl
end
variable {α β : Type}
theorem lcR_I (I : Nat → List Sl → Bx → List PyData → Prop) {ds : List PyData} (hz : ds.length ≤ 16777216) (h0 : I 0 (wipeE env own) bx [])
    (h : ∀ k d e bx acc, ds[k]? = some d → I k e bx acc → wp (stepOf cal tg c elt d ⟨e, bx⟩) fun r => I (k + 1) (wipeE r.2.env own) r.2.bx (acc ++ r.1.toList)) :
    ∃ acc env' bx', lcR own (stepOf cal tg c elt) ds ⟨env, bx⟩ = some (.own acc, ⟨unwipe env env' own, bx'⟩) ∧ I ds.length (wipeE env' own) bx' acc := by
  obtain ⟨acc, g', q1, q2⟩ := lcL_inv (own := own) (step := stepOf cal tg c elt) I ds 0 ⟨env, bx⟩ [] h0 (by simpa using h)
  refine ⟨acc, g'.env, g'.bx, ?_, by simpa using q2⟩
  unfold lcR
  rw [if_pos (szOk_of hz), q1]
theorem lcR_nil {step : PyData → G → Option (Option PyData × G)} : lcR own step [] ⟨env, bx⟩ = some (.own [], ⟨unwipe env env own, bx⟩) := rfl
theorem lcR_m (f : α → Option PyData) {l : List α} {P : α → PyData} (hz : l.length ≤ 16777216)
    (h : ∀ a ∈ l, wp (stepOf cal tg c elt (P a) ⟨wipeE env own, bx⟩) fun r => r.1 = f a ∧ wipeE r.2.env own = wipeE env own ∧ r.2.bx = bx) :
    lcR own (stepOf cal tg c elt) (l.map P) ⟨env, bx⟩ = some (.own (l.filterMap f), ⟨unwipe env env own, bx⟩) := by
  obtain ⟨acc, env', bx', e1, e2, rfl, rfl⟩ := lcR_I (cal := cal) (own := own) (tg := tg) (c := c) (elt := elt) (env := env) (bx := bx) (ds := l.map P) (fun k e b acc => e = wipeE env own ∧ b = bx ∧ acc = (l.take k).filterMap f) (by rw [List.length_map]; exact hz) ⟨rfl, rfl, by rw [List.take_zero]; rfl⟩
    fun k d e b acc hd hI => by
      obtain ⟨rfl, rfl, rfl⟩ := hI
      rw [List.getElem?_map] at hd
      cases ha : l[k]? with
      | none => rw [ha] at hd; cases hd
      | some a =>
        rw [ha] at hd
        cases hd
        refine wp_mono (h a (List.mem_of_getElem? ha)) fun r hr => ⟨hr.2.1, hr.2.2, ?_⟩
        rw [hr.1, List.take_add_one, ha, List.filterMap_append]
        cases hf : f a with
        | none => simp [hf]
        | some y => simp [hf]
  rw [e1, List.length_map, List.take_length]
  rw [unwipe_eq e2]
theorem lcR_Z (f : α → Option Int) {l : List α} {P : α → PyData} (hz : l.length ≤ 16777216)
    (h : ∀ a ∈ l, wp (stepOf cal tg c elt (P a) ⟨wipeE env own, bx⟩) fun r => r.1 = (f a).map .int ∧ wipeE r.2.env own = wipeE env own ∧ r.2.bx = bx) :
    lcR own (stepOf cal tg c elt) (l.map P) ⟨env, bx⟩ = some (.own ((l.filterMap f).map .int), ⟨unwipe env env own, bx⟩) := by
  rw [lcR_m (fun a => (f a).map .int) hz h, List.map_filterMap]
/-- each item gives one -/
theorem lcR_A (f : α → β) (Q : β → PyData) {l : List α} {P : α → PyData} (hz : l.length ≤ 16777216)
    (h : ∀ a ∈ l, wp (stepOf cal tg c elt (P a) ⟨wipeE env own, bx⟩) fun r => r.1 = some (Q (f a)) ∧ wipeE r.2.env own = wipeE env own ∧ r.2.bx = bx) :
    lcR own (stepOf cal tg c elt) (l.map P) ⟨env, bx⟩ = some (.own ((l.map f).map Q), ⟨unwipe env env own, bx⟩) := by
  rw [lcR_m (fun a => some (Q (f a))) hz h]
  congr 2
  rw [List.map_map, ← List.filterMap_eq_map]
  rfl
/-- some items are kept -/
theorem lcR_F (p : α → Bool) (f : α → β) (Q : β → PyData) {l : List α} {P : α → PyData} (hz : l.length ≤ 16777216)
    (h : ∀ a ∈ l, wp (stepOf cal tg c elt (P a) ⟨wipeE env own, bx⟩) fun r => r.1 = (if p a = true then some (Q (f a)) else none) ∧ wipeE r.2.env own = wipeE env own ∧ r.2.bx = bx) :
    lcR own (stepOf cal tg c elt) (l.map P) ⟨env, bx⟩ = some (.own (((l.filter p).map f).map Q), ⟨unwipe env env own, bx⟩) := by
  rw [lcR_m (fun a => if p a = true then some (Q (f a)) else none) hz h]
  congr 3
  clear h hz
  induction l with
  | nil => rfl
  | cons a l ih =>
    rw [List.filterMap_cons, List.filter_cons, ih]
    by_cases q : p a = true
    · rw [if_pos q, if_pos q]; rfl
    · rw [if_neg q, if_neg q]
/-- the first turn shares a list of one's own -/
theorem lcR_S (env2 : List Sl) (f : α → β) (Q : β → PyData) {l : List α} {P : α → PyData} (hl : l ≠ []) (hz : l.length ≤ 16777216)
    (h : ∀ a ∈ l, ∀ e, e = wipeE env own ∨ e = wipeE env2 own → wp (stepOf cal tg c elt (P a) ⟨e, bx⟩) fun r => r.1 = some (Q (f a)) ∧ wipeE r.2.env own = wipeE env2 own ∧ r.2.bx = bx) :
    lcR own (stepOf cal tg c elt) (l.map P) ⟨env, bx⟩ = some (.own ((l.map f).map Q), ⟨unwipe env env2 own, bx⟩) := by
  obtain ⟨acc, env', bx', e1, e2, rfl, rfl⟩ := lcR_I (cal := cal) (own := own) (tg := tg) (c := c) (elt := elt) (env := env) (bx := bx) (ds := l.map P) (fun k e b acc => ((k = 0 ∧ e = wipeE env own) ∨ (k ≠ 0 ∧ e = wipeE env2 own)) ∧ b = bx ∧ acc = ((l.take k).map f).map Q) (by rw [List.length_map]; exact hz) ⟨.inl ⟨rfl, rfl⟩, rfl, by rw [List.take_zero]; rfl⟩
    fun k d e b acc hd hI => by
      obtain ⟨he, rfl, rfl⟩ := hI
      rw [List.getElem?_map] at hd
      cases ha : l[k]? with
      | none => rw [ha] at hd; cases hd
      | some a =>
        rw [ha] at hd
        cases hd
        refine wp_mono (h a (List.mem_of_getElem? ha) e (he.imp (·.2) (·.2))) fun r hr => ⟨.inr ⟨by omega, hr.2.1⟩, hr.2.2, ?_⟩
        rw [hr.1, List.take_add_one, ha]
        simp
  rw [e1, List.length_map, List.take_length]
  rcases e2 with ⟨q, _⟩ | ⟨_, e2⟩
  · rw [List.length_map] at q; exact absurd (List.length_eq_zero_iff.mp q) hl
  · rw [unwipe_eq e2]
/-! ### statements one by one -/
variable {a b r : S} {Q : R → Prop}
theorem sq_skip : exS cal fu (.seq .skip r) g = exS cal fu r g := rfl
theorem sq_seq : exS cal fu (.seq (.seq a b) r) g = exS cal fu (.seq a (.seq b r)) g := by
  rw [ex_seq, ex_seq, ex_seq]
  cases exS cal fu a g with
  | none => rfl
  | some x => cases x with
    | nx g1 => simp only [ex_seq]
    | _ => rfl
theorem sq_asg {i : Nat} {e : E} : exS cal fu (.seq (.asg i e) r) g = match evE cal e g with
    | some (x, g1) => exS cal fu r { g1 with env := g1.env.set i (some x) }
    | none => none := by
  rw [ex_seq, ex_asg]
  cases evE cal e g with
  | none => rfl
  | some p => rfl
theorem sq_tas {is : List Nat} {e : E} : exS cal fu (.seq (.tas is e) r) g = match evE cal e g with
    | some (x, g1) => match x.pd with
      | some d => match bindT (.tp is) d g1.env with
        | some env => exS cal fu r { g1 with env := env }
        | none => none
      | none => none
    | none => none := by
  rw [ex_seq, ex_tas]
  cases evE cal e g with
  | none => rfl
  | some p =>
    obtain ⟨x, g1⟩ := p
    simp only
    cases x.pd with
    | none => rfl
    | some d =>
      simp only
      cases bindT (.tp is) d g1.env with
      | none => rfl
      | some env => rfl
theorem sq_par {is : List Nat} {es : List E} : exS cal fu (.seq (.par is es) r) g = match evP cal es g with
    | some (rs, g1) => match setRs is rs g1.env with
      | some env => exS cal fu r { g1 with env := env }
      | none => none
    | none => none := by
  rw [ex_seq, ex_par]
  cases evP cal es g with
  | none => rfl
  | some p =>
    obtain ⟨x, g1⟩ := p
    simp only
    cases setRs is x g1.env with
    | none => rfl
    | some env => rfl
theorem sq_setix {i : Nat} {ix e : E} : exS cal fu (.seq (.setix i ix e) r) g = match evE cal e g with
    | some (x, g1) => match x.pd with
      | some y => if canPut i g1 = true then match evE cal ix g1 with
          | some (.dat (.int k), g2) => match putIx i k y g2 with
            | some g3 => exS cal fu r g3
            | none => none
          | _ => none
        else none
      | none => none
    | none => none := by
  rw [ex_seq, ex_setix]
  cases evE cal e g with
  | none => rfl
  | some p =>
    obtain ⟨x, g1⟩ := p
    simp only
    cases x.pd with
    | none => rfl
    | some y =>
      simp only
      by_cases h : canPut i g1 = true
      · simp only [h, if_true]
        cases evE cal ix g1 with
        | none => rfl
        | some p =>
          obtain ⟨z, g2⟩ := p
          cases z with
          | dat d => cases d with
            | int k =>
              simp only
              cases putIx i k y g2 with
              | none => rfl
              | some g3 => rfl
            | _ => rfl
          | _ => rfl
      · simp only [h, Bool.false_eq_true, if_false]
theorem sq_app {i : Nat} {e : E} : exS cal fu (.seq (.app i e) r) g = if canPut i g = true then match evE cal e g with
      | some (x, g1) => match x.pd with
        | some y => match appE i y g1 with
          | some g2 => exS cal fu r g2
          | none => none
        | none => none
      | none => none
    else none := by
  rw [ex_seq, ex_app]
  by_cases h : canPut i g = true
  · simp only [h, if_true]
    cases evE cal e g with
    | none => rfl
    | some p =>
      obtain ⟨x, g1⟩ := p
      simp only
      cases x.pd with
      | none => rfl
      | some y =>
        simp only
        cases appE i y g1 with
        | none => rfl
        | some g2 => rfl
  · simp only [h, Bool.false_eq_true, if_false]
theorem sq_ite {c : E} : exS cal fu (.seq (.ite c a b) r) g = match evE cal c g with
    | some (x, g1) => match truth x with
      | some true => exS cal fu (.seq a r) g1
      | some false => exS cal fu (.seq b r) g1
      | none => none
    | none => none := by
  rw [ex_seq, ex_ite]
  cases evE cal c g with
  | none => rfl
  | some p =>
    obtain ⟨x, g1⟩ := p
    simp only
    cases truth x with
    | none => rfl
    | some k => cases k <;> rfl
theorem sq_ret {e : E} : exS cal fu (.seq (.ret e) r) g = match evRet cal e g with
    | some (.box, _) => none
    | some (x, g1) => some (.rt x g1.bx)
    | none => none := by
  rw [ex_seq, ex_ret]
  cases evRet cal e g with
  | none => rfl
  | some p => obtain ⟨x, g1⟩ := p; cases x <;> rfl
theorem sq_retn : exS cal fu (.seq .retn r) g = some (.rt (.dat .none) g.bx) := by rw [ex_seq, ex_retn]
theorem sq_pass : exS cal fu (.seq .pass r) g = exS cal fu r g := by rw [ex_seq, ex_pass]
theorem sq_cont : exS cal fu (.seq .cont r) g = some (.ct g) := by rw [ex_seq, ex_cont]
theorem sq_brk : exS cal fu (.seq .brk r) g = some (.bk g) := by rw [ex_seq, ex_brk]
theorem sq_aug_add {i : Nat} {e : E} : exS cal fu (.seq (.aug i .add e) r) g = match peek i g with
    | some (.dat (.int x)) => match evE cal e g with
      | some (.dat (.int y), g1) => exS cal fu r { g1 with env := g1.env.set i (some (.dat (.int (x + y)))) }
      | _ => none
    | _ => none := by
  rw [ex_seq]
  show (match (match peek i g with
    | some (.dat (.int x)) => match evE cal e g with
      | some (.dat (.int y), g1) => some (R.nx { g1 with env := g1.env.set i (some (.dat (.int (x + y)))) })
      | _ => none
    | _ => none) with
    | some (.nx g1) => exS cal fu r g1
    | q => q) = _
  cases peek i g with
  | none => rfl
  | some rv => cases rv with
    | dat d => cases d with
      | int x =>
        simp only
        cases evE cal e g with
        | none => rfl
        | some p =>
          obtain ⟨y, g1⟩ := p
          cases y with
          | dat d => cases d <;> rfl
          | _ => rfl
      | _ => rfl
    | _ => rfl
/-- a loop by an invariant: what is walked, the start, a turn, the rest -/
theorem wp_loop {l : List α} {P : α → PyData} {g1 : G} (I : Nat → G → Prop) (hs : evI cal src g = some (l.map P, g1)) (h0 : I 0 g1)
    (ht : ∀ k a g, l[k]? = some a → I k g → wp (bindT tg (P a) g.env) fun env => wp (exS cal fu b { g with env := env }) fun x => Nx (I (k + 1)) x ∨ ∃ g', x = .ct g' ∧ I (k + 1) g')
    (hk : ∀ g', I l.length g' → wp (exS cal fu r g') Q) : wp (exS cal fu (.seq (.loop src tg b) r) g) Q := by
  have go : ∀ (l : List α) (n : Nat) (g : G), I n g → (∀ k a g, l[k]? = some a → I (n + k) g → wp (bindT tg (P a) g.env) fun env => wp (exS cal fu b { g with env := env }) fun x => Nx (I (n + k + 1)) x ∨ ∃ g', x = .ct g' ∧ I (n + k + 1) g') →
      ∃ g', forL tg (exS cal fu b) (l.map P) g = some (.nx g') ∧ I (n + l.length) g' := by
    intro l
    induction l with
    | nil => intro n g h _; exact ⟨g, rfl, h⟩
    | cons a l ih =>
      intro n g h hs
      obtain ⟨env, b1, x, b2, b3⟩ := hs 0 a g rfl h
      have next : ∀ k a' g, l[k]? = some a' → I (n + 1 + k) g → wp (bindT tg (P a') g.env) fun env => wp (exS cal fu b { g with env := env }) fun x => Nx (I (n + 1 + k + 1)) x ∨ ∃ g', x = .ct g' ∧ I (n + 1 + k + 1) g' := fun k x g2 hx hI => by
        have := hs (k + 1) x g2 (by simpa using hx) (by rw [show n + (k + 1) = n + 1 + k by omega]; exact hI)
        rw [show n + (k + 1) + 1 = n + 1 + k + 1 by omega] at this
        exact this
      rw [List.map_cons, forL_cons, b1, List.length_cons, show n + (l.length + 1) = n + 1 + l.length by omega]
      simp only [b2]
      rcases b3 with b3 | ⟨g', rfl, b3⟩
      · cases x with
        | nx g1 => exact ih (n + 1) g1 b3 next
        | _ => exact b3.elim
      · exact ih (n + 1) g' b3 next
  obtain ⟨g', e1, e2⟩ := go l 0 g1 h0 (by simpa using ht)
  rw [Nat.zero_add] at e2
  obtain ⟨x, e3, e4⟩ := hk g' e2
  refine ⟨x, ?_, e4⟩
  rw [ex_seq, ex_loop, hs]
  simp only [e1]
  exact e3
/-- a loop over ints as they are -/
theorem wp_bind {o : Option (List Sl)} {e : List Sl} {P : List Sl → Prop} (h : o = some e) (p : P e) : wp o P := ⟨e, h, p⟩
/-- a while: its state by s, its measure falls -/
theorem wp_while {c : E} (I : Nat → G → Prop) (n : Nat) (hn : n < fu) (h0 : I n g)
    (ht : ∀ m g, m ≤ n → I m g → wp (evE cal c g) fun p => ∃ t, truth p.1 = some t ∧ (t = true → 0 < m ∧ wp (exS cal fu b p.2) fun x => ∃ m', m' < m ∧ (Nx (I m') x)) ∧ (t = false → wp (exS cal fu r p.2) Q)) :
    wp (exS cal fu (.seq (.whil c b) r) g) Q := by
  have go : ∀ (f m : Nat) (g : G), m < f → m ≤ n → I m g → wp (whL (evE cal c) (exS cal fu b) f g) fun x => ∃ g', x = .nx g' ∧ wp (exS cal fu r g') Q := by
    intro f
    induction f with
    | zero => intro m g h; omega
    | succ f ih =>
      intro m g hm hmn hI
      obtain ⟨⟨x, g1⟩, e1, t, e2, e3, e4⟩ := ht m g hmn hI
      simp only at e2 e3 e4
      unfold whL
      rw [e1]
      simp only [e2]
      cases t with
      | false => exact ⟨_, rfl, g1, rfl, e4 rfl⟩
      | true =>
        obtain ⟨h0, y, e5, m', h6, h7⟩ := e3 rfl
        simp only [e5]
        cases y with
        | nx g' => exact ih m' g' (by omega) (by omega) h7
        | _ => exact h7.elim
  obtain ⟨x, e1, g', rfl, e2⟩ := go fu n g hn (Nat.le_refl _) h0
  obtain ⟨y, e3, e4⟩ := e2
  refine ⟨y, ?_, e4⟩
  rw [ex_seq, ex_whil, e1]
  exact e3
end
/-! ### a def's run -/
section
variable {T : List FdD} {fu n i : Nat}
theorem run_wp {p N : Nat} {b : S} {args : List RV} {bx bx' : Bx} {r : RV} (h : Is T i p N b) (hl : args.length = p) (e : wp (exS (callN T fu n) fu b ⟨ent N args, bx⟩) (Rt fun x b' => x = r ∧ b' = bx')) : callN T fu (n + 1) i args bx = some (r, bx') := by
  obtain ⟨x, e1, e2⟩ := e
  cases x with
  | rt x b' => obtain ⟨rfl, rfl⟩ := e2; exact run_is h hl e1
  | _ => exact e2.elim
theorem run_ex {p N : Nat} {b : S} {args : List RV} {bx : Bx} {Q : RV → Bx → Prop} (h : Is T i p N b) (hl : args.length = p) (e : wp (exS (callN T fu n) fu b ⟨ent N args, bx⟩) (Rt Q)) : ∃ r bx', callN T fu (n + 1) i args bx = some (r, bx') ∧ Q r bx' := by
  obtain ⟨x, e1, e2⟩ := e
  cases x with
  | rt x b' => exact ⟨x, b', run_is h hl e1, e2⟩
  | _ => exact e2.elim
end
/-! ### what is walked, typed -/
section
variable {α β : Type}
theorem rangeD_map {lo : Int} {n : Nat} : rangeD lo n = (List.range n).map fun (i : Nat) => PyData.int (lo + i) := rfl
theorem zipW_map (P : α → PyData) (R : β → PyData) : ∀ (xs : List α) (ys : List β), List.zipWith pairD (xs.map P) (ys.map R) = (xs.zip ys).map fun p => pairD (P p.1) (R p.2)
  | [], _ => rfl
  | _ :: _, [] => rfl
  | x :: xs, y :: ys => by
    rw [List.map_cons, List.map_cons, List.zipWith_cons_cons, List.zip_cons_cons, List.map_cons, zipW_map P R xs ys]
theorem enum_map (P : α → PyData) : ∀ (xs : List α) (n : Nat), enumD n (xs.map P) = (xs.zipIdx n).map fun p => pairD (.int ((p.2 : Nat) : Int)) (P p.1)
  | [], _ => rfl
  | x :: xs, n => by
    rw [List.map_cons, List.zipIdx_cons, List.map_cons, ← enum_map P xs (n + 1)]; rfl
theorem zip_tt {xs ys : List PyData} : zipOf (.dat (.tuple xs)) (.dat (.tuple ys)) = some (List.zipWith pairD xs ys) := rfl
theorem zip_tl {xs ys : List PyData} : zipOf (.dat (.tuple xs)) (.dat (.list ys)) = some (List.zipWith pairD xs ys) := rfl
theorem zip_lt {xs ys : List PyData} : zipOf (.dat (.list xs)) (.dat (.tuple ys)) = some (List.zipWith pairD xs ys) := rfl
theorem zip_ll {xs ys : List PyData} : zipOf (.dat (.list xs)) (.dat (.list ys)) = some (List.zipWith pairD xs ys) := rfl
theorem iter_t {xs : List PyData} : iterOf (.dat (.tuple xs)) = some xs := rfl
theorem iter_l {xs : List PyData} : iterOf (.dat (.list xs)) = some xs := rfl
theorem iter_o {xs : List PyData} : iterOf (.own xs) = some xs := rfl
theorem lst_l {xs : List PyData} : lstOf (.dat (.list xs)) = some xs := rfl
theorem lst_o {xs : List PyData} : lstOf (.own xs) = some xs := rfl
/-- t: a tuple -/
def sq (t : Bool) (ds : List PyData) : PyData := match t with
  | true => .tuple ds
  | false => .list ds
theorem seq_sq {t : Bool} {ds : List PyData} : seqOf (.dat (sq t ds)) = some ds := by cases t <;> rfl
theorem iter_sq {t : Bool} {ds : List PyData} : iterOf (.dat (sq t ds)) = some ds := by cases t <;> rfl
theorem len_sq {t : Bool} {ds : List PyData} : lenOf (.dat (sq t ds)) = some ds.length := by cases t <;> rfl
theorem item_sq {t : Bool} {ds : List PyData} {bx : Bx} {k : Int} : item bx (.dat (sq t ds)) (.int k) = L2.atI ds k := by cases t <;> rfl
theorem list_sq {t : Bool} {ds : List PyData} : blt .list [sq t ds] = some (.own ds) := by cases t <;> rfl
theorem tuple_sq {t : Bool} {ds : List PyData} : blt .tuple [sq t ds] = some (.dat (.tuple ds)) := by cases t <;> rfl
theorem zip_sq {t u : Bool} {xs ys : List PyData} : zipOf (.dat (sq t xs)) (.dat (sq u ys)) = some (List.zipWith pairD xs ys) := by
  unfold zipOf; rw [seq_sq, seq_sq]
theorem sq_true {ds : List PyData} : sq true ds = .tuple ds := rfl
theorem sq_false {ds : List PyData} : sq false ds = .list ds := rfl
end
end PX
set_option Elab.async false
set_option autoImplicit false
set_option maxRecDepth 100000
/-! PXV: bodies of defs that several laws have, their callees as parameters (printed by libgen.py). -/
namespace PX
-- is_number: thing
def B_is_number : S := (.seq (.ret (.and (.isi (.var 0) [.int]) (.not (.isi (.var 0) [.bool])))) .skip)
-- are_numbers: thing size least own
def B_are_numbers (f_is_number : Nat) : S := (.seq (.ret (.and (.isi (.var 0) [.tuple]) (.and (.cmp .eq (.len (.var 0)) (.var 1)) (.bl .all (.cons
    (.lc [3] (.it (.var 0)) (.nm 3) .no (.and (.call f_is_number (.cons (.var 3) .nil)) (.cmp .ge (.var 3) (.var 2)))) .nil))))) .skip)
-- is_coefficients: thing own
def B_is_coefficients (f_is_number : Nat) : S := (.seq (.ite (.or (.not (.isi (.var 0) [.tuple])) (.cmp .gt (.len (.var 0)) (.con (.int 6)))) (.seq
    (.ret (.con (.bool false))) .skip) .skip) (.seq (.ret (.bl .all (.cons (.lc [1] (.it (.var 0)) (.nm 1) .no (.and (.call f_is_number (.cons (.var
    1) .nil)) (.cmp .ne (.var 1) (.con (.int 0))))) .nil))) .skip))
-- is_bounds: coefficients thing
def B_is_bounds (f_are_numbers : Nat) : S := (.seq (.ret (.call f_are_numbers (.cons (.var 1) (.cons (.len (.var 0)) (.cons (.con (.int 1)) .nil)))))
    .skip)
-- sum_of: coefficients counters own many
def B_sum_of : S := (.seq (.ret (.bl .sum (.cons (.lc [2, 3] (.zip (.var 0) (.var 1)) (.tp [2, 3]) .no (.bin .mul (.var 2) (.var 3))) .nil))) .skip)
-- least_sum: coefficients bounds own most
def B_least_sum : S := (.seq (.ret (.bl .sum (.cons (.lc [2, 3] (.zip (.var 0) (.var 1)) (.tp [2, 3]) (.cmp .lt (.var 2) (.con (.int 0))) (.bin .mul
    (.var 2) (.var 3))) .nil))) .skip)
-- greatest_sum: coefficients bounds own most
def B_greatest_sum : S := (.seq (.ret (.bl .sum (.cons (.lc [2, 3] (.zip (.var 0) (.var 1)) (.tp [2, 3]) (.cmp .gt (.var 2) (.con (.int 0))) (.bin
    .mul (.var 2) (.var 3))) .nil))) .skip)
-- step: coefficients found own near
def B_step : S := (.seq (.asg 1 (.con (.int 0))) (.seq (.loop (.it (.var 0)) (.nm 2) (.seq (.asg 3 (.bl .abs (.cons (.var 2) .nil))) (.seq (.whil
    (.cmp .gt (.var 3) (.con (.int 0))) (.seq (.par [1, 3] [(.var 3), (.bin .mod (.var 1) (.var 3))]) .skip)) .skip))) (.seq (.ret (.var 1)) .skip)))
-- divides: one number
def B_divides : S := (.seq (.ret (.ite (.cmp .eq (.var 0) (.con (.int 0))) (.cmp .eq (.var 1) (.con (.int 0))) (.cmp .eq (.bin .mod (.var 1) (.var 0))
    (.con (.int 0))))) .skip)
-- is_let: coefficients bounds number
def B_is_let (f_divides f_step f_least_sum f_greatest_sum : Nat) : S := (.seq (.ite (.not (.chain .le .le (.call f_least_sum (.cons (.var 0) (.cons
    (.var 1) .nil))) (.var 2) (.call f_greatest_sum (.cons (.var 0) (.cons (.var 1) .nil))))) (.seq (.ret (.con (.bool false))) .skip) .skip) (.seq
    (.ret (.call f_divides (.cons (.call f_step (.cons (.var 0) .nil)) (.cons (.var 2) .nil)))) .skip))
-- _law_step: _law_coefs_so _law_found _law_own _law_near_so _law_far_so _law_lap
def B_Lstep : S := (.seq (.asg 1 (.con (.int 0))) (.seq (.loop (.it (.var 0)) (.nm 2) (.seq (.par [3, 4] [(.bl .abs (.cons (.var 2) .nil)), (.var 1)])
    (.seq (.loop (.rng1 (.con (.int 400))) (.nm 5) (.seq (.ite (.cmp .ne (.var 4) (.con (.int 0))) (.seq (.par [3, 4] [(.var 4), (.bin .mod (.bl .int
    (.cons (.var 3) .nil)) (.var 4))]) .skip) .skip) .skip)) (.seq (.asg 1 (.var 3)) .skip)))) (.seq (.ret (.var 1)) .skip)))
-- tupled: thing own
def B_tupled (f_tupled : Nat) : S := (.seq (.ret (.ite (.isi (.var 0) [.list, .tuple]) (.bl .tuple (.cons (.lc [1] (.it (.var 0)) (.nm 1) .no (.call
    f_tupled (.cons (.var 1) .nil))) .nil)) (.var 0))) .skip)
-- mirrored: coefficients bounds number
def B_mirrored (f_least_sum f_greatest_sum : Nat) : S := (.seq (.ret (.bin .sub (.bin .add (.call f_least_sum (.cons (.var 0) (.cons (.var 1) .nil)))
    (.call f_greatest_sum (.cons (.var 0) (.cons (.var 1) .nil)))) (.var 2))) .skip)
-- made_plain: coefficients bounds number one rest own
def B_made_plain (f_tupled f_least_sum f_divides f_step : Nat) : S := (.seq (.asg 3 (.call f_step (.cons (.var 0) .nil))) (.seq (.ite (.not (.call
    f_divides (.cons (.var 3) (.cons (.var 2) .nil)))) (.seq (.ret (.con .none)) .skip) .skip) (.seq (.asg 4 (.ite (.cmp .eq (.var 3) (.con (.int 0)))
    (.con (.int 0)) (.bin .fdiv (.bin .sub (.var 2) (.call f_least_sum (.cons (.var 0) (.cons (.var 1) .nil)))) (.var 3)))) (.seq (.ret (.tup (.cons
    (.bl .tuple (.cons (.lc [5] (.it (.var 0)) (.nm 5) .no (.bin .fdiv (.bl .abs (.cons (.var 5) .nil)) (.var 3))) .nil)) (.cons (.call f_tupled
    (.cons (.var 1) .nil)) (.cons (.var 4) .nil))))) .skip))))
-- marks_along: coefficients bounds found own most here left part some
def B_marks_along : S := (.seq (.asg 2 (.lst (.cons (.con (.int 1)) .nil))) (.seq (.loop (.zip (.var 0) (.var 1)) (.tp [3, 4]) (.seq (.par [5, 6, 7]
    [(.sub (.var 2) (.neg (.con (.int 1)))), (.var 4), (.con (.int 1))]) (.seq (.whil (.cmp .gt (.var 6) (.con (.int 0))) (.seq (.asg 8 (.bl .min2
    (.cons (.var 7) (.cons (.var 6) .nil)))) (.seq (.asg 5 (.bin .bor (.var 5) (.bin .shl (.var 5) (.bin .mul (.bl .abs (.cons (.var 3) .nil)) (.var
    8))))) (.seq (.par [6, 7] [(.bin .sub (.var 6) (.var 8)), (.bin .add (.var 7) (.var 7))]) .skip)))) (.seq (.app 2 (.var 5)) .skip)))) (.seq (.ret
    (.var 2)) .skip)))
-- is_marked: marks at
def B_is_marked : S := (.seq (.ret (.and (.chain .le .lt (.con (.int 0)) (.var 1) (.bits (.var 0))) (.cmp .eq (.bin .band (.bin .shr (.var 0) (.var
    1)) (.con (.int 1))) (.con (.int 1))))) .skip)
-- is_sum: coefficients bounds number
def B_is_sum (f_is_marked f_least_sum f_marks_along : Nat) : S := (.seq (.ret (.call f_is_marked (.cons (.sub (.call f_marks_along (.cons (.var 0)
    (.cons (.var 1) .nil))) (.neg (.con (.int 1)))) (.cons (.bin .sub (.var 2) (.call f_least_sum (.cons (.var 0) (.cons (.var 1) .nil)))) .nil))))
    .skip)
-- how_many_counters: coefficients bounds number least greatest ways own most size more at many ahead gone
def B_how_many_counters (f_least_sum f_greatest_sum : Nat) : S := (.seq (.par [3, 4] [(.call f_least_sum (.cons (.var 0) (.cons (.var 1) .nil))),
    (.call f_greatest_sum (.cons (.var 0) (.cons (.var 1) .nil)))]) (.seq (.ite (.not (.chain .le .le (.var 3) (.var 2) (.var 4))) (.seq (.ret (.con
    (.int 0))) .skip) .skip) (.seq (.asg 5 (.bin .add (.lst (.cons (.con (.int 1)) .nil)) (.bin .mul (.lst (.cons (.con (.int 0)) .nil)) (.bin .sub
    (.var 4) (.var 3))))) (.seq (.loop (.zip (.var 0) (.var 1)) (.tp [6, 7]) (.seq (.par [8, 9] [(.bl .abs (.cons (.var 6) .nil)), (.lst .nil)]) (.seq
    (.loop (.enum (.var 5)) (.tp [10, 11]) (.seq (.asg 12 (.ite (.cmp .ge (.var 10) (.var 8)) (.sub (.var 9) (.bin .sub (.var 10) (.var 8))) (.con
    (.int 0)))) (.seq (.asg 13 (.bin .sub (.var 10) (.bin .mul (.var 8) (.bin .add (.var 7) (.con (.int 1)))))) (.seq (.app 9 (.bin .sub (.bin .add
    (.var 11) (.var 12)) (.ite (.cmp .ge (.var 13) (.con (.int 0))) (.sub (.var 5) (.var 13)) (.con (.int 0))))) .skip)))) (.seq (.asg 5 (.var 9))
    .skip)))) (.seq (.ret (.sub (.var 5) (.bin .sub (.var 2) (.var 3)))) .skip)))))
-- _law_sums: _law_coefs_so _law_bounds_so _law_found _law_own _law_most_so _law_more_so _law_bit _law_k
def B_Lsums : S := (.seq (.asg 2 (.lst (.cons (.con (.int 0)) .nil))) (.seq (.loop (.zip (.var 0) (.var 1)) (.tp [3, 4]) (.seq (.asg 5 (.lst .nil))
    (.seq (.loop (.it (.var 2)) (.nm 6) (.seq (.asg 5 (.bin .add (.var 5) (.lc [7] (.rng1 (.bin .add (.var 4) (.con (.int 1)))) (.nm 7) .no (.bin .add
    (.var 6) (.bin .mul (.var 3) (.var 7)))))) .skip)) (.seq (.asg 2 (.sset (.var 5))) .skip)))) (.seq (.ret (.var 2)) .skip)))
-- sums: coefficients bounds marks least at
def B_sums (f_is_marked f_marks_along f_least_sum : Nat) : S := (.seq (.par [2, 3] [(.sub (.call f_marks_along (.cons (.var 0) (.cons (.var 1) .nil)))
    (.neg (.con (.int 1)))), (.call f_least_sum (.cons (.var 0) (.cons (.var 1) .nil)))]) (.seq (.ret (.lc [4] (.rng1 (.bits (.var 2))) (.nm 4) (.call
    f_is_marked (.cons (.var 2) (.cons (.var 4) .nil))) (.bin .add (.var 3) (.var 4)))) .skip))
-- sums_between: coefficients bounds low high own
def B_sums_between (f_sums : Nat) : S := (.seq (.ret (.lc [4] (.it (.call f_sums (.cons (.var 0) (.cons (.var 1) .nil)))) (.nm 4) (.chain .le .le
    (.var 2) (.var 4) (.var 3)) (.var 4))) .skip)
-- is_counters_for: coefficients bounds number thing many most
def B_is_counters_for (f_sum_of f_are_numbers : Nat) : S := (.seq (.ite (.not (.call f_are_numbers (.cons (.var 3) (.cons (.len (.var 0)) (.cons (.con
    (.int 0)) .nil))))) (.seq (.ret (.con (.bool false))) .skip) .skip) (.seq (.ret (.and (.bl .all (.cons (.lc [4, 5] (.zip (.var 3) (.var 1)) (.tp
    [4, 5]) .no (.cmp .le (.var 4) (.var 5))) .nil)) (.cmp .eq (.call f_sum_of (.cons (.var 0) (.cons (.var 3) .nil))) (.var 2)))) .skip))
-- _law_holes: _law_coefs_so _law_bounds_so _law_sums_so _law_step_so _law_own
def B_Lholes (f__law_sums f__law_step : Nat) : S := (.seq (.ite (.cmp .eq (.len (.var 0)) (.con (.int 0))) (.seq (.ret (.lst .nil)) .skip) .skip)
    (.seq (.par [2, 3] [(.call f__law_sums (.cons (.var 0) (.cons (.var 1) .nil))), (.call f__law_step (.cons (.var 0) .nil))]) (.seq (.ret (.lc [4]
    (.rng2 (.sub (.var 2) (.con (.int 0))) (.bin .add (.sub (.var 2) (.neg (.con (.int 1)))) (.con (.int 1)))) (.nm 4) (.and (.cmp .eq (.bin .mod (.bl
    .int (.cons (.var 4) .nil)) (.var 3)) (.con (.int 0))) (.cmp .notin (.var 4) (.var 2))) (.var 4))) .skip)))
-- _law_mixed: _law_box_here _law_rows_so _law_rest_so _law_found _law_turn _law_at_so
def B_Lmixed (f__law_take : Nat) : S := (.seq (.par [2, 3] [(.bl .list (.cons (.var 1) .nil)), (.lst .nil)]) (.seq (.loop (.rng1 (.len (.var 1))) (.nm
    4) (.seq (.asg 5 (.call f__law_take (.cons (.var 0) (.cons (.len (.var 2)) .nil)))) (.seq (.app 3 (.sub (.var 2) (.var 5))) (.seq (.asg 2 (.bin
    .add (.slc (.var 2) .no (.var 5)) (.slc (.var 2) (.bin .add (.var 5) (.con (.int 1))) .no))) .skip)))) (.seq (.ret (.var 3)) .skip)))
-- is_name: text sign
def B_is_name : S := (.seq (.ret (.and (.chain .le .le (.con (.int 1)) (.len (.var 0)) (.con (.int 8))) (.bl .all (.cons (.lc [1] (.it (.var 0)) (.nm
    1) .no (.cmp .in_ (.var 1) (.con (.str "abcdefghijklmnopqrstuvwxyz")))) .nil)))) .skip)
-- is_name: thing letter
def B_is_name_2 : S := (.seq (.ite (.or (.not (.isi (.var 0) [.str])) (.not (.chain .le .le (.con (.int 1)) (.len (.var 0)) (.con (.int 8))))) (.seq
    (.ret (.con (.bool false))) .skip) .skip) (.seq (.ret (.bl .all (.cons (.lc [1] (.it (.var 0)) (.nm 1) .no (.cmp .in_ (.var 1) (.con (.str
    "abcdefghijklmnopqrstuvwxyz")))) .nil))) .skip))
-- is_pair: thing
def B_is_pair : S := (.seq (.ret (.and (.isi (.var 0) [.tuple]) (.cmp .eq (.len (.var 0)) (.con (.int 2))))) .skip)
-- is_place: loops thing own
def B_is_place (f_is_number f_is_pair : Nat) : S := (.seq (.ite (.or (.not (.call f_is_pair (.cons (.var 1) .nil))) (.or (.not (.isi (.sub (.var 1)
    (.con (.int 0))) [.tuple])) (.cmp .ne (.len (.sub (.var 1) (.con (.int 0)))) (.len (.var 0))))) (.seq (.ret (.con (.bool false))) .skip) .skip)
    (.seq (.ret (.and (.bl .all (.cons (.lc [2] (.it (.sub (.var 1) (.con (.int 0)))) (.nm 2) .no (.call f_is_number (.cons (.var 2) .nil))) .nil))
    (.call f_is_number (.cons (.sub (.var 1) (.con (.int 1))) .nil)))) .skip))
-- is_round: loops thing many name most
def B_is_round (f_are_numbers : Nat) : S := (.seq (.ite (.not (.call f_are_numbers (.cons (.var 1) (.cons (.len (.var 0)) (.cons (.con (.int 0))
    .nil))))) (.seq (.ret (.con (.bool false))) .skip) .skip) (.seq (.ret (.bl .all (.cons (.lc [2, 3, 4] (.zip (.var 1) (.var 0)) (.tq [.inl 2, .inr
    [3, 4]]) .no (.cmp .le (.var 2) (.var 4))) .nil))) .skip))
-- _law_lists: _law_matter _law_bit
def B_Llists (f__law_lists : Nat) : S := (.seq (.ret (.ite (.isi (.var 0) [.list, .tuple]) (.lc [1] (.it (.var 0)) (.nm 1) .no (.call f__law_lists
    (.cons (.var 1) .nil))) (.var 0))) .skip)
-- how_many_rounds: loops found name most
def B_how_many_rounds : S := (.seq (.asg 1 (.con (.int 1))) (.seq (.loop (.it (.var 0)) (.tp [2, 3]) (.seq (.asg 1 (.bin .mul (.var 1) (.bin .add
    (.var 3) (.con (.int 1))))) .skip)) (.seq (.ret (.var 1)) .skip)))
-- cell_at: place counters
def B_cell_at (f_sum_of : Nat) : S := (.seq (.ret (.bin .add (.call f_sum_of (.cons (.sub (.var 0) (.con (.int 0))) (.cons (.var 1) .nil))) (.sub
    (.var 0) (.con (.int 1))))) .skip)
-- all_rows: loops one other near own name most
def B_all_rows : S := (.seq (.asg 3 (.lc [4, 5, 6] (.zip (.sub (.var 1) (.con (.int 0))) (.var 0)) (.tq [.inl 4, .inr [5, 6]]) .no (.tup (.cons (.var
    4) (.cons (.var 6) .nil))))) (.seq (.ret (.bin .add (.var 3) (.lc [4, 5, 6] (.zip (.sub (.var 2) (.con (.int 0))) (.var 0)) (.tq [.inl 4, .inr [5,
    6]]) .no (.tup (.cons (.neg (.var 4)) (.cons (.var 6) .nil)))))) .skip))
-- equation_of: loops one other rows own most
def B_equation_of (f_all_rows : Nat) : S := (.seq (.asg 3 (.lc [4, 5] (.it (.call f_all_rows (.cons (.var 0) (.cons (.var 1) (.cons (.var 2) .nil)))))
    (.tp [4, 5]) (.cmp .ne (.var 4) (.con (.int 0))) (.tup (.cons (.var 4) (.cons (.var 5) .nil))))) (.seq (.ret (.tup (.cons (.bl .tuple (.cons (.lc
    [4, 5] (.it (.var 3)) (.tp [4, 5]) .no (.var 4)) .nil)) (.cons (.bl .tuple (.cons (.lc [4, 5] (.it (.var 3)) (.tp [4, 5]) .no (.var 5)) .nil))
    (.cons (.bin .sub (.sub (.var 2) (.con (.int 1))) (.sub (.var 1) (.con (.int 1)))) .nil))))) .skip))
-- may_touch: loops one other coefficients bounds number
def B_may_touch (f_is_let f_equation_of : Nat) : S := (.seq (.tas [3, 4, 5] (.call f_equation_of (.cons (.var 0) (.cons (.var 1) (.cons (.var 2)
    .nil))))) (.seq (.ret (.call f_is_let (.cons (.var 3) (.cons (.var 4) (.cons (.var 5) .nil))))) .skip))
-- is_touching: loops one other thing
def B_is_touching (f_cell_at f_is_pair f_is_round : Nat) : S := (.seq (.ite (.or (.not (.call f_is_pair (.cons (.var 3) .nil))) (.or (.not (.call
    f_is_round (.cons (.var 0) (.cons (.sub (.var 3) (.con (.int 0))) .nil)))) (.not (.call f_is_round (.cons (.var 0) (.cons (.sub (.var 3) (.con
    (.int 1))) .nil)))))) (.seq (.ret (.con (.bool false))) .skip) .skip) (.seq (.ret (.cmp .eq (.call f_cell_at (.cons (.var 1) (.cons (.sub (.var 3)
    (.con (.int 0))) .nil))) (.call f_cell_at (.cons (.var 2) (.cons (.sub (.var 3) (.con (.int 1))) .nil))))) .skip))
-- _law_cell: _law_spot_so _law_turn_so _law_own _law_k
def B_Lcell : S := (.seq (.ret (.bin .add (.bl .sum (.cons (.lc [2, 3] (.zip (.sub (.var 0) (.con (.int 0))) (.var 1)) (.tp [2, 3]) .no (.bin .mul
    (.var 2) (.var 3))) .nil)) (.sub (.var 0) (.con (.int 1))))) .skip)
-- _law_cell: _law_spot_here _law_round_so _law_own _law_many_so
def B_Lcell_2 : S := (.seq (.ret (.bin .add (.sub (.var 0) (.con (.int 1))) (.bl .sum (.cons (.lc [2, 3] (.zip (.sub (.var 0) (.con (.int 0))) (.var
    1)) (.tp [2, 3]) .no (.bin .mul (.var 2) (.var 3))) .nil)))) .skip)
-- touch: loops one other coefficients bounds number
def B_touch (f_is_sum f_equation_of : Nat) : S := (.seq (.tas [3, 4, 5] (.call f_equation_of (.cons (.var 0) (.cons (.var 1) (.cons (.var 2) .nil)))))
    (.seq (.ret (.call f_is_sum (.cons (.var 3) (.cons (.var 4) (.cons (.var 5) .nil))))) .skip))
-- how_many_touchings: loops one other coefficients bounds number found own most
def B_how_many_touchings (f_all_rows f_how_many_counters f_equation_of : Nat) : S := (.seq (.tas [3, 4, 5] (.call f_equation_of (.cons (.var 0) (.cons
    (.var 1) (.cons (.var 2) .nil))))) (.seq (.asg 6 (.call f_how_many_counters (.cons (.var 3) (.cons (.var 4) (.cons (.var 5) .nil))))) (.seq (.loop
    (.it (.call f_all_rows (.cons (.var 0) (.cons (.var 1) (.cons (.var 2) .nil))))) (.tp [7, 8]) (.seq (.asg 6 (.bin .mul (.var 6) (.ite (.cmp .ne
    (.var 7) (.con (.int 0))) (.con (.int 1)) (.bin .add (.var 8) (.con (.int 1)))))) .skip)) (.seq (.ret (.var 6)) .skip))))
-- cells_of: loops place rows own name most
def B_cells_of (f_sums : Nat) : S := (.seq (.asg 2 (.lc [3, 4, 5] (.zip (.sub (.var 1) (.con (.int 0))) (.var 0)) (.tq [.inl 3, .inr [4, 5]]) (.cmp
    .ne (.var 3) (.con (.int 0))) (.tup (.cons (.var 3) (.cons (.var 5) .nil))))) (.seq (.ret (.lc [3] (.it (.call f_sums (.cons (.lc [3, 5] (.it
    (.var 2)) (.tp [3, 5]) .no (.var 3)) (.cons (.lc [3, 5] (.it (.var 2)) (.tp [3, 5]) .no (.var 5)) .nil)))) (.nm 3) .no (.bin .add (.var 3) (.sub
    (.var 1) (.con (.int 1)))))) .skip))
-- touches_itself: loops place
def B_touches_itself (f_cells_of f_how_many_rounds : Nat) : S := (.seq (.ret (.cmp .lt (.len (.call f_cells_of (.cons (.var 0) (.cons (.var 1)
    .nil)))) (.call f_how_many_rounds (.cons (.var 0) .nil)))) .skip)
end PX
set_option Elab.async false
set_option autoImplicit false
set_option maxRecDepth 100000
set_option maxHeartbeats 8100000
/-! PXY: sums of counters, in plain terms. -/
namespace PX
open PySem
/-! ### sums, least, greatest, the step -/
def sumZ (cs ks : List Int) : Int := ((cs.zip ks).map fun p => p.1 * p.2).sum
def lowP : List (Int × Int) → Int
  | [] => 0
  | p :: r => (if p.1 < 0 then p.1 * p.2 else 0) + lowP r
def topP : List (Int × Int) → Int
  | [] => 0
  | p :: r => (if 0 < p.1 then p.1 * p.2 else 0) + topP r
theorem lowP_cons {p : Int × Int} {r : List (Int × Int)} : lowP (p :: r) = (if p.1 < 0 then p.1 * p.2 else 0) + lowP r := rfl
theorem topP_cons {p : Int × Int} {r : List (Int × Int)} : topP (p :: r) = (if 0 < p.1 then p.1 * p.2 else 0) + topP r := rfl
def lowZ (cs bs : List Int) : Int := lowP (cs.zip bs)
def topZ (cs bs : List Int) : Int := topP (cs.zip bs)
def gcdL : Nat → List Int → Nat := List.foldl fun g c => Nat.gcd g c.natAbs
theorem low_fm : ∀ l : List (Int × Int), (l.filterMap fun p => if p.1 < 0 then some (p.1 * p.2) else none).sum = lowP l
  | [] => rfl
  | p :: r => by
    rw [List.filterMap_cons, lowP_cons]
    by_cases h : p.1 < 0
    · simp only [h, if_true, List.sum_cons, low_fm r]
    · simp only [h, if_false, low_fm r]; omega
theorem top_fm : ∀ l : List (Int × Int), (l.filterMap fun p => if 0 < p.1 then some (p.1 * p.2) else none).sum = topP l
  | [] => rfl
  | p :: r => by
    rw [List.filterMap_cons, topP_cons]
    by_cases h : 0 < p.1
    · simp only [h, if_true, List.sum_cons, top_fm r]
    · simp only [h, if_false, top_fm r]; omega
/-- factors are short -/
def Sh (cs : List Int) : Prop := ∀ c ∈ cs, c.natAbs < 2 ^ 64
theorem Sh.zip {cs bs : List Int} (h : Sh cs) {p : Int × Int} (hp : p ∈ cs.zip bs) : p.1.natAbs < 2 ^ 64 := h _ (List.of_mem_zip (show (p.1, p.2) ∈ cs.zip bs from hp)).1
theorem Sh.take {cs : List Int} (h : Sh cs) (k : Nat) : Sh (cs.take k) := fun c hc => h c (List.mem_of_mem_take hc)
theorem len_zip {cs bs : List Int} (h : cs.length ≤ 1000000) : (cs.zip bs).length ≤ 16777216 := by rw [List.length_zip]; omega
theorem fmod_nat (a b : Nat) : ((a : Int)).fmod (b : Int) = ((a % b : Nat) : Int) := by
  rw [Int.fmod_eq_emod_of_nonneg _ (by omega)]; rfl
theorem abs_nat (c : Int) : (if c < 0 then -c else c) = (c.natAbs : Int) := by split <;> omega
theorem gcdL_snoc (g : Nat) (cs : List Int) (c : Int) : gcdL g (cs ++ [c]) = Nat.gcd (gcdL g cs) c.natAbs := by
  unfold gcdL; rw [List.foldl_append]; rfl
theorem gcd_lt {a b : Nat} (ha : a < 2 ^ 64) (hb : b < 2 ^ 64) : Nat.gcd a b < 2 ^ 64 := by
  by_cases h : a = 0
  · subst h; rw [Nat.gcd_zero_left]; exact hb
  · exact Nat.lt_of_le_of_lt (Nat.gcd_le_left b (by omega)) ha
theorem gcdL_lt : ∀ (cs : List Int) (g : Nat), Sh cs → g < 2 ^ 64 → gcdL g cs < 2 ^ 64
  | [], g, _, h => h
  | c :: cs, g, hc, h => gcdL_lt cs (Nat.gcd g c.natAbs) (fun x hx => hc x (List.mem_cons_of_mem _ hx)) (gcd_lt h (hc c List.mem_cons_self))
theorem gcdL_dvd : ∀ (cs : List Int) (g : Nat), gcdL g cs ∣ g ∧ ∀ c ∈ cs, gcdL g cs ∣ c.natAbs
  | [], g => ⟨Nat.dvd_refl _, by simp⟩
  | c :: cs, g => by
    obtain ⟨h1, h2⟩ := gcdL_dvd cs (Nat.gcd g c.natAbs)
    show gcdL (Nat.gcd g c.natAbs) cs ∣ g ∧ ∀ x ∈ c :: cs, gcdL (Nat.gcd g c.natAbs) cs ∣ x.natAbs
    refine ⟨Nat.dvd_trans h1 (Nat.gcd_dvd_left _ _), fun x hx => ?_⟩
    rcases List.mem_cons.mp hx with rfl | hx
    · exact Nat.dvd_trans h1 (Nat.gcd_dvd_right _ _)
    · exact h2 x hx
theorem gcdL_pos : ∀ (cs : List Int) (g : Nat), (0 < g ∨ ∃ c ∈ cs, c ≠ 0) → 0 < gcdL g cs
  | [], g, h => by
    rcases h with h | ⟨c, hc, _⟩
    · exact h
    · simp at hc
  | c :: cs, g, h => by
    refine gcdL_pos cs (Nat.gcd g c.natAbs) ?_
    rcases h with h | ⟨x, hx, h⟩
    · exact .inl (Nat.gcd_pos_of_pos_left _ h)
    · rcases List.mem_cons.mp hx with rfl | hx
      · exact .inl (Nat.gcd_pos_of_pos_right _ (by omega))
      · exact .inr ⟨x, hx, h⟩
def divZ (one x : Int) : Bool := if one = 0 then decide (x = 0) else decide (x.fmod one = 0)
theorem div_iff {g : Nat} {x : Int} : divZ (g : Int) x = true ↔ (g : Int) ∣ x := by
  unfold divZ
  by_cases h : (g : Int) = 0
  · rw [if_pos h, h, decide_eq_true_eq, Int.zero_dvd]
  · rw [if_neg h, decide_eq_true_eq]
    rw [Int.fmod_eq_emod_of_nonneg _ (by omega)]
    exact ⟨Int.dvd_of_emod_eq_zero, Int.emod_eq_zero_of_dvd⟩
def letZ (cs bs : List Int) (x : Int) : Bool := if lowZ cs bs ≤ x ∧ x ≤ topZ cs bs then divZ (gcdL 0 cs : Nat) x else false
/-! ### by the parts -/
theorem neg_mul {c b : Int} (hb : 0 < b) : c * b < 0 ↔ c < 0 := by
  constructor
  · intro h
    by_cases hc : 0 ≤ c
    · have := Int.mul_nonneg hc (Int.le_of_lt hb); omega
    · omega
  · intro h
    exact Int.mul_neg_of_neg_of_pos h hb
theorem pos_mul {c b : Int} (hb : 0 < b) : 0 < c * b ↔ 0 < c := by
  constructor
  · intro h
    by_cases hc : c ≤ 0
    · have := Int.mul_nonneg (show 0 ≤ -c by omega) (Int.le_of_lt hb)
      rw [Int.neg_mul] at this; omega
    · omega
  · intro h
    exact Int.mul_pos h hb
theorem low_parts : ∀ l : List (Int × Int), (∀ p ∈ l, 1 ≤ p.2) → ((l.map fun p => p.1 * p.2).map fun x => if x < 0 then x else 0).sum = lowP l
  | [], _ => rfl
  | p :: r, h => by
    have hb : 0 < p.2 := h p List.mem_cons_self
    rw [List.map_cons, List.map_cons, List.sum_cons, low_parts r fun q hq => h q (List.mem_cons_of_mem _ hq)]
    rw [lowP_cons]
    by_cases q : p.1 < 0
    · rw [if_pos ((neg_mul hb).mpr q), if_pos q]
    · rw [if_neg fun z => q ((neg_mul hb).mp z), if_neg q]
theorem top_parts : ∀ l : List (Int × Int), (∀ p ∈ l, 1 ≤ p.2) → ((l.map fun p => p.1 * p.2).map fun x => if x > 0 then x else 0).sum = topP l
  | [], _ => rfl
  | p :: r, h => by
    have hb : 0 < p.2 := h p List.mem_cons_self
    rw [List.map_cons, List.map_cons, List.sum_cons, top_parts r fun q hq => h q (List.mem_cons_of_mem _ hq)]
    rw [topP_cons]
    simp only [gt_iff_lt]
    by_cases q : 0 < p.1
    · rw [if_pos ((pos_mul hb).mpr q), if_pos q]
    · rw [if_neg fun z => q ((pos_mul hb).mp z), if_neg q]
theorem zip_pos {cs bs : List Int} (h : ∀ b ∈ bs, 1 ≤ b) : ∀ p ∈ cs.zip bs, 1 ≤ p.2 := fun p hp => h _ (List.of_mem_zip (show (p.1, p.2) ∈ cs.zip bs from hp)).2
/-! ### which sums there are -/
/-- j is made by counters of l -/
def made : List (Int × Int) → Int → Bool
  | [], j => decide (j = 0)
  | p :: r, j => (List.range (p.2.toNat + 1)).any fun k => made r (j - p.1 * (k : Int))
theorem mk_cons {p : Int × Int} {r : List (Int × Int)} {j : Int} (h : 0 ≤ p.2) : made (p :: r) j = true ↔ ∃ k : Int, 0 ≤ k ∧ k ≤ p.2 ∧ made r (j - p.1 * k) = true := by
  show ((List.range (p.2.toNat + 1)).any fun k => made r (j - p.1 * (k : Int))) = true ↔ _
  rw [List.any_eq_true]
  constructor
  · rintro ⟨k, hk, e⟩
    rw [List.mem_range] at hk
    exact ⟨k, by omega, by omega, e⟩
  · rintro ⟨k, h0, h1, e⟩
    refine ⟨k.toNat, by rw [List.mem_range]; omega, ?_⟩
    rw [Int.toNat_of_nonneg h0]; exact e
theorem mk_nil {j : Int} : made [] j = true ↔ j = 0 := by unfold made; rw [decide_eq_true_eq]
/-- bounds from 0 -/
def Nn (l : List (Int × Int)) : Prop := ∀ p ∈ l, 0 ≤ p.2
theorem Nn.tail {p : Int × Int} {r : List (Int × Int)} (h : Nn (p :: r)) : Nn r := fun q hq => h q (List.mem_cons_of_mem _ hq)
theorem Nn.head {p : Int × Int} {r : List (Int × Int)} (h : Nn (p :: r)) : 0 ≤ p.2 := h p List.mem_cons_self
theorem Nn.take {l : List (Int × Int)} (h : Nn l) (k : Nat) : Nn (l.take k) := fun q hq => h q (List.mem_of_mem_take hq)
theorem mk_snoc : ∀ {l : List (Int × Int)} {p : Int × Int} {j : Int}, Nn l → 0 ≤ p.2 → (made (l ++ [p]) j = true ↔ ∃ k : Int, 0 ≤ k ∧ k ≤ p.2 ∧ made l (j - p.1 * k) = true)
  | [], p, j, _, hp => mk_cons hp
  | q :: l, p, j, h, hp => by
    rw [List.cons_append, mk_cons h.head]
    constructor
    · rintro ⟨k, h0, h1, e⟩
      obtain ⟨m, g0, g1, f⟩ := (mk_snoc h.tail hp).mp e
      refine ⟨m, g0, g1, (mk_cons h.head).mpr ⟨k, h0, h1, ?_⟩⟩
      rw [show j - p.1 * m - q.1 * k = j - q.1 * k - p.1 * m by omega]; exact f
    · rintro ⟨m, g0, g1, f⟩
      obtain ⟨k, h0, h1, e⟩ := (mk_cons h.head).mp f
      refine ⟨k, h0, h1, (mk_snoc h.tail hp).mpr ⟨m, g0, g1, ?_⟩⟩
      rw [show j - q.1 * k - p.1 * m = j - p.1 * m - q.1 * k by omega]; exact e
/-- without signs -/
def absP (l : List (Int × Int)) : List (Int × Int) := l.map fun p => ((p.1.natAbs : Int), p.2)
theorem absP_nn {l : List (Int × Int)} (h : Nn l) : Nn (absP l) := fun q hq => by
  obtain ⟨p, hp, rfl⟩ := List.mem_map.mp hq
  exact h p hp
theorem mk_abs : ∀ {l : List (Int × Int)} {j : Int}, Nn l → made (absP l) (j - lowP l) = made l j
  | [], j, _ => by show made [] (j - 0) = _; rw [Int.sub_zero]
  | p :: l, j, h => by
    rw [Bool.eq_iff_iff, show absP (p :: l) = ((p.1.natAbs : Int), p.2) :: absP l from rfl, mk_cons (p := ((p.1.natAbs : Int), p.2)) h.head, mk_cons h.head]
    simp only
    rw [lowP_cons]
    have ih : ∀ i, made (absP l) (i - lowP l) = made l i := fun i => mk_abs h.tail
    by_cases hc : p.1 < 0
    · rw [if_pos hc]
      have ha : (p.1.natAbs : Int) = -p.1 := by omega
      rw [ha]
      constructor
      · rintro ⟨k, h0, h1, e⟩
        refine ⟨p.2 - k, by omega, by omega, ?_⟩
        rw [← ih]
        rw [show j - (p.1 * p.2 + lowP l) - -p.1 * k = j - p.1 * (p.2 - k) - lowP l by rw [Int.mul_sub, Int.neg_mul]; omega] at e
        exact e
      · rintro ⟨k, h0, h1, e⟩
        refine ⟨p.2 - k, by omega, by omega, ?_⟩
        rw [← ih] at e
        rw [show j - (p.1 * p.2 + lowP l) - -p.1 * (p.2 - k) = j - p.1 * k - lowP l by rw [Int.mul_sub, Int.neg_mul, Int.neg_mul]; omega]
        exact e
    · rw [if_neg hc]
      have ha : (p.1.natAbs : Int) = p.1 := by omega
      rw [ha]
      constructor
      · rintro ⟨k, h0, h1, e⟩
        refine ⟨k, h0, h1, ?_⟩
        rw [← ih]
        rw [show j - (0 + lowP l) - p.1 * k = j - p.1 * k - lowP l by omega] at e
        exact e
      · rintro ⟨k, h0, h1, e⟩
        refine ⟨k, h0, h1, ?_⟩
        rw [← ih] at e
        rw [show j - (0 + lowP l) - p.1 * k = j - p.1 * k - lowP l by omega]
        exact e
/-- the sum of all absolute values with their bounds -/
def widP : List (Int × Int) → Int
  | [] => 0
  | p :: r => (p.1.natAbs : Int) * p.2 + widP r
theorem widP_cons {p : Int × Int} {r : List (Int × Int)} : widP (p :: r) = (p.1.natAbs : Int) * p.2 + widP r := rfl
theorem mul_le {a k b : Int} (ha : 0 ≤ a) (h : k ≤ b) : a * k ≤ a * b := Int.mul_le_mul_of_nonneg_left h ha
theorem mk_range : ∀ {l : List (Int × Int)} {j : Int}, Nn l → made (absP l) j = true → 0 ≤ j ∧ j ≤ widP l
  | [], j, _, h => by have := mk_nil.mp h; subst this; exact ⟨Int.le_refl _, Int.le_refl _⟩
  | p :: l, j, hn, h => by
    obtain ⟨k, h0, h1, e⟩ := (mk_cons (p := ((p.1.natAbs : Int), p.2)) hn.head).mp h
    simp only at h1 e
    obtain ⟨q0, q1⟩ := mk_range hn.tail e
    have a1 : 0 ≤ (p.1.natAbs : Int) * k := Int.mul_nonneg (by omega) h0
    have a2 : (p.1.natAbs : Int) * k ≤ (p.1.natAbs : Int) * p.2 := mul_le (by omega) h1
    rw [widP_cons]
    omega
theorem wid_low : ∀ {l : List (Int × Int)}, widP l = topP l - lowP l
  | [] => rfl
  | p :: l => by
    rw [widP_cons, topP_cons, lowP_cons, wid_low (l := l)]
    by_cases h : p.1 < 0
    · rw [if_neg (by omega), if_pos h, show (p.1.natAbs : Int) = -p.1 by omega, Int.neg_mul]; omega
    · by_cases h2 : 0 < p.1
      · rw [if_pos h2, if_neg h, show (p.1.natAbs : Int) = p.1 by omega]; omega
      · rw [if_neg h2, if_neg h, show p.1 = 0 by omega, show ((0 : Int).natAbs : Int) = 0 from rfl, Int.zero_mul]; omega
theorem wid_nn : ∀ {l : List (Int × Int)}, Nn l → 0 ≤ widP l
  | [], _ => Int.le_refl _
  | p :: l, h => by
    have := wid_nn h.tail
    have : 0 ≤ (p.1.natAbs : Int) * p.2 := Int.mul_nonneg (by omega) h.head
    rw [widP_cons]; omega
/-- sums lie between the least and the greatest one -/
theorem mk_ends {l : List (Int × Int)} {j : Int} (h : Nn l) (e : made l j = true) : lowP l ≤ j ∧ j ≤ topP l := by
  rw [← mk_abs h] at e
  have := mk_range h e
  have := wid_low (l := l)
  omega
/-- sums are multiples of each common divisor -/
theorem mk_dvd : ∀ {l : List (Int × Int)} {j g : Int}, Nn l → (∀ p ∈ l, g ∣ p.1) → made l j = true → g ∣ j
  | [], j, g, _, _, h => by rw [mk_nil.mp h]; exact Int.dvd_zero g
  | p :: l, j, g, hn, hg, h => by
    obtain ⟨k, _, _, e⟩ := (mk_cons hn.head).mp h
    have := mk_dvd hn.tail (fun q hq => hg q (List.mem_cons_of_mem _ hq)) e
    have h2 : g ∣ p.1 * k := Int.dvd_trans (hg p List.mem_cons_self) (Int.dvd_mul_right _ _)
    have := Int.dvd_add this h2
    rw [show j - p.1 * k + p.1 * k = j by omega] at this
    exact this
def isSum (cs bs : List Int) (x : Int) : Bool := made (cs.zip bs) x
theorem nn_zip {cs bs : List Int} (h : ∀ b ∈ bs, 0 ≤ b) : Nn (cs.zip bs) := fun p hp => h _ (List.of_mem_zip (show (p.1, p.2) ∈ cs.zip bs from hp)).2
/-! ### how many counters -/
def sumTo (f : Int → Int) : Nat → Int
  | 0 => f 0
  | n + 1 => sumTo f n + f ((n + 1 : Nat) : Int)
theorem sumTo_succ {f : Int → Int} {n : Nat} : sumTo f (n + 1) = sumTo f n + f ((n + 1 : Nat) : Int) := rfl
/-- how many counters of l make j -/
def cnt : List (Int × Int) → Int → Int
  | [], j => if j = 0 then 1 else 0
  | p :: r, j => sumTo (fun k => cnt r (j - p.1 * k)) p.2.toNat
theorem sumTo_congr {f g : Int → Int} : ∀ {n : Nat}, (∀ k : Nat, k ≤ n → f (k : Int) = g (k : Int)) → sumTo f n = sumTo g n
  | 0, h => h 0 (Nat.le_refl _)
  | n + 1, h => by
    rw [sumTo_succ, sumTo_succ, sumTo_congr fun k hk => h k (by omega), h (n + 1) (Nat.le_refl _)]
theorem sumTo_add {f g : Int → Int} : ∀ {n : Nat}, sumTo (fun k => f k + g k) n = sumTo f n + sumTo g n
  | 0 => rfl
  | n + 1 => by rw [sumTo_succ, sumTo_succ, sumTo_succ, sumTo_add]; omega
/-- from the other end -/
theorem sumTo_head {f : Int → Int} : ∀ {n : Nat}, sumTo f (n + 1) = f 0 + sumTo (fun k => f (k + 1)) n
  | 0 => rfl
  | n + 1 => by
    rw [show sumTo f (n + 1 + 1) = sumTo f (n + 1) + f ((n + 1 + 1 : Nat) : Int) from rfl, sumTo_head]
    rw [show sumTo (fun k => f (k + 1)) (n + 1) = sumTo (fun k => f (k + 1)) n + f (((n + 1 : Nat) : Int) + 1) from rfl]
    rw [show ((n + 1 + 1 : Nat) : Int) = ((n + 1 : Nat) : Int) + 1 by omega]; omega
theorem sumTo_rev {f : Int → Int} : ∀ {n : Nat}, sumTo (fun k => f ((n : Int) - k)) n = sumTo f n
  | 0 => rfl
  | n + 1 => by
    rw [sumTo_head]
    rw [show ((n + 1 : Nat) : Int) - 0 = ((n + 1 : Nat) : Int) by omega]
    rw [sumTo_congr (g := fun k => f ((n : Int) - k)) fun k _ => by congr 1; omega]
    rw [sumTo_rev (n := n)]
    rw [sumTo_succ]; omega
theorem sumTo_swap {f : Int → Int → Int} : ∀ {n m : Nat}, sumTo (fun k => sumTo (f k) m) n = sumTo (fun l => sumTo (fun k => f k l) n) m
  | 0, m => rfl
  | n + 1, m => by
    rw [show sumTo (fun k => sumTo (f k) m) (n + 1) = sumTo (fun k => sumTo (f k) m) n + sumTo (f ((n + 1 : Nat) : Int)) m from rfl, sumTo_swap, ← sumTo_add]
    rfl
theorem cnt_snoc : ∀ {l : List (Int × Int)} {p : Int × Int} {j : Int}, cnt (l ++ [p]) j = sumTo (fun k => cnt l (j - p.1 * k)) p.2.toNat
  | [], p, j => rfl
  | q :: l, p, j => by
    show sumTo (fun k => cnt (l ++ [p]) (j - q.1 * k)) q.2.toNat = sumTo (fun k => sumTo (fun m => cnt l (j - p.1 * k - q.1 * m)) q.2.toNat) p.2.toNat
    rw [sumTo_swap]
    refine sumTo_congr fun k _ => ?_
    rw [cnt_snoc]
    refine sumTo_congr fun m _ => ?_
    congr 1; omega
theorem cnt_abs : ∀ {l : List (Int × Int)} {j : Int}, Nn l → cnt (absP l) (j - lowP l) = cnt l j
  | [], j, _ => by show cnt [] (j - 0) = _; rw [Int.sub_zero]
  | p :: l, j, h => by
    show sumTo (fun k => cnt (absP l) (j - lowP (p :: l) - (p.1.natAbs : Int) * k)) p.2.toNat = sumTo (fun k => cnt l (j - p.1 * k)) p.2.toNat
    have ih : ∀ i, cnt (absP l) (i - lowP l) = cnt l i := fun i => cnt_abs h.tail
    have hp := h.head
    rw [lowP_cons]
    by_cases hc : p.1 < 0
    · rw [if_pos hc, show (p.1.natAbs : Int) = -p.1 by omega, ← sumTo_rev]
      refine sumTo_congr fun k hk => ?_
      rw [← ih]
      congr 1
      rw [Int.toNat_of_nonneg hp, Int.neg_mul, Int.mul_sub]; omega
    · rw [if_neg hc, show (p.1.natAbs : Int) = p.1 by omega]
      refine sumTo_congr fun k hk => ?_
      rw [← ih]
      congr 1; omega
theorem sumTo_nn {f : Int → Int} : ∀ {n : Nat}, (∀ k : Nat, k ≤ n → 0 ≤ f (k : Int)) → 0 ≤ sumTo f n
  | 0, h => h 0 (Nat.le_refl _)
  | n + 1, h => by
    have h1 := sumTo_nn fun k hk => h k (Nat.le_succ_of_le hk)
    have h2 := h (n + 1) (Nat.le_refl _)
    rw [sumTo_succ]; omega
theorem cnt_nn : ∀ {l : List (Int × Int)} {j : Int}, 0 ≤ cnt l j
  | [], j => by unfold cnt; split <;> omega
  | p :: l, j => sumTo_nn fun k _ => cnt_nn
theorem sumTo_pos {f : Int → Int} : ∀ {n : Nat}, (∀ k : Nat, k ≤ n → 0 ≤ f (k : Int)) → (0 < sumTo f n ↔ ∃ k : Nat, k ≤ n ∧ 0 < f (k : Int))
  | 0, h => ⟨fun q => ⟨0, Nat.le_refl _, q⟩, fun ⟨k, hk, q⟩ => by
      have : k = 0 := by omega
      subst this; exact q⟩
  | n + 1, h => by
    have ih := sumTo_pos (f := f) (n := n) fun k hk => h k (Nat.le_succ_of_le hk)
    have n1 := sumTo_nn (f := f) (n := n) fun k hk => h k (Nat.le_succ_of_le hk)
    have n2 := h (n + 1) (Nat.le_refl _)
    rw [sumTo_succ]
    constructor
    · intro q
      by_cases z : 0 < sumTo f n
      · obtain ⟨k, hk, q⟩ := ih.mp z; exact ⟨k, by omega, q⟩
      · exact ⟨n + 1, Nat.le_refl _, by omega⟩
    · rintro ⟨k, hk, q⟩
      by_cases z : k = n + 1
      · subst z; omega
      · have := ih.mpr ⟨k, by omega, q⟩; omega
/-- there are counters just for the sums -/
theorem cnt_pos : ∀ {l : List (Int × Int)} {j : Int}, Nn l → (0 < cnt l j ↔ made l j = true)
  | [], j, _ => by rw [mk_nil]; unfold cnt; split <;> omega
  | p :: l, j, h => by
    rw [mk_cons h.head]
    show 0 < sumTo (fun k => cnt l (j - p.1 * k)) p.2.toNat ↔ _
    rw [sumTo_pos (f := fun k => cnt l (j - p.1 * k)) fun k _ => cnt_nn]
    have hp := h.head
    constructor
    · rintro ⟨k, hk, q⟩
      exact ⟨k, by omega, by omega, (cnt_pos h.tail).mp q⟩
    · rintro ⟨k, h0, h1, q⟩
      refine ⟨k.toNat, by omega, ?_⟩
      rw [Int.toNat_of_nonneg h0]
      exact (cnt_pos h.tail).mpr q
def howMany (cs bs : List Int) (x : Int) : Int := cnt (cs.zip bs) x
/-! ### turned about, and made plain -/
theorem cnt_mir : ∀ {l : List (Int × Int)} {j : Int}, Nn l → cnt l (lowP l + topP l - j) = cnt l j
  | [], j, _ => by unfold cnt lowP topP; split <;> split <;> omega
  | p :: l, j, h => by
    show sumTo (fun k => cnt l (lowP (p :: l) + topP (p :: l) - j - p.1 * k)) p.2.toNat = sumTo (fun k => cnt l (j - p.1 * k)) p.2.toNat
    rw [← sumTo_rev]
    have hp := h.head
    refine sumTo_congr fun k hk => ?_
    rw [← cnt_mir h.tail (j := j - p.1 * k)]
    congr 1
    rw [Int.toNat_of_nonneg hp, Int.mul_sub, lowP_cons, topP_cons]
    by_cases hc : p.1 < 0
    · rw [if_pos hc, if_neg (show ¬ 0 < p.1 by omega)]; omega
    · by_cases hc2 : 0 < p.1
      · rw [if_neg hc, if_pos hc2]; omega
      · rw [if_neg hc, if_neg hc2, show p.1 = 0 by omega, Int.zero_mul, Int.zero_mul]; omega
theorem mk_eq_cnt {l m : List (Int × Int)} {i j : Int} (hl : Nn l) (hm : Nn m) (h : cnt l i = cnt m j) : made l i = made m j := by
  rw [Bool.eq_iff_iff, ← cnt_pos hl, ← cnt_pos hm, h]
theorem mk_mir {l : List (Int × Int)} {j : Int} (h : Nn l) : made l (lowP l + topP l - j) = made l j := mk_eq_cnt h h (cnt_mir h)
/-- all coefficients and the number times g -/
def mulP (g : Int) (l : List (Int × Int)) : List (Int × Int) := l.map fun p => (g * p.1, p.2)
theorem cnt_mul {g : Int} (hg : g ≠ 0) : ∀ {l : List (Int × Int)} {j : Int}, cnt (mulP g l) (g * j) = cnt l j
  | [], j => by
    show cnt [] (g * j) = _
    unfold cnt
    by_cases h : j = 0
    · rw [h, Int.mul_zero]
    · rw [if_neg h, if_neg (Int.mul_ne_zero hg h)]
  | p :: l, j => by
    show sumTo (fun k => cnt (mulP g l) (g * j - g * p.1 * k)) p.2.toNat = sumTo (fun k => cnt l (j - p.1 * k)) p.2.toNat
    refine sumTo_congr fun k _ => ?_
    rw [show g * j - g * p.1 * (k : Int) = g * (j - p.1 * (k : Int)) by rw [Int.mul_sub, Int.mul_assoc], cnt_mul hg]
end PX
set_option Elab.async false
set_option autoImplicit false
set_option maxRecDepth 100000
set_option maxHeartbeats 8100000
/-! PXX: what the defs of sums compute. -/
namespace PX
open PySem
abbrev Zs (t : Bool) (cs : List Int) : RV := .dat (sq t (cs.map .int))
section
variable {T : List FdD} {fu n i : Nat} {bx : Bx} {t u : Bool} {cs bs ks : List Int}
theorem sum_call (h : Is T i 2 4 B_sum_of) (hc : Sh cs) (hl : cs.length ≤ 1000000) : callN T fu (n + 1) i [Zs t cs, Zs u ks] bx = some (.dat (.int (sumZ cs ks)), bx) := by
  refine run_wp h rfl ?_
  simp only [B_sum_of, ent, ev_var, ev_con, ev_bin, ev_neg, ev_not, ev_cmp, ev_chain, ev_and, ev_or, ev_ite, ev_tup, ev_lst, ev_call, ev_callk, ev_bl, ev_len, ev_bits, ev_isi, ev_sub, ev_slc, ev_callb, ev_sset, ev_rev, rev_l, rev_o, ea_nil, ea_cons, ei_rng1, ei_rng2, ei_zip, ei_enum, ei_it, sq_skip, sq_seq, sq_asg, sq_tas, sq_par, sq_setix, sq_app, sq_ite, sq_ret, sq_retn, sq_pass, sq_cont, sq_brk, sq_aug_add, ex_skip, evP, setRs, evRet, pk, peek, rd, setAll, bindT, wipeE, unwipe, noOwn, condOf, isNo, RV.pd, RV.frz, canPut, entryE, List.length_cons, List.length_nil, List.map_cons, List.map_nil, List.cons_append, List.nil_append, List.append_nil, Nat.sub_self, Nat.reduceSub, Nat.reduceAdd, Nat.zero_add, List.replicate_succ, List.replicate_zero, List.getElem?_cons_zero, List.getElem?_cons_succ, List.set_cons_zero, List.set_cons_succ, List.getD_cons_zero, List.getD_cons_succ, mapM_pd_nil, mapM_pd_cons, permL_nil, permL_cons, Option.map_some, Option.map_none, Option.bind_some, Option.pure_def, Option.bind_eq_bind, Bool.false_eq_true, if_true, if_false, ite_true, ite_false, reduceIte, reduceCtorEq, cmp_lt, cmp_le, cmp_gt, cmp_ge, cmp_eq_i, cmp_ne_i, cmp_eq_b, cmp_ne_b, cmp_eq_s, cmp_ne_s, cmp_eq_nn, cmp_is, cmp_isnot, isNone_none, isNone_bool, isNone_int, isNone_str, isNone_list, isNone_tuple, bin_add, bin_sub, mulOk_n, mulOk_m, divOk_n, Nat.reduceLT, Int.reduceEq, Int.reduceNe, ne_eq, not_false_eq_true, decide_true, decide_false, bin_mul, bin_fdiv, bin_mod, bin_addl, bin_addt, bin_shl, bin_shr, bin_band, bin_bor, tru_b, tru_i, tru_l, tru_t, tru_o, tru_n, len_l, len_t, len_o, item_l, item_t, item_o, item_b0, item_b1, item_b2, at0, at1, at2, at3, at4, at5, atm1, blt_abs, blt_int, blt_intb, blt_tl, blt_tt, blt_ll, blt_lt, blt_sum, blt_all, blt_any, blt_min2, blt_max2, put_b0, put_b1, put_b2, szOk_0, szOk_1, szOk_n, Nat.reduceLeDiff, bin_mul2, bin_pow, Bool.not_true, Bool.not_false, wp_some, Nx_nx, Rt_rt, Option.toList_some, Option.toList_none, ev_lcR, lcR_nil, rangeD_map, zipW_map, enum_map, zip_tt, zip_tl, zip_lt, zip_ll, iter_t, iter_l, iter_o, lst_l, lst_o, seq_sq, iter_sq, len_sq, item_sq, list_sq, tuple_sq, zip_sq, pairD, step_no, stepC_eq, st_cmp, st_chain, st_and, st_or, st_not, st_isi, st_call, st_bl, st_var, setQ]
  rw [lcR_A (fun p : Int × Int => p.1 * p.2) .int (len_zip hl) fun p hp => by
    have m := mulOk_l (j := p.2) (hc.zip hp)
    simp only [ev_var, ev_con, ev_bin, ev_neg, ev_not, ev_cmp, ev_chain, ev_and, ev_or, ev_ite, ev_tup, ev_lst, ev_call, ev_callk, ev_bl, ev_len, ev_bits, ev_isi, ev_sub, ev_slc, ev_callb, ev_sset, ev_rev, rev_l, rev_o, ea_nil, ea_cons, ei_rng1, ei_rng2, ei_zip, ei_enum, ei_it, sq_skip, sq_seq, sq_asg, sq_tas, sq_par, sq_setix, sq_app, sq_ite, sq_ret, sq_retn, sq_pass, sq_cont, sq_brk, sq_aug_add, ex_skip, evP, setRs, evRet, pk, peek, rd, setAll, bindT, wipeE, unwipe, noOwn, condOf, isNo, RV.pd, RV.frz, canPut, entryE, List.length_cons, List.length_nil, List.map_cons, List.map_nil, List.cons_append, List.nil_append, List.append_nil, Nat.sub_self, Nat.reduceSub, Nat.reduceAdd, Nat.zero_add, List.replicate_succ, List.replicate_zero, List.getElem?_cons_zero, List.getElem?_cons_succ, List.set_cons_zero, List.set_cons_succ, List.getD_cons_zero, List.getD_cons_succ, mapM_pd_nil, mapM_pd_cons, permL_nil, permL_cons, Option.map_some, Option.map_none, Option.bind_some, Option.pure_def, Option.bind_eq_bind, Bool.false_eq_true, if_true, if_false, ite_true, ite_false, reduceIte, reduceCtorEq, cmp_lt, cmp_le, cmp_gt, cmp_ge, cmp_eq_i, cmp_ne_i, cmp_eq_b, cmp_ne_b, cmp_eq_s, cmp_ne_s, cmp_eq_nn, cmp_is, cmp_isnot, isNone_none, isNone_bool, isNone_int, isNone_str, isNone_list, isNone_tuple, bin_add, bin_sub, mulOk_n, mulOk_m, divOk_n, Nat.reduceLT, Int.reduceEq, Int.reduceNe, ne_eq, not_false_eq_true, decide_true, decide_false, bin_mul, bin_fdiv, bin_mod, bin_addl, bin_addt, bin_shl, bin_shr, bin_band, bin_bor, tru_b, tru_i, tru_l, tru_t, tru_o, tru_n, len_l, len_t, len_o, item_l, item_t, item_o, item_b0, item_b1, item_b2, at0, at1, at2, at3, at4, at5, atm1, blt_abs, blt_int, blt_intb, blt_tl, blt_tt, blt_ll, blt_lt, blt_sum, blt_all, blt_any, blt_min2, blt_max2, put_b0, put_b1, put_b2, szOk_0, szOk_1, szOk_n, Nat.reduceLeDiff, bin_mul2, bin_pow, Bool.not_true, Bool.not_false, wp_some, Nx_nx, Rt_rt, Option.toList_some, Option.toList_none, ev_lcR, lcR_nil, rangeD_map, zipW_map, enum_map, zip_tt, zip_tl, zip_lt, zip_ll, iter_t, iter_l, iter_o, lst_l, lst_o, seq_sq, iter_sq, len_sq, item_sq, list_sq, tuple_sq, zip_sq, pairD, step_no, stepC_eq, st_cmp, st_chain, st_and, st_or, st_not, st_isi, st_call, st_bl, st_var, setQ, m, and_self]]
  simp only [ev_var, ev_con, ev_bin, ev_neg, ev_not, ev_cmp, ev_chain, ev_and, ev_or, ev_ite, ev_tup, ev_lst, ev_call, ev_callk, ev_bl, ev_len, ev_bits, ev_isi, ev_sub, ev_slc, ev_callb, ev_sset, ev_rev, rev_l, rev_o, ea_nil, ea_cons, ei_rng1, ei_rng2, ei_zip, ei_enum, ei_it, sq_skip, sq_seq, sq_asg, sq_tas, sq_par, sq_setix, sq_app, sq_ite, sq_ret, sq_retn, sq_pass, sq_cont, sq_brk, sq_aug_add, ex_skip, evP, setRs, evRet, pk, peek, rd, setAll, bindT, wipeE, unwipe, noOwn, condOf, isNo, RV.pd, RV.frz, canPut, entryE, List.length_cons, List.length_nil, List.map_cons, List.map_nil, List.cons_append, List.nil_append, List.append_nil, Nat.sub_self, Nat.reduceSub, Nat.reduceAdd, Nat.zero_add, List.replicate_succ, List.replicate_zero, List.getElem?_cons_zero, List.getElem?_cons_succ, List.set_cons_zero, List.set_cons_succ, List.getD_cons_zero, List.getD_cons_succ, mapM_pd_nil, mapM_pd_cons, permL_nil, permL_cons, Option.map_some, Option.map_none, Option.bind_some, Option.pure_def, Option.bind_eq_bind, Bool.false_eq_true, if_true, if_false, ite_true, ite_false, reduceIte, reduceCtorEq, cmp_lt, cmp_le, cmp_gt, cmp_ge, cmp_eq_i, cmp_ne_i, cmp_eq_b, cmp_ne_b, cmp_eq_s, cmp_ne_s, cmp_eq_nn, cmp_is, cmp_isnot, isNone_none, isNone_bool, isNone_int, isNone_str, isNone_list, isNone_tuple, bin_add, bin_sub, mulOk_n, mulOk_m, divOk_n, Nat.reduceLT, Int.reduceEq, Int.reduceNe, ne_eq, not_false_eq_true, decide_true, decide_false, bin_mul, bin_fdiv, bin_mod, bin_addl, bin_addt, bin_shl, bin_shr, bin_band, bin_bor, tru_b, tru_i, tru_l, tru_t, tru_o, tru_n, len_l, len_t, len_o, item_l, item_t, item_o, item_b0, item_b1, item_b2, at0, at1, at2, at3, at4, at5, atm1, blt_abs, blt_int, blt_intb, blt_tl, blt_tt, blt_ll, blt_lt, blt_sum, blt_all, blt_any, blt_min2, blt_max2, put_b0, put_b1, put_b2, szOk_0, szOk_1, szOk_n, Nat.reduceLeDiff, bin_mul2, bin_pow, Bool.not_true, Bool.not_false, wp_some, Nx_nx, Rt_rt, Option.toList_some, Option.toList_none, ev_lcR, lcR_nil, rangeD_map, zipW_map, enum_map, zip_tt, zip_tl, zip_lt, zip_ll, iter_t, iter_l, iter_o, lst_l, lst_o, seq_sq, iter_sq, len_sq, item_sq, list_sq, tuple_sq, zip_sq, pairD, step_no, stepC_eq, st_cmp, st_chain, st_and, st_or, st_not, st_isi, st_call, st_bl, st_var, setQ, sumZ, and_self]
theorem low_call (h : Is T i 2 4 B_least_sum) (hc : Sh cs) (hl : cs.length ≤ 1000000) : callN T fu (n + 1) i [Zs t cs, Zs u bs] bx = some (.dat (.int (lowZ cs bs)), bx) := by
  refine run_wp h rfl ?_
  simp only [B_least_sum, ent, ev_var, ev_con, ev_bin, ev_neg, ev_not, ev_cmp, ev_chain, ev_and, ev_or, ev_ite, ev_tup, ev_lst, ev_call, ev_callk, ev_bl, ev_len, ev_bits, ev_isi, ev_sub, ev_slc, ev_callb, ev_sset, ev_rev, rev_l, rev_o, ea_nil, ea_cons, ei_rng1, ei_rng2, ei_zip, ei_enum, ei_it, sq_skip, sq_seq, sq_asg, sq_tas, sq_par, sq_setix, sq_app, sq_ite, sq_ret, sq_retn, sq_pass, sq_cont, sq_brk, sq_aug_add, ex_skip, evP, setRs, evRet, pk, peek, rd, setAll, bindT, wipeE, unwipe, noOwn, condOf, isNo, RV.pd, RV.frz, canPut, entryE, List.length_cons, List.length_nil, List.map_cons, List.map_nil, List.cons_append, List.nil_append, List.append_nil, Nat.sub_self, Nat.reduceSub, Nat.reduceAdd, Nat.zero_add, List.replicate_succ, List.replicate_zero, List.getElem?_cons_zero, List.getElem?_cons_succ, List.set_cons_zero, List.set_cons_succ, List.getD_cons_zero, List.getD_cons_succ, mapM_pd_nil, mapM_pd_cons, permL_nil, permL_cons, Option.map_some, Option.map_none, Option.bind_some, Option.pure_def, Option.bind_eq_bind, Bool.false_eq_true, if_true, if_false, ite_true, ite_false, reduceIte, reduceCtorEq, cmp_lt, cmp_le, cmp_gt, cmp_ge, cmp_eq_i, cmp_ne_i, cmp_eq_b, cmp_ne_b, cmp_eq_s, cmp_ne_s, cmp_eq_nn, cmp_is, cmp_isnot, isNone_none, isNone_bool, isNone_int, isNone_str, isNone_list, isNone_tuple, bin_add, bin_sub, mulOk_n, mulOk_m, divOk_n, Nat.reduceLT, Int.reduceEq, Int.reduceNe, ne_eq, not_false_eq_true, decide_true, decide_false, bin_mul, bin_fdiv, bin_mod, bin_addl, bin_addt, bin_shl, bin_shr, bin_band, bin_bor, tru_b, tru_i, tru_l, tru_t, tru_o, tru_n, len_l, len_t, len_o, item_l, item_t, item_o, item_b0, item_b1, item_b2, at0, at1, at2, at3, at4, at5, atm1, blt_abs, blt_int, blt_intb, blt_tl, blt_tt, blt_ll, blt_lt, blt_sum, blt_all, blt_any, blt_min2, blt_max2, put_b0, put_b1, put_b2, szOk_0, szOk_1, szOk_n, Nat.reduceLeDiff, bin_mul2, bin_pow, Bool.not_true, Bool.not_false, wp_some, Nx_nx, Rt_rt, Option.toList_some, Option.toList_none, ev_lcR, lcR_nil, rangeD_map, zipW_map, enum_map, zip_tt, zip_tl, zip_lt, zip_ll, iter_t, iter_l, iter_o, lst_l, lst_o, seq_sq, iter_sq, len_sq, item_sq, list_sq, tuple_sq, zip_sq, pairD, step_no, stepC_eq, st_cmp, st_chain, st_and, st_or, st_not, st_isi, st_call, st_bl, st_var, setQ]
  rw [lcR_Z (fun p : Int × Int => if p.1 < 0 then some (p.1 * p.2) else none) (len_zip hl) fun p hp => by
    have m := mulOk_l (j := p.2) (hc.zip hp)
    by_cases q : p.1 < 0
    · simp only [ev_var, ev_con, ev_bin, ev_neg, ev_not, ev_cmp, ev_chain, ev_and, ev_or, ev_ite, ev_tup, ev_lst, ev_call, ev_callk, ev_bl, ev_len, ev_bits, ev_isi, ev_sub, ev_slc, ev_callb, ev_sset, ev_rev, rev_l, rev_o, ea_nil, ea_cons, ei_rng1, ei_rng2, ei_zip, ei_enum, ei_it, sq_skip, sq_seq, sq_asg, sq_tas, sq_par, sq_setix, sq_app, sq_ite, sq_ret, sq_retn, sq_pass, sq_cont, sq_brk, sq_aug_add, ex_skip, evP, setRs, evRet, pk, peek, rd, setAll, bindT, wipeE, unwipe, noOwn, condOf, isNo, RV.pd, RV.frz, canPut, entryE, List.length_cons, List.length_nil, List.map_cons, List.map_nil, List.cons_append, List.nil_append, List.append_nil, Nat.sub_self, Nat.reduceSub, Nat.reduceAdd, Nat.zero_add, List.replicate_succ, List.replicate_zero, List.getElem?_cons_zero, List.getElem?_cons_succ, List.set_cons_zero, List.set_cons_succ, List.getD_cons_zero, List.getD_cons_succ, mapM_pd_nil, mapM_pd_cons, permL_nil, permL_cons, Option.map_some, Option.map_none, Option.bind_some, Option.pure_def, Option.bind_eq_bind, Bool.false_eq_true, if_true, if_false, ite_true, ite_false, reduceIte, reduceCtorEq, cmp_lt, cmp_le, cmp_gt, cmp_ge, cmp_eq_i, cmp_ne_i, cmp_eq_b, cmp_ne_b, cmp_eq_s, cmp_ne_s, cmp_eq_nn, cmp_is, cmp_isnot, isNone_none, isNone_bool, isNone_int, isNone_str, isNone_list, isNone_tuple, bin_add, bin_sub, mulOk_n, mulOk_m, divOk_n, Nat.reduceLT, Int.reduceEq, Int.reduceNe, ne_eq, not_false_eq_true, decide_true, decide_false, bin_mul, bin_fdiv, bin_mod, bin_addl, bin_addt, bin_shl, bin_shr, bin_band, bin_bor, tru_b, tru_i, tru_l, tru_t, tru_o, tru_n, len_l, len_t, len_o, item_l, item_t, item_o, item_b0, item_b1, item_b2, at0, at1, at2, at3, at4, at5, atm1, blt_abs, blt_int, blt_intb, blt_tl, blt_tt, blt_ll, blt_lt, blt_sum, blt_all, blt_any, blt_min2, blt_max2, put_b0, put_b1, put_b2, szOk_0, szOk_1, szOk_n, Nat.reduceLeDiff, bin_mul2, bin_pow, Bool.not_true, Bool.not_false, wp_some, Nx_nx, Rt_rt, Option.toList_some, Option.toList_none, ev_lcR, lcR_nil, rangeD_map, zipW_map, enum_map, zip_tt, zip_tl, zip_lt, zip_ll, iter_t, iter_l, iter_o, lst_l, lst_o, seq_sq, iter_sq, len_sq, item_sq, list_sq, tuple_sq, zip_sq, pairD, step_no, stepC_eq, st_cmp, st_chain, st_and, st_or, st_not, st_isi, st_call, st_bl, st_var, setQ, m, q, and_self]
    · simp only [ev_var, ev_con, ev_bin, ev_neg, ev_not, ev_cmp, ev_chain, ev_and, ev_or, ev_ite, ev_tup, ev_lst, ev_call, ev_callk, ev_bl, ev_len, ev_bits, ev_isi, ev_sub, ev_slc, ev_callb, ev_sset, ev_rev, rev_l, rev_o, ea_nil, ea_cons, ei_rng1, ei_rng2, ei_zip, ei_enum, ei_it, sq_skip, sq_seq, sq_asg, sq_tas, sq_par, sq_setix, sq_app, sq_ite, sq_ret, sq_retn, sq_pass, sq_cont, sq_brk, sq_aug_add, ex_skip, evP, setRs, evRet, pk, peek, rd, setAll, bindT, wipeE, unwipe, noOwn, condOf, isNo, RV.pd, RV.frz, canPut, entryE, List.length_cons, List.length_nil, List.map_cons, List.map_nil, List.cons_append, List.nil_append, List.append_nil, Nat.sub_self, Nat.reduceSub, Nat.reduceAdd, Nat.zero_add, List.replicate_succ, List.replicate_zero, List.getElem?_cons_zero, List.getElem?_cons_succ, List.set_cons_zero, List.set_cons_succ, List.getD_cons_zero, List.getD_cons_succ, mapM_pd_nil, mapM_pd_cons, permL_nil, permL_cons, Option.map_some, Option.map_none, Option.bind_some, Option.pure_def, Option.bind_eq_bind, Bool.false_eq_true, if_true, if_false, ite_true, ite_false, reduceIte, reduceCtorEq, cmp_lt, cmp_le, cmp_gt, cmp_ge, cmp_eq_i, cmp_ne_i, cmp_eq_b, cmp_ne_b, cmp_eq_s, cmp_ne_s, cmp_eq_nn, cmp_is, cmp_isnot, isNone_none, isNone_bool, isNone_int, isNone_str, isNone_list, isNone_tuple, bin_add, bin_sub, mulOk_n, mulOk_m, divOk_n, Nat.reduceLT, Int.reduceEq, Int.reduceNe, ne_eq, not_false_eq_true, decide_true, decide_false, bin_mul, bin_fdiv, bin_mod, bin_addl, bin_addt, bin_shl, bin_shr, bin_band, bin_bor, tru_b, tru_i, tru_l, tru_t, tru_o, tru_n, len_l, len_t, len_o, item_l, item_t, item_o, item_b0, item_b1, item_b2, at0, at1, at2, at3, at4, at5, atm1, blt_abs, blt_int, blt_intb, blt_tl, blt_tt, blt_ll, blt_lt, blt_sum, blt_all, blt_any, blt_min2, blt_max2, put_b0, put_b1, put_b2, szOk_0, szOk_1, szOk_n, Nat.reduceLeDiff, bin_mul2, bin_pow, Bool.not_true, Bool.not_false, wp_some, Nx_nx, Rt_rt, Option.toList_some, Option.toList_none, ev_lcR, lcR_nil, rangeD_map, zipW_map, enum_map, zip_tt, zip_tl, zip_lt, zip_ll, iter_t, iter_l, iter_o, lst_l, lst_o, seq_sq, iter_sq, len_sq, item_sq, list_sq, tuple_sq, zip_sq, pairD, step_no, stepC_eq, st_cmp, st_chain, st_and, st_or, st_not, st_isi, st_call, st_bl, st_var, setQ, m, q, and_self]]
  simp only [ev_var, ev_con, ev_bin, ev_neg, ev_not, ev_cmp, ev_chain, ev_and, ev_or, ev_ite, ev_tup, ev_lst, ev_call, ev_callk, ev_bl, ev_len, ev_bits, ev_isi, ev_sub, ev_slc, ev_callb, ev_sset, ev_rev, rev_l, rev_o, ea_nil, ea_cons, ei_rng1, ei_rng2, ei_zip, ei_enum, ei_it, sq_skip, sq_seq, sq_asg, sq_tas, sq_par, sq_setix, sq_app, sq_ite, sq_ret, sq_retn, sq_pass, sq_cont, sq_brk, sq_aug_add, ex_skip, evP, setRs, evRet, pk, peek, rd, setAll, bindT, wipeE, unwipe, noOwn, condOf, isNo, RV.pd, RV.frz, canPut, entryE, List.length_cons, List.length_nil, List.map_cons, List.map_nil, List.cons_append, List.nil_append, List.append_nil, Nat.sub_self, Nat.reduceSub, Nat.reduceAdd, Nat.zero_add, List.replicate_succ, List.replicate_zero, List.getElem?_cons_zero, List.getElem?_cons_succ, List.set_cons_zero, List.set_cons_succ, List.getD_cons_zero, List.getD_cons_succ, mapM_pd_nil, mapM_pd_cons, permL_nil, permL_cons, Option.map_some, Option.map_none, Option.bind_some, Option.pure_def, Option.bind_eq_bind, Bool.false_eq_true, if_true, if_false, ite_true, ite_false, reduceIte, reduceCtorEq, cmp_lt, cmp_le, cmp_gt, cmp_ge, cmp_eq_i, cmp_ne_i, cmp_eq_b, cmp_ne_b, cmp_eq_s, cmp_ne_s, cmp_eq_nn, cmp_is, cmp_isnot, isNone_none, isNone_bool, isNone_int, isNone_str, isNone_list, isNone_tuple, bin_add, bin_sub, mulOk_n, mulOk_m, divOk_n, Nat.reduceLT, Int.reduceEq, Int.reduceNe, ne_eq, not_false_eq_true, decide_true, decide_false, bin_mul, bin_fdiv, bin_mod, bin_addl, bin_addt, bin_shl, bin_shr, bin_band, bin_bor, tru_b, tru_i, tru_l, tru_t, tru_o, tru_n, len_l, len_t, len_o, item_l, item_t, item_o, item_b0, item_b1, item_b2, at0, at1, at2, at3, at4, at5, atm1, blt_abs, blt_int, blt_intb, blt_tl, blt_tt, blt_ll, blt_lt, blt_sum, blt_all, blt_any, blt_min2, blt_max2, put_b0, put_b1, put_b2, szOk_0, szOk_1, szOk_n, Nat.reduceLeDiff, bin_mul2, bin_pow, Bool.not_true, Bool.not_false, wp_some, Nx_nx, Rt_rt, Option.toList_some, Option.toList_none, ev_lcR, lcR_nil, rangeD_map, zipW_map, enum_map, zip_tt, zip_tl, zip_lt, zip_ll, iter_t, iter_l, iter_o, lst_l, lst_o, seq_sq, iter_sq, len_sq, item_sq, list_sq, tuple_sq, zip_sq, pairD, step_no, stepC_eq, st_cmp, st_chain, st_and, st_or, st_not, st_isi, st_call, st_bl, st_var, setQ, low_fm, lowZ, and_self]
theorem top_call (h : Is T i 2 4 B_greatest_sum) (hc : Sh cs) (hl : cs.length ≤ 1000000) : callN T fu (n + 1) i [Zs t cs, Zs u bs] bx = some (.dat (.int (topZ cs bs)), bx) := by
  refine run_wp h rfl ?_
  simp only [B_greatest_sum, ent, ev_var, ev_con, ev_bin, ev_neg, ev_not, ev_cmp, ev_chain, ev_and, ev_or, ev_ite, ev_tup, ev_lst, ev_call, ev_callk, ev_bl, ev_len, ev_bits, ev_isi, ev_sub, ev_slc, ev_callb, ev_sset, ev_rev, rev_l, rev_o, ea_nil, ea_cons, ei_rng1, ei_rng2, ei_zip, ei_enum, ei_it, sq_skip, sq_seq, sq_asg, sq_tas, sq_par, sq_setix, sq_app, sq_ite, sq_ret, sq_retn, sq_pass, sq_cont, sq_brk, sq_aug_add, ex_skip, evP, setRs, evRet, pk, peek, rd, setAll, bindT, wipeE, unwipe, noOwn, condOf, isNo, RV.pd, RV.frz, canPut, entryE, List.length_cons, List.length_nil, List.map_cons, List.map_nil, List.cons_append, List.nil_append, List.append_nil, Nat.sub_self, Nat.reduceSub, Nat.reduceAdd, Nat.zero_add, List.replicate_succ, List.replicate_zero, List.getElem?_cons_zero, List.getElem?_cons_succ, List.set_cons_zero, List.set_cons_succ, List.getD_cons_zero, List.getD_cons_succ, mapM_pd_nil, mapM_pd_cons, permL_nil, permL_cons, Option.map_some, Option.map_none, Option.bind_some, Option.pure_def, Option.bind_eq_bind, Bool.false_eq_true, if_true, if_false, ite_true, ite_false, reduceIte, reduceCtorEq, cmp_lt, cmp_le, cmp_gt, cmp_ge, cmp_eq_i, cmp_ne_i, cmp_eq_b, cmp_ne_b, cmp_eq_s, cmp_ne_s, cmp_eq_nn, cmp_is, cmp_isnot, isNone_none, isNone_bool, isNone_int, isNone_str, isNone_list, isNone_tuple, bin_add, bin_sub, mulOk_n, mulOk_m, divOk_n, Nat.reduceLT, Int.reduceEq, Int.reduceNe, ne_eq, not_false_eq_true, decide_true, decide_false, bin_mul, bin_fdiv, bin_mod, bin_addl, bin_addt, bin_shl, bin_shr, bin_band, bin_bor, tru_b, tru_i, tru_l, tru_t, tru_o, tru_n, len_l, len_t, len_o, item_l, item_t, item_o, item_b0, item_b1, item_b2, at0, at1, at2, at3, at4, at5, atm1, blt_abs, blt_int, blt_intb, blt_tl, blt_tt, blt_ll, blt_lt, blt_sum, blt_all, blt_any, blt_min2, blt_max2, put_b0, put_b1, put_b2, szOk_0, szOk_1, szOk_n, Nat.reduceLeDiff, bin_mul2, bin_pow, Bool.not_true, Bool.not_false, wp_some, Nx_nx, Rt_rt, Option.toList_some, Option.toList_none, ev_lcR, lcR_nil, rangeD_map, zipW_map, enum_map, zip_tt, zip_tl, zip_lt, zip_ll, iter_t, iter_l, iter_o, lst_l, lst_o, seq_sq, iter_sq, len_sq, item_sq, list_sq, tuple_sq, zip_sq, pairD, step_no, stepC_eq, st_cmp, st_chain, st_and, st_or, st_not, st_isi, st_call, st_bl, st_var, setQ]
  rw [lcR_Z (fun p : Int × Int => if 0 < p.1 then some (p.1 * p.2) else none) (len_zip hl) fun p hp => by
    have m := mulOk_l (j := p.2) (hc.zip hp)
    by_cases q : 0 < p.1
    · simp only [ev_var, ev_con, ev_bin, ev_neg, ev_not, ev_cmp, ev_chain, ev_and, ev_or, ev_ite, ev_tup, ev_lst, ev_call, ev_callk, ev_bl, ev_len, ev_bits, ev_isi, ev_sub, ev_slc, ev_callb, ev_sset, ev_rev, rev_l, rev_o, ea_nil, ea_cons, ei_rng1, ei_rng2, ei_zip, ei_enum, ei_it, sq_skip, sq_seq, sq_asg, sq_tas, sq_par, sq_setix, sq_app, sq_ite, sq_ret, sq_retn, sq_pass, sq_cont, sq_brk, sq_aug_add, ex_skip, evP, setRs, evRet, pk, peek, rd, setAll, bindT, wipeE, unwipe, noOwn, condOf, isNo, RV.pd, RV.frz, canPut, entryE, List.length_cons, List.length_nil, List.map_cons, List.map_nil, List.cons_append, List.nil_append, List.append_nil, Nat.sub_self, Nat.reduceSub, Nat.reduceAdd, Nat.zero_add, List.replicate_succ, List.replicate_zero, List.getElem?_cons_zero, List.getElem?_cons_succ, List.set_cons_zero, List.set_cons_succ, List.getD_cons_zero, List.getD_cons_succ, mapM_pd_nil, mapM_pd_cons, permL_nil, permL_cons, Option.map_some, Option.map_none, Option.bind_some, Option.pure_def, Option.bind_eq_bind, Bool.false_eq_true, if_true, if_false, ite_true, ite_false, reduceIte, reduceCtorEq, cmp_lt, cmp_le, cmp_gt, cmp_ge, cmp_eq_i, cmp_ne_i, cmp_eq_b, cmp_ne_b, cmp_eq_s, cmp_ne_s, cmp_eq_nn, cmp_is, cmp_isnot, isNone_none, isNone_bool, isNone_int, isNone_str, isNone_list, isNone_tuple, bin_add, bin_sub, mulOk_n, mulOk_m, divOk_n, Nat.reduceLT, Int.reduceEq, Int.reduceNe, ne_eq, not_false_eq_true, decide_true, decide_false, bin_mul, bin_fdiv, bin_mod, bin_addl, bin_addt, bin_shl, bin_shr, bin_band, bin_bor, tru_b, tru_i, tru_l, tru_t, tru_o, tru_n, len_l, len_t, len_o, item_l, item_t, item_o, item_b0, item_b1, item_b2, at0, at1, at2, at3, at4, at5, atm1, blt_abs, blt_int, blt_intb, blt_tl, blt_tt, blt_ll, blt_lt, blt_sum, blt_all, blt_any, blt_min2, blt_max2, put_b0, put_b1, put_b2, szOk_0, szOk_1, szOk_n, Nat.reduceLeDiff, bin_mul2, bin_pow, Bool.not_true, Bool.not_false, wp_some, Nx_nx, Rt_rt, Option.toList_some, Option.toList_none, ev_lcR, lcR_nil, rangeD_map, zipW_map, enum_map, zip_tt, zip_tl, zip_lt, zip_ll, iter_t, iter_l, iter_o, lst_l, lst_o, seq_sq, iter_sq, len_sq, item_sq, list_sq, tuple_sq, zip_sq, pairD, step_no, stepC_eq, st_cmp, st_chain, st_and, st_or, st_not, st_isi, st_call, st_bl, st_var, setQ, m, q, and_self]
    · simp only [ev_var, ev_con, ev_bin, ev_neg, ev_not, ev_cmp, ev_chain, ev_and, ev_or, ev_ite, ev_tup, ev_lst, ev_call, ev_callk, ev_bl, ev_len, ev_bits, ev_isi, ev_sub, ev_slc, ev_callb, ev_sset, ev_rev, rev_l, rev_o, ea_nil, ea_cons, ei_rng1, ei_rng2, ei_zip, ei_enum, ei_it, sq_skip, sq_seq, sq_asg, sq_tas, sq_par, sq_setix, sq_app, sq_ite, sq_ret, sq_retn, sq_pass, sq_cont, sq_brk, sq_aug_add, ex_skip, evP, setRs, evRet, pk, peek, rd, setAll, bindT, wipeE, unwipe, noOwn, condOf, isNo, RV.pd, RV.frz, canPut, entryE, List.length_cons, List.length_nil, List.map_cons, List.map_nil, List.cons_append, List.nil_append, List.append_nil, Nat.sub_self, Nat.reduceSub, Nat.reduceAdd, Nat.zero_add, List.replicate_succ, List.replicate_zero, List.getElem?_cons_zero, List.getElem?_cons_succ, List.set_cons_zero, List.set_cons_succ, List.getD_cons_zero, List.getD_cons_succ, mapM_pd_nil, mapM_pd_cons, permL_nil, permL_cons, Option.map_some, Option.map_none, Option.bind_some, Option.pure_def, Option.bind_eq_bind, Bool.false_eq_true, if_true, if_false, ite_true, ite_false, reduceIte, reduceCtorEq, cmp_lt, cmp_le, cmp_gt, cmp_ge, cmp_eq_i, cmp_ne_i, cmp_eq_b, cmp_ne_b, cmp_eq_s, cmp_ne_s, cmp_eq_nn, cmp_is, cmp_isnot, isNone_none, isNone_bool, isNone_int, isNone_str, isNone_list, isNone_tuple, bin_add, bin_sub, mulOk_n, mulOk_m, divOk_n, Nat.reduceLT, Int.reduceEq, Int.reduceNe, ne_eq, not_false_eq_true, decide_true, decide_false, bin_mul, bin_fdiv, bin_mod, bin_addl, bin_addt, bin_shl, bin_shr, bin_band, bin_bor, tru_b, tru_i, tru_l, tru_t, tru_o, tru_n, len_l, len_t, len_o, item_l, item_t, item_o, item_b0, item_b1, item_b2, at0, at1, at2, at3, at4, at5, atm1, blt_abs, blt_int, blt_intb, blt_tl, blt_tt, blt_ll, blt_lt, blt_sum, blt_all, blt_any, blt_min2, blt_max2, put_b0, put_b1, put_b2, szOk_0, szOk_1, szOk_n, Nat.reduceLeDiff, bin_mul2, bin_pow, Bool.not_true, Bool.not_false, wp_some, Nx_nx, Rt_rt, Option.toList_some, Option.toList_none, ev_lcR, lcR_nil, rangeD_map, zipW_map, enum_map, zip_tt, zip_tl, zip_lt, zip_ll, iter_t, iter_l, iter_o, lst_l, lst_o, seq_sq, iter_sq, len_sq, item_sq, list_sq, tuple_sq, zip_sq, pairD, step_no, stepC_eq, st_cmp, st_chain, st_and, st_or, st_not, st_isi, st_call, st_bl, st_var, setQ, m, q, and_self]]
  simp only [ev_var, ev_con, ev_bin, ev_neg, ev_not, ev_cmp, ev_chain, ev_and, ev_or, ev_ite, ev_tup, ev_lst, ev_call, ev_callk, ev_bl, ev_len, ev_bits, ev_isi, ev_sub, ev_slc, ev_callb, ev_sset, ev_rev, rev_l, rev_o, ea_nil, ea_cons, ei_rng1, ei_rng2, ei_zip, ei_enum, ei_it, sq_skip, sq_seq, sq_asg, sq_tas, sq_par, sq_setix, sq_app, sq_ite, sq_ret, sq_retn, sq_pass, sq_cont, sq_brk, sq_aug_add, ex_skip, evP, setRs, evRet, pk, peek, rd, setAll, bindT, wipeE, unwipe, noOwn, condOf, isNo, RV.pd, RV.frz, canPut, entryE, List.length_cons, List.length_nil, List.map_cons, List.map_nil, List.cons_append, List.nil_append, List.append_nil, Nat.sub_self, Nat.reduceSub, Nat.reduceAdd, Nat.zero_add, List.replicate_succ, List.replicate_zero, List.getElem?_cons_zero, List.getElem?_cons_succ, List.set_cons_zero, List.set_cons_succ, List.getD_cons_zero, List.getD_cons_succ, mapM_pd_nil, mapM_pd_cons, permL_nil, permL_cons, Option.map_some, Option.map_none, Option.bind_some, Option.pure_def, Option.bind_eq_bind, Bool.false_eq_true, if_true, if_false, ite_true, ite_false, reduceIte, reduceCtorEq, cmp_lt, cmp_le, cmp_gt, cmp_ge, cmp_eq_i, cmp_ne_i, cmp_eq_b, cmp_ne_b, cmp_eq_s, cmp_ne_s, cmp_eq_nn, cmp_is, cmp_isnot, isNone_none, isNone_bool, isNone_int, isNone_str, isNone_list, isNone_tuple, bin_add, bin_sub, mulOk_n, mulOk_m, divOk_n, Nat.reduceLT, Int.reduceEq, Int.reduceNe, ne_eq, not_false_eq_true, decide_true, decide_false, bin_mul, bin_fdiv, bin_mod, bin_addl, bin_addt, bin_shl, bin_shr, bin_band, bin_bor, tru_b, tru_i, tru_l, tru_t, tru_o, tru_n, len_l, len_t, len_o, item_l, item_t, item_o, item_b0, item_b1, item_b2, at0, at1, at2, at3, at4, at5, atm1, blt_abs, blt_int, blt_intb, blt_tl, blt_tt, blt_ll, blt_lt, blt_sum, blt_all, blt_any, blt_min2, blt_max2, put_b0, put_b1, put_b2, szOk_0, szOk_1, szOk_n, Nat.reduceLeDiff, bin_mul2, bin_pow, Bool.not_true, Bool.not_false, wp_some, Nx_nx, Rt_rt, Option.toList_some, Option.toList_none, ev_lcR, lcR_nil, rangeD_map, zipW_map, enum_map, zip_tt, zip_tl, zip_lt, zip_ll, iter_t, iter_l, iter_o, lst_l, lst_o, seq_sq, iter_sq, len_sq, item_sq, list_sq, tuple_sq, zip_sq, pairD, step_no, stepC_eq, st_cmp, st_chain, st_and, st_or, st_not, st_isi, st_call, st_bl, st_var, setQ, top_fm, topZ, and_self]
theorem div_call {one x : Int} (h : Is T i 2 2 B_divides) : callN T fu (n + 1) i [.dat (.int one), .dat (.int x)] bx = some (.dat (.bool (divZ one x)), bx) := by
  refine run_wp h rfl ?_
  by_cases q : one = 0
  · simp only [B_divides, ent, ev_var, ev_con, ev_bin, ev_neg, ev_not, ev_cmp, ev_chain, ev_and, ev_or, ev_ite, ev_tup, ev_lst, ev_call, ev_callk, ev_bl, ev_len, ev_bits, ev_isi, ev_sub, ev_slc, ev_callb, ev_sset, ev_rev, rev_l, rev_o, ea_nil, ea_cons, ei_rng1, ei_rng2, ei_zip, ei_enum, ei_it, sq_skip, sq_seq, sq_asg, sq_tas, sq_par, sq_setix, sq_app, sq_ite, sq_ret, sq_retn, sq_pass, sq_cont, sq_brk, sq_aug_add, ex_skip, evP, setRs, evRet, pk, peek, rd, setAll, bindT, wipeE, unwipe, noOwn, condOf, isNo, RV.pd, RV.frz, canPut, entryE, List.length_cons, List.length_nil, List.map_cons, List.map_nil, List.cons_append, List.nil_append, List.append_nil, Nat.sub_self, Nat.reduceSub, Nat.reduceAdd, Nat.zero_add, List.replicate_succ, List.replicate_zero, List.getElem?_cons_zero, List.getElem?_cons_succ, List.set_cons_zero, List.set_cons_succ, List.getD_cons_zero, List.getD_cons_succ, mapM_pd_nil, mapM_pd_cons, permL_nil, permL_cons, Option.map_some, Option.map_none, Option.bind_some, Option.pure_def, Option.bind_eq_bind, Bool.false_eq_true, if_true, if_false, ite_true, ite_false, reduceIte, reduceCtorEq, cmp_lt, cmp_le, cmp_gt, cmp_ge, cmp_eq_i, cmp_ne_i, cmp_eq_b, cmp_ne_b, cmp_eq_s, cmp_ne_s, cmp_eq_nn, cmp_is, cmp_isnot, isNone_none, isNone_bool, isNone_int, isNone_str, isNone_list, isNone_tuple, bin_add, bin_sub, mulOk_n, mulOk_m, divOk_n, Nat.reduceLT, Int.reduceEq, Int.reduceNe, ne_eq, not_false_eq_true, decide_true, decide_false, bin_mul, bin_fdiv, bin_mod, bin_addl, bin_addt, bin_shl, bin_shr, bin_band, bin_bor, tru_b, tru_i, tru_l, tru_t, tru_o, tru_n, len_l, len_t, len_o, item_l, item_t, item_o, item_b0, item_b1, item_b2, at0, at1, at2, at3, at4, at5, atm1, blt_abs, blt_int, blt_intb, blt_tl, blt_tt, blt_ll, blt_lt, blt_sum, blt_all, blt_any, blt_min2, blt_max2, put_b0, put_b1, put_b2, szOk_0, szOk_1, szOk_n, Nat.reduceLeDiff, bin_mul2, bin_pow, Bool.not_true, Bool.not_false, wp_some, Nx_nx, Rt_rt, Option.toList_some, Option.toList_none, ev_lcR, lcR_nil, rangeD_map, zipW_map, enum_map, zip_tt, zip_tl, zip_lt, zip_ll, iter_t, iter_l, iter_o, lst_l, lst_o, seq_sq, iter_sq, len_sq, item_sq, list_sq, tuple_sq, zip_sq, pairD, step_no, stepC_eq, st_cmp, st_chain, st_and, st_or, st_not, st_isi, st_call, st_bl, st_var, setQ, q, divZ, and_self]
  · simp only [B_divides, ent, ev_var, ev_con, ev_bin, ev_neg, ev_not, ev_cmp, ev_chain, ev_and, ev_or, ev_ite, ev_tup, ev_lst, ev_call, ev_callk, ev_bl, ev_len, ev_bits, ev_isi, ev_sub, ev_slc, ev_callb, ev_sset, ev_rev, rev_l, rev_o, ea_nil, ea_cons, ei_rng1, ei_rng2, ei_zip, ei_enum, ei_it, sq_skip, sq_seq, sq_asg, sq_tas, sq_par, sq_setix, sq_app, sq_ite, sq_ret, sq_retn, sq_pass, sq_cont, sq_brk, sq_aug_add, ex_skip, evP, setRs, evRet, pk, peek, rd, setAll, bindT, wipeE, unwipe, noOwn, condOf, isNo, RV.pd, RV.frz, canPut, entryE, List.length_cons, List.length_nil, List.map_cons, List.map_nil, List.cons_append, List.nil_append, List.append_nil, Nat.sub_self, Nat.reduceSub, Nat.reduceAdd, Nat.zero_add, List.replicate_succ, List.replicate_zero, List.getElem?_cons_zero, List.getElem?_cons_succ, List.set_cons_zero, List.set_cons_succ, List.getD_cons_zero, List.getD_cons_succ, mapM_pd_nil, mapM_pd_cons, permL_nil, permL_cons, Option.map_some, Option.map_none, Option.bind_some, Option.pure_def, Option.bind_eq_bind, Bool.false_eq_true, if_true, if_false, ite_true, ite_false, reduceIte, reduceCtorEq, cmp_lt, cmp_le, cmp_gt, cmp_ge, cmp_eq_i, cmp_ne_i, cmp_eq_b, cmp_ne_b, cmp_eq_s, cmp_ne_s, cmp_eq_nn, cmp_is, cmp_isnot, isNone_none, isNone_bool, isNone_int, isNone_str, isNone_list, isNone_tuple, bin_add, bin_sub, mulOk_n, mulOk_m, divOk_n, Nat.reduceLT, Int.reduceEq, Int.reduceNe, ne_eq, not_false_eq_true, decide_true, decide_false, bin_mul, bin_fdiv, bin_mod, bin_addl, bin_addt, bin_shl, bin_shr, bin_band, bin_bor, tru_b, tru_i, tru_l, tru_t, tru_o, tru_n, len_l, len_t, len_o, item_l, item_t, item_o, item_b0, item_b1, item_b2, at0, at1, at2, at3, at4, at5, atm1, blt_abs, blt_int, blt_intb, blt_tl, blt_tt, blt_ll, blt_lt, blt_sum, blt_all, blt_any, blt_min2, blt_max2, put_b0, put_b1, put_b2, szOk_0, szOk_1, szOk_n, Nat.reduceLeDiff, bin_mul2, bin_pow, Bool.not_true, Bool.not_false, wp_some, Nx_nx, Rt_rt, Option.toList_some, Option.toList_none, ev_lcR, lcR_nil, rangeD_map, zipW_map, enum_map, zip_tt, zip_tl, zip_lt, zip_ll, iter_t, iter_l, iter_o, lst_l, lst_o, seq_sq, iter_sq, len_sq, item_sq, list_sq, tuple_sq, zip_sq, pairD, step_no, stepC_eq, st_cmp, st_chain, st_and, st_or, st_not, st_isi, st_call, st_bl, st_var, setQ, q, divZ, and_self]
/-! ### the step -/
abbrev wC : E := .cmp .gt (.var 3) (.con (.int 0))
abbrev wB : S := .seq (.par [1, 3] [(.var 3), (.bin .mod (.var 1) (.var 3))]) .skip
theorem wh_zero {cal : Cal} {m : Nat} {x e : Sl} {a : Int} : whL (evE cal wC) (exS cal fu wB) (m + 1) ⟨[x, some (.dat (.int a)), e, some (.dat (.int 0))], bx⟩ = some (.nx ⟨[x, some (.dat (.int a)), e, some (.dat (.int 0))], bx⟩) := by
  unfold whL
  simp only [ev_var, ev_con, ev_bin, ev_neg, ev_not, ev_cmp, ev_chain, ev_and, ev_or, ev_ite, ev_tup, ev_lst, ev_call, ev_callk, ev_bl, ev_len, ev_bits, ev_isi, ev_sub, ev_slc, ev_callb, ev_sset, ev_rev, rev_l, rev_o, ea_nil, ea_cons, ei_rng1, ei_rng2, ei_zip, ei_enum, ei_it, ex_asg, ex_tas, ex_par, ex_setix, ex_app, ex_ite, ex_skip, ex_seq, ex_ret, ex_retn, ex_pass, ex_cont, ex_brk, evP, setRs, evRet, pk, peek, rd, setAll, bindT, wipeE, unwipe, noOwn, condOf, isNo, RV.pd, RV.frz, canPut, entryE, List.length_cons, List.length_nil, List.map_cons, List.map_nil, List.cons_append, List.nil_append, List.append_nil, Nat.sub_self, Nat.reduceSub, Nat.reduceAdd, Nat.zero_add, List.replicate_succ, List.replicate_zero, List.getElem?_cons_zero, List.getElem?_cons_succ, List.set_cons_zero, List.set_cons_succ, List.getD_cons_zero, List.getD_cons_succ, mapM_pd_nil, mapM_pd_cons, permL_nil, permL_cons, Option.map_some, Option.map_none, Option.bind_some, Option.pure_def, Option.bind_eq_bind, Bool.false_eq_true, if_true, if_false, ite_true, ite_false, reduceIte, reduceCtorEq, cmp_lt, cmp_le, cmp_gt, cmp_ge, cmp_eq_i, cmp_ne_i, cmp_eq_b, cmp_ne_b, cmp_eq_s, cmp_ne_s, cmp_eq_nn, cmp_is, cmp_isnot, isNone_none, isNone_bool, isNone_int, isNone_str, isNone_list, isNone_tuple, bin_add, bin_sub, mulOk_n, mulOk_m, divOk_n, Nat.reduceLT, Int.reduceEq, Int.reduceNe, ne_eq, not_false_eq_true, decide_true, decide_false, bin_mul, bin_fdiv, bin_mod, bin_addl, bin_addt, bin_shl, bin_shr, bin_band, bin_bor, tru_b, tru_i, tru_l, tru_t, tru_o, tru_n, len_l, len_t, len_o, item_l, item_t, item_o, item_b0, item_b1, item_b2, at0, at1, at2, at3, at4, at5, atm1, blt_abs, blt_int, blt_intb, blt_tl, blt_tt, blt_ll, blt_lt, blt_sum, blt_all, blt_any, blt_min2, blt_max2, put_b0, put_b1, put_b2, szOk_0, szOk_1, szOk_n, Nat.reduceLeDiff, bin_mul2, bin_pow, Bool.not_true, Bool.not_false, wp_some, Nx_nx, Rt_rt, Option.toList_some, Option.toList_none, Int.lt_irrefl]
theorem wh_step {cal : Cal} {m : Nat} {x e : Sl} {a b : Int} (h : 0 < b) : whL (evE cal wC) (exS cal fu wB) (m + 1) ⟨[x, some (.dat (.int a)), e, some (.dat (.int b))], bx⟩ = whL (evE cal wC) (exS cal fu wB) m ⟨[x, some (.dat (.int b)), e, some (.dat (.int (a.fmod b)))], bx⟩ := by
  have hb : b ≠ 0 := by omega
  conv => lhs; unfold whL
  simp only [ev_var, ev_con, ev_bin, ev_neg, ev_not, ev_cmp, ev_chain, ev_and, ev_or, ev_ite, ev_tup, ev_lst, ev_call, ev_callk, ev_bl, ev_len, ev_bits, ev_isi, ev_sub, ev_slc, ev_callb, ev_sset, ev_rev, rev_l, rev_o, ea_nil, ea_cons, ei_rng1, ei_rng2, ei_zip, ei_enum, ei_it, ex_asg, ex_tas, ex_par, ex_setix, ex_app, ex_ite, ex_skip, ex_seq, ex_ret, ex_retn, ex_pass, ex_cont, ex_brk, evP, setRs, evRet, pk, peek, rd, setAll, bindT, wipeE, unwipe, noOwn, condOf, isNo, RV.pd, RV.frz, canPut, entryE, List.length_cons, List.length_nil, List.map_cons, List.map_nil, List.cons_append, List.nil_append, List.append_nil, Nat.sub_self, Nat.reduceSub, Nat.reduceAdd, Nat.zero_add, List.replicate_succ, List.replicate_zero, List.getElem?_cons_zero, List.getElem?_cons_succ, List.set_cons_zero, List.set_cons_succ, List.getD_cons_zero, List.getD_cons_succ, mapM_pd_nil, mapM_pd_cons, permL_nil, permL_cons, Option.map_some, Option.map_none, Option.bind_some, Option.pure_def, Option.bind_eq_bind, Bool.false_eq_true, if_true, if_false, ite_true, ite_false, reduceIte, reduceCtorEq, cmp_lt, cmp_le, cmp_gt, cmp_ge, cmp_eq_i, cmp_ne_i, cmp_eq_b, cmp_ne_b, cmp_eq_s, cmp_ne_s, cmp_eq_nn, cmp_is, cmp_isnot, isNone_none, isNone_bool, isNone_int, isNone_str, isNone_list, isNone_tuple, bin_add, bin_sub, mulOk_n, mulOk_m, divOk_n, Nat.reduceLT, Int.reduceEq, Int.reduceNe, ne_eq, not_false_eq_true, decide_true, decide_false, bin_mul, bin_fdiv, bin_mod, bin_addl, bin_addt, bin_shl, bin_shr, bin_band, bin_bor, tru_b, tru_i, tru_l, tru_t, tru_o, tru_n, len_l, len_t, len_o, item_l, item_t, item_o, item_b0, item_b1, item_b2, at0, at1, at2, at3, at4, at5, atm1, blt_abs, blt_int, blt_intb, blt_tl, blt_tt, blt_ll, blt_lt, blt_sum, blt_all, blt_any, blt_min2, blt_max2, put_b0, put_b1, put_b2, szOk_0, szOk_1, szOk_n, Nat.reduceLeDiff, bin_mul2, bin_pow, Bool.not_true, Bool.not_false, wp_some, Nx_nx, Rt_rt, Option.toList_some, Option.toList_none, h, hb]
theorem wh_gcd {cal : Cal} {x e : Sl} : ∀ (k m : Nat) (a b : Nat), b < 2 ^ k → 2 * k + 1 ≤ m → whL (evE cal wC) (exS cal fu wB) m ⟨[x, some (.dat (.int (a : Int))), e, some (.dat (.int (b : Int)))], bx⟩ = some (.nx ⟨[x, some (.dat (.int ((Nat.gcd a b : Nat) : Int))), e, some (.dat (.int 0))], bx⟩)
  | 0, m, a, b, hb, hm => by
    have : b = 0 := by simpa using hb
    subst this
    obtain ⟨m, rfl⟩ : ∃ k, m = k + 1 := ⟨m - 1, by omega⟩
    rw [Nat.gcd_zero_right]
    exact wh_zero
  | k + 1, m, a, b, hb, hm => by
    by_cases h0 : b = 0
    · subst h0
      obtain ⟨m, rfl⟩ : ∃ k, m = k + 1 := ⟨m - 1, by omega⟩
      rw [Nat.gcd_zero_right]
      exact wh_zero
    · obtain ⟨m, rfl⟩ : ∃ k, m = k + 1 := ⟨m - 1, by omega⟩
      rw [wh_step (by omega), fmod_nat]
      have hr : a % b < b := Nat.mod_lt _ (by omega)
      have g1 : Nat.gcd a b = Nat.gcd b (a % b) := by rw [Nat.gcd_comm a b, Nat.gcd_rec b a, Nat.gcd_comm]
      rw [g1]
      generalize a % b = r at hr
      by_cases h1 : r = 0
      · subst h1
        obtain ⟨m, rfl⟩ : ∃ k, m = k + 1 := ⟨m - 1, by omega⟩
        rw [Nat.gcd_zero_right]
        exact wh_zero
      · obtain ⟨m, rfl⟩ : ∃ k, m = k + 1 := ⟨m - 1, by omega⟩
        rw [wh_step (by omega), fmod_nat]
        have hs : b % r < r := Nat.mod_lt _ (by omega)
        have h2 : 2 * (b % r) < b := by
          have := Nat.div_add_mod b r
          have hq : 1 ≤ b / r := Nat.div_pos (by omega) (by omega)
          have : r ≤ r * (b / r) := Nat.le_mul_of_pos_right r hq
          omega
        have g2 : Nat.gcd b r = Nat.gcd r (b % r) := by rw [Nat.gcd_comm b r, Nat.gcd_rec r b, Nat.gcd_comm]
        rw [g2]
        exact wh_gcd k m r (b % r) (by rw [Nat.pow_succ] at hb; omega) (by omega)
theorem step_call (h : Is T i 1 4 B_step) (hf : 200 ≤ fu) (hc : Sh cs) : callN T fu (n + 1) i [Zs t cs] bx = some (.dat (.int ((gcdL 0 cs : Nat) : Int)), bx) := by
  refine run_wp h rfl ?_
  simp only [B_step, ent, ev_var, ev_con, ev_bin, ev_neg, ev_not, ev_cmp, ev_chain, ev_and, ev_or, ev_ite, ev_tup, ev_lst, ev_call, ev_callk, ev_bl, ev_len, ev_bits, ev_isi, ev_sub, ev_slc, ev_callb, ev_sset, ev_rev, rev_l, rev_o, ea_nil, ea_cons, ei_rng1, ei_rng2, ei_zip, ei_enum, ei_it, sq_skip, sq_seq, sq_asg, sq_tas, sq_par, sq_setix, sq_app, sq_ite, sq_ret, sq_retn, sq_pass, sq_cont, sq_brk, sq_aug_add, ex_skip, evP, setRs, evRet, pk, peek, rd, setAll, bindT, wipeE, unwipe, noOwn, condOf, isNo, RV.pd, RV.frz, canPut, entryE, List.length_cons, List.length_nil, List.map_cons, List.map_nil, List.cons_append, List.nil_append, List.append_nil, Nat.sub_self, Nat.reduceSub, Nat.reduceAdd, Nat.zero_add, List.replicate_succ, List.replicate_zero, List.getElem?_cons_zero, List.getElem?_cons_succ, List.set_cons_zero, List.set_cons_succ, List.getD_cons_zero, List.getD_cons_succ, mapM_pd_nil, mapM_pd_cons, permL_nil, permL_cons, Option.map_some, Option.map_none, Option.bind_some, Option.pure_def, Option.bind_eq_bind, Bool.false_eq_true, if_true, if_false, ite_true, ite_false, reduceIte, reduceCtorEq, cmp_lt, cmp_le, cmp_gt, cmp_ge, cmp_eq_i, cmp_ne_i, cmp_eq_b, cmp_ne_b, cmp_eq_s, cmp_ne_s, cmp_eq_nn, cmp_is, cmp_isnot, isNone_none, isNone_bool, isNone_int, isNone_str, isNone_list, isNone_tuple, bin_add, bin_sub, mulOk_n, mulOk_m, divOk_n, Nat.reduceLT, Int.reduceEq, Int.reduceNe, ne_eq, not_false_eq_true, decide_true, decide_false, bin_mul, bin_fdiv, bin_mod, bin_addl, bin_addt, bin_shl, bin_shr, bin_band, bin_bor, tru_b, tru_i, tru_l, tru_t, tru_o, tru_n, len_l, len_t, len_o, item_l, item_t, item_o, item_b0, item_b1, item_b2, at0, at1, at2, at3, at4, at5, atm1, blt_abs, blt_int, blt_intb, blt_tl, blt_tt, blt_ll, blt_lt, blt_sum, blt_all, blt_any, blt_min2, blt_max2, put_b0, put_b1, put_b2, szOk_0, szOk_1, szOk_n, Nat.reduceLeDiff, bin_mul2, bin_pow, Bool.not_true, Bool.not_false, wp_some, Nx_nx, Rt_rt, Option.toList_some, Option.toList_none, ev_lcR, lcR_nil, rangeD_map, zipW_map, enum_map, zip_tt, zip_tl, zip_lt, zip_ll, iter_t, iter_l, iter_o, lst_l, lst_o, seq_sq, iter_sq, len_sq, item_sq, list_sq, tuple_sq, zip_sq, pairD, step_no, stepC_eq, st_cmp, st_chain, st_and, st_or, st_not, st_isi, st_call, st_bl, st_var, setQ]
  refine wp_loop (l := cs) (P := .int) (fun k g => ∃ e2 e3, g = ⟨[some (Zs t cs), some (.dat (.int ((gcdL 0 (cs.take k) : Nat) : Int))), e2, e3], bx⟩) (by simp only [ev_var, ev_con, ev_bin, ev_neg, ev_not, ev_cmp, ev_chain, ev_and, ev_or, ev_ite, ev_tup, ev_lst, ev_call, ev_callk, ev_bl, ev_len, ev_bits, ev_isi, ev_sub, ev_slc, ev_callb, ev_sset, ev_rev, rev_l, rev_o, ea_nil, ea_cons, ei_rng1, ei_rng2, ei_zip, ei_enum, ei_it, sq_skip, sq_seq, sq_asg, sq_tas, sq_par, sq_setix, sq_app, sq_ite, sq_ret, sq_retn, sq_pass, sq_cont, sq_brk, sq_aug_add, ex_skip, evP, setRs, evRet, pk, peek, rd, setAll, bindT, wipeE, unwipe, noOwn, condOf, isNo, RV.pd, RV.frz, canPut, entryE, List.length_cons, List.length_nil, List.map_cons, List.map_nil, List.cons_append, List.nil_append, List.append_nil, Nat.sub_self, Nat.reduceSub, Nat.reduceAdd, Nat.zero_add, List.replicate_succ, List.replicate_zero, List.getElem?_cons_zero, List.getElem?_cons_succ, List.set_cons_zero, List.set_cons_succ, List.getD_cons_zero, List.getD_cons_succ, mapM_pd_nil, mapM_pd_cons, permL_nil, permL_cons, Option.map_some, Option.map_none, Option.bind_some, Option.pure_def, Option.bind_eq_bind, Bool.false_eq_true, if_true, if_false, ite_true, ite_false, reduceIte, reduceCtorEq, cmp_lt, cmp_le, cmp_gt, cmp_ge, cmp_eq_i, cmp_ne_i, cmp_eq_b, cmp_ne_b, cmp_eq_s, cmp_ne_s, cmp_eq_nn, cmp_is, cmp_isnot, isNone_none, isNone_bool, isNone_int, isNone_str, isNone_list, isNone_tuple, bin_add, bin_sub, mulOk_n, mulOk_m, divOk_n, Nat.reduceLT, Int.reduceEq, Int.reduceNe, ne_eq, not_false_eq_true, decide_true, decide_false, bin_mul, bin_fdiv, bin_mod, bin_addl, bin_addt, bin_shl, bin_shr, bin_band, bin_bor, tru_b, tru_i, tru_l, tru_t, tru_o, tru_n, len_l, len_t, len_o, item_l, item_t, item_o, item_b0, item_b1, item_b2, at0, at1, at2, at3, at4, at5, atm1, blt_abs, blt_int, blt_intb, blt_tl, blt_tt, blt_ll, blt_lt, blt_sum, blt_all, blt_any, blt_min2, blt_max2, put_b0, put_b1, put_b2, szOk_0, szOk_1, szOk_n, Nat.reduceLeDiff, bin_mul2, bin_pow, Bool.not_true, Bool.not_false, wp_some, Nx_nx, Rt_rt, Option.toList_some, Option.toList_none, ev_lcR, lcR_nil, rangeD_map, zipW_map, enum_map, zip_tt, zip_tl, zip_lt, zip_ll, iter_t, iter_l, iter_o, lst_l, lst_o, seq_sq, iter_sq, len_sq, item_sq, list_sq, tuple_sq, zip_sq, pairD, step_no, stepC_eq, st_cmp, st_chain, st_and, st_or, st_not, st_isi, st_call, st_bl, st_var, setQ]; rfl) ⟨none, none, rfl⟩ ?_ ?_
  · rintro k c g hk ⟨e2, e3, rfl⟩
    have w := wh_gcd (fu := fu) (bx := bx) (cal := callN T fu n) (x := some (Zs t cs)) (e := some (.dat (.int c))) 64 fu (gcdL 0 (cs.take k)) c.natAbs (hc c (List.mem_of_getElem? hk)) (by omega)
    have a := abs_nat c
    have e : gcdL 0 (cs.take (k + 1)) = Nat.gcd (gcdL 0 (cs.take k)) c.natAbs := by rw [List.take_add_one, hk, Option.toList_some, gcdL_snoc]
    rw [e]
    generalize (c.natAbs : Int) = z at w a
    generalize hz : ((gcdL 0 (cs.take k) : Nat) : Int) = y at w
    simp only [ev_var, ev_con, ev_bin, ev_neg, ev_not, ev_cmp, ev_chain, ev_and, ev_or, ev_ite, ev_tup, ev_lst, ev_call, ev_callk, ev_bl, ev_len, ev_bits, ev_isi, ev_sub, ev_slc, ev_callb, ev_sset, ev_rev, rev_l, rev_o, ea_nil, ea_cons, ei_rng1, ei_rng2, ei_zip, ei_enum, ei_it, sq_skip, sq_seq, sq_asg, sq_tas, sq_par, sq_setix, sq_app, sq_ite, sq_ret, sq_retn, sq_pass, sq_cont, sq_brk, sq_aug_add, ex_skip, evP, setRs, evRet, pk, peek, rd, setAll, bindT, wipeE, unwipe, noOwn, condOf, isNo, RV.pd, RV.frz, canPut, entryE, List.length_cons, List.length_nil, List.map_cons, List.map_nil, List.cons_append, List.nil_append, List.append_nil, Nat.sub_self, Nat.reduceSub, Nat.reduceAdd, Nat.zero_add, List.replicate_succ, List.replicate_zero, List.getElem?_cons_zero, List.getElem?_cons_succ, List.set_cons_zero, List.set_cons_succ, List.getD_cons_zero, List.getD_cons_succ, mapM_pd_nil, mapM_pd_cons, permL_nil, permL_cons, Option.map_some, Option.map_none, Option.bind_some, Option.pure_def, Option.bind_eq_bind, Bool.false_eq_true, if_true, if_false, ite_true, ite_false, reduceIte, reduceCtorEq, cmp_lt, cmp_le, cmp_gt, cmp_ge, cmp_eq_i, cmp_ne_i, cmp_eq_b, cmp_ne_b, cmp_eq_s, cmp_ne_s, cmp_eq_nn, cmp_is, cmp_isnot, isNone_none, isNone_bool, isNone_int, isNone_str, isNone_list, isNone_tuple, bin_add, bin_sub, mulOk_n, mulOk_m, divOk_n, Nat.reduceLT, Int.reduceEq, Int.reduceNe, ne_eq, not_false_eq_true, decide_true, decide_false, bin_mul, bin_fdiv, bin_mod, bin_addl, bin_addt, bin_shl, bin_shr, bin_band, bin_bor, tru_b, tru_i, tru_l, tru_t, tru_o, tru_n, len_l, len_t, len_o, item_l, item_t, item_o, item_b0, item_b1, item_b2, at0, at1, at2, at3, at4, at5, atm1, blt_abs, blt_int, blt_intb, blt_tl, blt_tt, blt_ll, blt_lt, blt_sum, blt_all, blt_any, blt_min2, blt_max2, put_b0, put_b1, put_b2, szOk_0, szOk_1, szOk_n, Nat.reduceLeDiff, bin_mul2, bin_pow, Bool.not_true, Bool.not_false, wp_some, Nx_nx, Rt_rt, Option.toList_some, Option.toList_none, ev_lcR, lcR_nil, rangeD_map, zipW_map, enum_map, zip_tt, zip_tl, zip_lt, zip_ll, iter_t, iter_l, iter_o, lst_l, lst_o, seq_sq, iter_sq, len_sq, item_sq, list_sq, tuple_sq, zip_sq, pairD, step_no, stepC_eq, st_cmp, st_chain, st_and, st_or, st_not, st_isi, st_call, st_bl, st_var, setQ, a]
    rw [ex_seq, ex_whil, w]
    simp only [ev_var, ev_con, ev_bin, ev_neg, ev_not, ev_cmp, ev_chain, ev_and, ev_or, ev_ite, ev_tup, ev_lst, ev_call, ev_callk, ev_bl, ev_len, ev_bits, ev_isi, ev_sub, ev_slc, ev_callb, ev_sset, ev_rev, rev_l, rev_o, ea_nil, ea_cons, ei_rng1, ei_rng2, ei_zip, ei_enum, ei_it, sq_skip, sq_seq, sq_asg, sq_tas, sq_par, sq_setix, sq_app, sq_ite, sq_ret, sq_retn, sq_pass, sq_cont, sq_brk, sq_aug_add, ex_skip, evP, setRs, evRet, pk, peek, rd, setAll, bindT, wipeE, unwipe, noOwn, condOf, isNo, RV.pd, RV.frz, canPut, entryE, List.length_cons, List.length_nil, List.map_cons, List.map_nil, List.cons_append, List.nil_append, List.append_nil, Nat.sub_self, Nat.reduceSub, Nat.reduceAdd, Nat.zero_add, List.replicate_succ, List.replicate_zero, List.getElem?_cons_zero, List.getElem?_cons_succ, List.set_cons_zero, List.set_cons_succ, List.getD_cons_zero, List.getD_cons_succ, mapM_pd_nil, mapM_pd_cons, permL_nil, permL_cons, Option.map_some, Option.map_none, Option.bind_some, Option.pure_def, Option.bind_eq_bind, Bool.false_eq_true, if_true, if_false, ite_true, ite_false, reduceIte, reduceCtorEq, cmp_lt, cmp_le, cmp_gt, cmp_ge, cmp_eq_i, cmp_ne_i, cmp_eq_b, cmp_ne_b, cmp_eq_s, cmp_ne_s, cmp_eq_nn, cmp_is, cmp_isnot, isNone_none, isNone_bool, isNone_int, isNone_str, isNone_list, isNone_tuple, bin_add, bin_sub, mulOk_n, mulOk_m, divOk_n, Nat.reduceLT, Int.reduceEq, Int.reduceNe, ne_eq, not_false_eq_true, decide_true, decide_false, bin_mul, bin_fdiv, bin_mod, bin_addl, bin_addt, bin_shl, bin_shr, bin_band, bin_bor, tru_b, tru_i, tru_l, tru_t, tru_o, tru_n, len_l, len_t, len_o, item_l, item_t, item_o, item_b0, item_b1, item_b2, at0, at1, at2, at3, at4, at5, atm1, blt_abs, blt_int, blt_intb, blt_tl, blt_tt, blt_ll, blt_lt, blt_sum, blt_all, blt_any, blt_min2, blt_max2, put_b0, put_b1, put_b2, szOk_0, szOk_1, szOk_n, Nat.reduceLeDiff, bin_mul2, bin_pow, Bool.not_true, Bool.not_false, wp_some, Nx_nx, Rt_rt, Option.toList_some, Option.toList_none, ev_lcR, lcR_nil, rangeD_map, zipW_map, enum_map, zip_tt, zip_tl, zip_lt, zip_ll, iter_t, iter_l, iter_o, lst_l, lst_o, seq_sq, iter_sq, len_sq, item_sq, list_sq, tuple_sq, zip_sq, pairD, step_no, stepC_eq, st_cmp, st_chain, st_and, st_or, st_not, st_isi, st_call, st_bl, st_var, setQ]
    exact .inl ⟨_, _, rfl⟩
  · rintro g ⟨e2, e3, rfl⟩
    rw [List.take_length]
    simp only [ev_var, ev_con, ev_bin, ev_neg, ev_not, ev_cmp, ev_chain, ev_and, ev_or, ev_ite, ev_tup, ev_lst, ev_call, ev_callk, ev_bl, ev_len, ev_bits, ev_isi, ev_sub, ev_slc, ev_callb, ev_sset, ev_rev, rev_l, rev_o, ea_nil, ea_cons, ei_rng1, ei_rng2, ei_zip, ei_enum, ei_it, sq_skip, sq_seq, sq_asg, sq_tas, sq_par, sq_setix, sq_app, sq_ite, sq_ret, sq_retn, sq_pass, sq_cont, sq_brk, sq_aug_add, ex_skip, evP, setRs, evRet, pk, peek, rd, setAll, bindT, wipeE, unwipe, noOwn, condOf, isNo, RV.pd, RV.frz, canPut, entryE, List.length_cons, List.length_nil, List.map_cons, List.map_nil, List.cons_append, List.nil_append, List.append_nil, Nat.sub_self, Nat.reduceSub, Nat.reduceAdd, Nat.zero_add, List.replicate_succ, List.replicate_zero, List.getElem?_cons_zero, List.getElem?_cons_succ, List.set_cons_zero, List.set_cons_succ, List.getD_cons_zero, List.getD_cons_succ, mapM_pd_nil, mapM_pd_cons, permL_nil, permL_cons, Option.map_some, Option.map_none, Option.bind_some, Option.pure_def, Option.bind_eq_bind, Bool.false_eq_true, if_true, if_false, ite_true, ite_false, reduceIte, reduceCtorEq, cmp_lt, cmp_le, cmp_gt, cmp_ge, cmp_eq_i, cmp_ne_i, cmp_eq_b, cmp_ne_b, cmp_eq_s, cmp_ne_s, cmp_eq_nn, cmp_is, cmp_isnot, isNone_none, isNone_bool, isNone_int, isNone_str, isNone_list, isNone_tuple, bin_add, bin_sub, mulOk_n, mulOk_m, divOk_n, Nat.reduceLT, Int.reduceEq, Int.reduceNe, ne_eq, not_false_eq_true, decide_true, decide_false, bin_mul, bin_fdiv, bin_mod, bin_addl, bin_addt, bin_shl, bin_shr, bin_band, bin_bor, tru_b, tru_i, tru_l, tru_t, tru_o, tru_n, len_l, len_t, len_o, item_l, item_t, item_o, item_b0, item_b1, item_b2, at0, at1, at2, at3, at4, at5, atm1, blt_abs, blt_int, blt_intb, blt_tl, blt_tt, blt_ll, blt_lt, blt_sum, blt_all, blt_any, blt_min2, blt_max2, put_b0, put_b1, put_b2, szOk_0, szOk_1, szOk_n, Nat.reduceLeDiff, bin_mul2, bin_pow, Bool.not_true, Bool.not_false, wp_some, Nx_nx, Rt_rt, Option.toList_some, Option.toList_none, ev_lcR, lcR_nil, rangeD_map, zipW_map, enum_map, zip_tt, zip_tl, zip_lt, zip_ll, iter_t, iter_l, iter_o, lst_l, lst_o, seq_sq, iter_sq, len_sq, item_sq, list_sq, tuple_sq, zip_sq, pairD, step_no, stepC_eq, st_cmp, st_chain, st_and, st_or, st_not, st_isi, st_call, st_bl, st_var, setQ, and_self]
theorem let_call {dv ls gs st : Nat} {x : Int} (h : Is T i 3 3 (B_is_let dv st ls gs)) (h1 : Is T ls 2 4 B_least_sum) (h2 : Is T gs 2 4 B_greatest_sum) (h3 : Is T st 1 4 B_step) (h4 : Is T dv 2 2 B_divides) (hf : 200 ≤ fu) (hc : Sh cs) (hl : cs.length ≤ 1000000) :
    callN T fu (n + 2) i [Zs t cs, Zs u bs, .dat (.int x)] bx = some (.dat (.bool (letZ cs bs x)), bx) := by
  refine run_wp h rfl ?_
  unfold letZ
  by_cases q1 : lowZ cs bs ≤ x
  · by_cases q2 : x ≤ topZ cs bs
    · simp only [B_is_let, ent, ev_var, ev_con, ev_bin, ev_neg, ev_not, ev_cmp, ev_chain, ev_and, ev_or, ev_ite, ev_tup, ev_lst, ev_call, ev_callk, ev_bl, ev_len, ev_bits, ev_isi, ev_sub, ev_slc, ev_callb, ev_sset, ev_rev, rev_l, rev_o, ea_nil, ea_cons, ei_rng1, ei_rng2, ei_zip, ei_enum, ei_it, sq_skip, sq_seq, sq_asg, sq_tas, sq_par, sq_setix, sq_app, sq_ite, sq_ret, sq_retn, sq_pass, sq_cont, sq_brk, sq_aug_add, ex_skip, evP, setRs, evRet, pk, peek, rd, setAll, bindT, wipeE, unwipe, noOwn, condOf, isNo, RV.pd, RV.frz, canPut, entryE, List.length_cons, List.length_nil, List.map_cons, List.map_nil, List.cons_append, List.nil_append, List.append_nil, Nat.sub_self, Nat.reduceSub, Nat.reduceAdd, Nat.zero_add, List.replicate_succ, List.replicate_zero, List.getElem?_cons_zero, List.getElem?_cons_succ, List.set_cons_zero, List.set_cons_succ, List.getD_cons_zero, List.getD_cons_succ, mapM_pd_nil, mapM_pd_cons, permL_nil, permL_cons, Option.map_some, Option.map_none, Option.bind_some, Option.pure_def, Option.bind_eq_bind, Bool.false_eq_true, if_true, if_false, ite_true, ite_false, reduceIte, reduceCtorEq, cmp_lt, cmp_le, cmp_gt, cmp_ge, cmp_eq_i, cmp_ne_i, cmp_eq_b, cmp_ne_b, cmp_eq_s, cmp_ne_s, cmp_eq_nn, cmp_is, cmp_isnot, isNone_none, isNone_bool, isNone_int, isNone_str, isNone_list, isNone_tuple, bin_add, bin_sub, mulOk_n, mulOk_m, divOk_n, Nat.reduceLT, Int.reduceEq, Int.reduceNe, ne_eq, not_false_eq_true, decide_true, decide_false, bin_mul, bin_fdiv, bin_mod, bin_addl, bin_addt, bin_shl, bin_shr, bin_band, bin_bor, tru_b, tru_i, tru_l, tru_t, tru_o, tru_n, len_l, len_t, len_o, item_l, item_t, item_o, item_b0, item_b1, item_b2, at0, at1, at2, at3, at4, at5, atm1, blt_abs, blt_int, blt_intb, blt_tl, blt_tt, blt_ll, blt_lt, blt_sum, blt_all, blt_any, blt_min2, blt_max2, put_b0, put_b1, put_b2, szOk_0, szOk_1, szOk_n, Nat.reduceLeDiff, bin_mul2, bin_pow, Bool.not_true, Bool.not_false, wp_some, Nx_nx, Rt_rt, Option.toList_some, Option.toList_none, ev_lcR, lcR_nil, rangeD_map, zipW_map, enum_map, zip_tt, zip_tl, zip_lt, zip_ll, iter_t, iter_l, iter_o, lst_l, lst_o, seq_sq, iter_sq, len_sq, item_sq, list_sq, tuple_sq, zip_sq, pairD, step_no, stepC_eq, st_cmp, st_chain, st_and, st_or, st_not, st_isi, st_call, st_bl, st_var, setQ, low_call h1 hc hl, top_call h2 hc hl, step_call h3 hf hc, div_call h4, q1, q2, and_self]
    · simp only [B_is_let, ent, ev_var, ev_con, ev_bin, ev_neg, ev_not, ev_cmp, ev_chain, ev_and, ev_or, ev_ite, ev_tup, ev_lst, ev_call, ev_callk, ev_bl, ev_len, ev_bits, ev_isi, ev_sub, ev_slc, ev_callb, ev_sset, ev_rev, rev_l, rev_o, ea_nil, ea_cons, ei_rng1, ei_rng2, ei_zip, ei_enum, ei_it, sq_skip, sq_seq, sq_asg, sq_tas, sq_par, sq_setix, sq_app, sq_ite, sq_ret, sq_retn, sq_pass, sq_cont, sq_brk, sq_aug_add, ex_skip, evP, setRs, evRet, pk, peek, rd, setAll, bindT, wipeE, unwipe, noOwn, condOf, isNo, RV.pd, RV.frz, canPut, entryE, List.length_cons, List.length_nil, List.map_cons, List.map_nil, List.cons_append, List.nil_append, List.append_nil, Nat.sub_self, Nat.reduceSub, Nat.reduceAdd, Nat.zero_add, List.replicate_succ, List.replicate_zero, List.getElem?_cons_zero, List.getElem?_cons_succ, List.set_cons_zero, List.set_cons_succ, List.getD_cons_zero, List.getD_cons_succ, mapM_pd_nil, mapM_pd_cons, permL_nil, permL_cons, Option.map_some, Option.map_none, Option.bind_some, Option.pure_def, Option.bind_eq_bind, Bool.false_eq_true, if_true, if_false, ite_true, ite_false, reduceIte, reduceCtorEq, cmp_lt, cmp_le, cmp_gt, cmp_ge, cmp_eq_i, cmp_ne_i, cmp_eq_b, cmp_ne_b, cmp_eq_s, cmp_ne_s, cmp_eq_nn, cmp_is, cmp_isnot, isNone_none, isNone_bool, isNone_int, isNone_str, isNone_list, isNone_tuple, bin_add, bin_sub, mulOk_n, mulOk_m, divOk_n, Nat.reduceLT, Int.reduceEq, Int.reduceNe, ne_eq, not_false_eq_true, decide_true, decide_false, bin_mul, bin_fdiv, bin_mod, bin_addl, bin_addt, bin_shl, bin_shr, bin_band, bin_bor, tru_b, tru_i, tru_l, tru_t, tru_o, tru_n, len_l, len_t, len_o, item_l, item_t, item_o, item_b0, item_b1, item_b2, at0, at1, at2, at3, at4, at5, atm1, blt_abs, blt_int, blt_intb, blt_tl, blt_tt, blt_ll, blt_lt, blt_sum, blt_all, blt_any, blt_min2, blt_max2, put_b0, put_b1, put_b2, szOk_0, szOk_1, szOk_n, Nat.reduceLeDiff, bin_mul2, bin_pow, Bool.not_true, Bool.not_false, wp_some, Nx_nx, Rt_rt, Option.toList_some, Option.toList_none, ev_lcR, lcR_nil, rangeD_map, zipW_map, enum_map, zip_tt, zip_tl, zip_lt, zip_ll, iter_t, iter_l, iter_o, lst_l, lst_o, seq_sq, iter_sq, len_sq, item_sq, list_sq, tuple_sq, zip_sq, pairD, step_no, stepC_eq, st_cmp, st_chain, st_and, st_or, st_not, st_isi, st_call, st_bl, st_var, setQ, low_call h1 hc hl, top_call h2 hc hl, q1, q2, and_false, and_self]
  · simp only [B_is_let, ent, ev_var, ev_con, ev_bin, ev_neg, ev_not, ev_cmp, ev_chain, ev_and, ev_or, ev_ite, ev_tup, ev_lst, ev_call, ev_callk, ev_bl, ev_len, ev_bits, ev_isi, ev_sub, ev_slc, ev_callb, ev_sset, ev_rev, rev_l, rev_o, ea_nil, ea_cons, ei_rng1, ei_rng2, ei_zip, ei_enum, ei_it, sq_skip, sq_seq, sq_asg, sq_tas, sq_par, sq_setix, sq_app, sq_ite, sq_ret, sq_retn, sq_pass, sq_cont, sq_brk, sq_aug_add, ex_skip, evP, setRs, evRet, pk, peek, rd, setAll, bindT, wipeE, unwipe, noOwn, condOf, isNo, RV.pd, RV.frz, canPut, entryE, List.length_cons, List.length_nil, List.map_cons, List.map_nil, List.cons_append, List.nil_append, List.append_nil, Nat.sub_self, Nat.reduceSub, Nat.reduceAdd, Nat.zero_add, List.replicate_succ, List.replicate_zero, List.getElem?_cons_zero, List.getElem?_cons_succ, List.set_cons_zero, List.set_cons_succ, List.getD_cons_zero, List.getD_cons_succ, mapM_pd_nil, mapM_pd_cons, permL_nil, permL_cons, Option.map_some, Option.map_none, Option.bind_some, Option.pure_def, Option.bind_eq_bind, Bool.false_eq_true, if_true, if_false, ite_true, ite_false, reduceIte, reduceCtorEq, cmp_lt, cmp_le, cmp_gt, cmp_ge, cmp_eq_i, cmp_ne_i, cmp_eq_b, cmp_ne_b, cmp_eq_s, cmp_ne_s, cmp_eq_nn, cmp_is, cmp_isnot, isNone_none, isNone_bool, isNone_int, isNone_str, isNone_list, isNone_tuple, bin_add, bin_sub, mulOk_n, mulOk_m, divOk_n, Nat.reduceLT, Int.reduceEq, Int.reduceNe, ne_eq, not_false_eq_true, decide_true, decide_false, bin_mul, bin_fdiv, bin_mod, bin_addl, bin_addt, bin_shl, bin_shr, bin_band, bin_bor, tru_b, tru_i, tru_l, tru_t, tru_o, tru_n, len_l, len_t, len_o, item_l, item_t, item_o, item_b0, item_b1, item_b2, at0, at1, at2, at3, at4, at5, atm1, blt_abs, blt_int, blt_intb, blt_tl, blt_tt, blt_ll, blt_lt, blt_sum, blt_all, blt_any, blt_min2, blt_max2, put_b0, put_b1, put_b2, szOk_0, szOk_1, szOk_n, Nat.reduceLeDiff, bin_mul2, bin_pow, Bool.not_true, Bool.not_false, wp_some, Nx_nx, Rt_rt, Option.toList_some, Option.toList_none, ev_lcR, lcR_nil, rangeD_map, zipW_map, enum_map, zip_tt, zip_tl, zip_lt, zip_ll, iter_t, iter_l, iter_o, lst_l, lst_o, seq_sq, iter_sq, len_sq, item_sq, list_sq, tuple_sq, zip_sq, pairD, step_no, stepC_eq, st_cmp, st_chain, st_and, st_or, st_not, st_isi, st_call, st_bl, st_var, setQ, low_call h1 hc hl, q1, false_and, and_self]
theorem mir_call {ls gs : Nat} {x : Int} (h : Is T i 3 3 (B_mirrored ls gs)) (h1 : Is T ls 2 4 B_least_sum) (h2 : Is T gs 2 4 B_greatest_sum) (hc : Sh cs) (hl : cs.length ≤ 1000000) :
    callN T fu (n + 2) i [Zs t cs, Zs u bs, .dat (.int x)] bx = some (.dat (.int (lowZ cs bs + topZ cs bs - x)), bx) := by
  refine run_wp h rfl ?_
  simp only [B_mirrored, ent, ev_var, ev_con, ev_bin, ev_neg, ev_not, ev_cmp, ev_chain, ev_and, ev_or, ev_ite, ev_tup, ev_lst, ev_call, ev_callk, ev_bl, ev_len, ev_bits, ev_isi, ev_sub, ev_slc, ev_callb, ev_sset, ev_rev, rev_l, rev_o, ea_nil, ea_cons, ei_rng1, ei_rng2, ei_zip, ei_enum, ei_it, sq_skip, sq_seq, sq_asg, sq_tas, sq_par, sq_setix, sq_app, sq_ite, sq_ret, sq_retn, sq_pass, sq_cont, sq_brk, sq_aug_add, ex_skip, evP, setRs, evRet, pk, peek, rd, setAll, bindT, wipeE, unwipe, noOwn, condOf, isNo, RV.pd, RV.frz, canPut, entryE, List.length_cons, List.length_nil, List.map_cons, List.map_nil, List.cons_append, List.nil_append, List.append_nil, Nat.sub_self, Nat.reduceSub, Nat.reduceAdd, Nat.zero_add, List.replicate_succ, List.replicate_zero, List.getElem?_cons_zero, List.getElem?_cons_succ, List.set_cons_zero, List.set_cons_succ, List.getD_cons_zero, List.getD_cons_succ, mapM_pd_nil, mapM_pd_cons, permL_nil, permL_cons, Option.map_some, Option.map_none, Option.bind_some, Option.pure_def, Option.bind_eq_bind, Bool.false_eq_true, if_true, if_false, ite_true, ite_false, reduceIte, reduceCtorEq, cmp_lt, cmp_le, cmp_gt, cmp_ge, cmp_eq_i, cmp_ne_i, cmp_eq_b, cmp_ne_b, cmp_eq_s, cmp_ne_s, cmp_eq_nn, cmp_is, cmp_isnot, isNone_none, isNone_bool, isNone_int, isNone_str, isNone_list, isNone_tuple, bin_add, bin_sub, mulOk_n, mulOk_m, divOk_n, Nat.reduceLT, Int.reduceEq, Int.reduceNe, ne_eq, not_false_eq_true, decide_true, decide_false, bin_mul, bin_fdiv, bin_mod, bin_addl, bin_addt, bin_shl, bin_shr, bin_band, bin_bor, tru_b, tru_i, tru_l, tru_t, tru_o, tru_n, len_l, len_t, len_o, item_l, item_t, item_o, item_b0, item_b1, item_b2, at0, at1, at2, at3, at4, at5, atm1, blt_abs, blt_int, blt_intb, blt_tl, blt_tt, blt_ll, blt_lt, blt_sum, blt_all, blt_any, blt_min2, blt_max2, put_b0, put_b1, put_b2, szOk_0, szOk_1, szOk_n, Nat.reduceLeDiff, bin_mul2, bin_pow, Bool.not_true, Bool.not_false, wp_some, Nx_nx, Rt_rt, Option.toList_some, Option.toList_none, ev_lcR, lcR_nil, rangeD_map, zipW_map, enum_map, zip_tt, zip_tl, zip_lt, zip_ll, iter_t, iter_l, iter_o, lst_l, lst_o, seq_sq, iter_sq, len_sq, item_sq, list_sq, tuple_sq, zip_sq, pairD, step_no, stepC_eq, st_cmp, st_chain, st_and, st_or, st_not, st_isi, st_call, st_bl, st_var, setQ, low_call h1 hc hl, top_call h2 hc hl, and_self]
end
end PX
set_option Elab.async false
set_option autoImplicit false
set_option maxRecDepth 100000
set_option maxHeartbeats 8100000
/-! PXW: marks along, sums, made plain. -/
namespace PX
open PySem
section
variable {T : List FdD} {fu n i : Nat} {bx : Bx} {t u : Bool} {cs bs ks : List Int}
/-! ### tuples -/
theorem tup_int {x : Int} (h : Is T i 1 2 (B_tupled i)) : callN T fu (n + 1) i [.dat (.int x)] bx = some (.dat (.int x), bx) := by
  refine run_wp h rfl ?_
  simp only [B_tupled, ent, ev_var, ev_con, ev_bin, ev_neg, ev_not, ev_cmp, ev_chain, ev_and, ev_or, ev_ite, ev_tup, ev_lst, ev_call, ev_callk, ev_bl, ev_len, ev_bits, ev_isi, ev_sub, ev_slc, ev_callb, ev_sset, ev_rev, rev_l, rev_o, ea_nil, ea_cons, ei_rng1, ei_rng2, ei_zip, ei_enum, ei_it, sq_skip, sq_seq, sq_asg, sq_tas, sq_par, sq_setix, sq_app, sq_ite, sq_ret, sq_retn, sq_pass, sq_cont, sq_brk, sq_aug_add, ex_skip, evP, setRs, evRet, pk, peek, rd, setAll, bindT, wipeE, unwipe, noOwn, condOf, isNo, RV.pd, RV.frz, canPut, entryE, List.length_cons, List.length_nil, List.map_cons, List.map_nil, List.cons_append, List.nil_append, List.append_nil, Nat.sub_self, Nat.reduceSub, Nat.reduceAdd, Nat.zero_add, List.replicate_succ, List.replicate_zero, List.getElem?_cons_zero, List.getElem?_cons_succ, List.set_cons_zero, List.set_cons_succ, List.getD_cons_zero, List.getD_cons_succ, mapM_pd_nil, mapM_pd_cons, permL_nil, permL_cons, Option.map_some, Option.map_none, Option.bind_some, Option.pure_def, Option.bind_eq_bind, Bool.false_eq_true, if_true, if_false, ite_true, ite_false, reduceIte, reduceCtorEq, cmp_lt, cmp_le, cmp_gt, cmp_ge, cmp_eq_i, cmp_ne_i, cmp_eq_b, cmp_ne_b, cmp_eq_s, cmp_ne_s, cmp_eq_nn, cmp_is, cmp_isnot, isNone_none, isNone_bool, isNone_int, isNone_str, isNone_list, isNone_tuple, bin_add, bin_sub, mulOk_n, mulOk_m, divOk_n, Nat.reduceLT, Int.reduceEq, Int.reduceNe, ne_eq, not_false_eq_true, decide_true, decide_false, bin_mul, bin_fdiv, bin_mod, bin_addl, bin_addt, bin_shl, bin_shr, bin_band, bin_bor, tru_b, tru_i, tru_l, tru_t, tru_o, tru_n, len_l, len_t, len_o, item_l, item_t, item_o, item_b0, item_b1, item_b2, at0, at1, at2, at3, at4, at5, atm1, blt_abs, blt_int, blt_intb, blt_tl, blt_tt, blt_ll, blt_lt, blt_sum, blt_all, blt_any, blt_min2, blt_max2, put_b0, put_b1, put_b2, szOk_0, szOk_1, szOk_n, Nat.reduceLeDiff, bin_mul2, bin_pow, Bool.not_true, Bool.not_false, wp_some, Nx_nx, Rt_rt, Option.toList_some, Option.toList_none, ev_lcR, lcR_nil, rangeD_map, zipW_map, enum_map, zip_tt, zip_tl, zip_lt, zip_ll, iter_t, iter_l, iter_o, lst_l, lst_o, seq_sq, iter_sq, len_sq, item_sq, list_sq, tuple_sq, zip_sq, pairD, step_no, stepC_eq, st_cmp, st_chain, st_and, st_or, st_not, st_isi, st_call, st_bl, st_var, setQ, isData, tyOf, List.any_cons, List.any_nil, Bool.or_self, and_self]
theorem isi_sq {t : Bool} {ds : List PyData} : ([Ty.list, Ty.tuple].any (tyOf (sq t ds))) = true := by cases t <;> rfl
theorem data_sq {t : Bool} {ds : List PyData} : isData (sq t ds) = true := by cases t <;> rfl
theorem tup_ints (h : Is T i 1 2 (B_tupled i)) (hl : cs.length ≤ 1000000) : callN T fu (n + 2) i [Zs t cs] bx = some (.dat (.tuple (cs.map .int)), bx) := by
  refine run_wp h rfl ?_
  simp only [B_tupled, ent, ev_var, ev_con, ev_bin, ev_neg, ev_not, ev_cmp, ev_chain, ev_and, ev_or, ev_ite, ev_tup, ev_lst, ev_call, ev_callk, ev_bl, ev_len, ev_bits, ev_isi, ev_sub, ev_slc, ev_callb, ev_sset, ev_rev, rev_l, rev_o, ea_nil, ea_cons, ei_rng1, ei_rng2, ei_zip, ei_enum, ei_it, sq_skip, sq_seq, sq_asg, sq_tas, sq_par, sq_setix, sq_app, sq_ite, sq_ret, sq_retn, sq_pass, sq_cont, sq_brk, sq_aug_add, ex_skip, evP, setRs, evRet, pk, peek, rd, setAll, bindT, wipeE, unwipe, noOwn, condOf, isNo, RV.pd, RV.frz, canPut, entryE, List.length_cons, List.length_nil, List.map_cons, List.map_nil, List.cons_append, List.nil_append, List.append_nil, Nat.sub_self, Nat.reduceSub, Nat.reduceAdd, Nat.zero_add, List.replicate_succ, List.replicate_zero, List.getElem?_cons_zero, List.getElem?_cons_succ, List.set_cons_zero, List.set_cons_succ, List.getD_cons_zero, List.getD_cons_succ, mapM_pd_nil, mapM_pd_cons, permL_nil, permL_cons, Option.map_some, Option.map_none, Option.bind_some, Option.pure_def, Option.bind_eq_bind, Bool.false_eq_true, if_true, if_false, ite_true, ite_false, reduceIte, reduceCtorEq, cmp_lt, cmp_le, cmp_gt, cmp_ge, cmp_eq_i, cmp_ne_i, cmp_eq_b, cmp_ne_b, cmp_eq_s, cmp_ne_s, cmp_eq_nn, cmp_is, cmp_isnot, isNone_none, isNone_bool, isNone_int, isNone_str, isNone_list, isNone_tuple, bin_add, bin_sub, mulOk_n, mulOk_m, divOk_n, Nat.reduceLT, Int.reduceEq, Int.reduceNe, ne_eq, not_false_eq_true, decide_true, decide_false, bin_mul, bin_fdiv, bin_mod, bin_addl, bin_addt, bin_shl, bin_shr, bin_band, bin_bor, tru_b, tru_i, tru_l, tru_t, tru_o, tru_n, len_l, len_t, len_o, item_l, item_t, item_o, item_b0, item_b1, item_b2, at0, at1, at2, at3, at4, at5, atm1, blt_abs, blt_int, blt_intb, blt_tl, blt_tt, blt_ll, blt_lt, blt_sum, blt_all, blt_any, blt_min2, blt_max2, put_b0, put_b1, put_b2, szOk_0, szOk_1, szOk_n, Nat.reduceLeDiff, bin_mul2, bin_pow, Bool.not_true, Bool.not_false, wp_some, Nx_nx, Rt_rt, Option.toList_some, Option.toList_none, ev_lcR, lcR_nil, rangeD_map, zipW_map, enum_map, zip_tt, zip_tl, zip_lt, zip_ll, iter_t, iter_l, iter_o, lst_l, lst_o, seq_sq, iter_sq, len_sq, item_sq, list_sq, tuple_sq, zip_sq, pairD, step_no, stepC_eq, st_cmp, st_chain, st_and, st_or, st_not, st_isi, st_call, st_bl, st_var, setQ, isi_sq, data_sq]
  rw [lcR_A (fun x : Int => x) .int (by omega) fun p hp => by simp only [ev_var, ev_con, ev_bin, ev_neg, ev_not, ev_cmp, ev_chain, ev_and, ev_or, ev_ite, ev_tup, ev_lst, ev_call, ev_callk, ev_bl, ev_len, ev_bits, ev_isi, ev_sub, ev_slc, ev_callb, ev_sset, ev_rev, rev_l, rev_o, ea_nil, ea_cons, ei_rng1, ei_rng2, ei_zip, ei_enum, ei_it, sq_skip, sq_seq, sq_asg, sq_tas, sq_par, sq_setix, sq_app, sq_ite, sq_ret, sq_retn, sq_pass, sq_cont, sq_brk, sq_aug_add, ex_skip, evP, setRs, evRet, pk, peek, rd, setAll, bindT, wipeE, unwipe, noOwn, condOf, isNo, RV.pd, RV.frz, canPut, entryE, List.length_cons, List.length_nil, List.map_cons, List.map_nil, List.cons_append, List.nil_append, List.append_nil, Nat.sub_self, Nat.reduceSub, Nat.reduceAdd, Nat.zero_add, List.replicate_succ, List.replicate_zero, List.getElem?_cons_zero, List.getElem?_cons_succ, List.set_cons_zero, List.set_cons_succ, List.getD_cons_zero, List.getD_cons_succ, mapM_pd_nil, mapM_pd_cons, permL_nil, permL_cons, Option.map_some, Option.map_none, Option.bind_some, Option.pure_def, Option.bind_eq_bind, Bool.false_eq_true, if_true, if_false, ite_true, ite_false, reduceIte, reduceCtorEq, cmp_lt, cmp_le, cmp_gt, cmp_ge, cmp_eq_i, cmp_ne_i, cmp_eq_b, cmp_ne_b, cmp_eq_s, cmp_ne_s, cmp_eq_nn, cmp_is, cmp_isnot, isNone_none, isNone_bool, isNone_int, isNone_str, isNone_list, isNone_tuple, bin_add, bin_sub, mulOk_n, mulOk_m, divOk_n, Nat.reduceLT, Int.reduceEq, Int.reduceNe, ne_eq, not_false_eq_true, decide_true, decide_false, bin_mul, bin_fdiv, bin_mod, bin_addl, bin_addt, bin_shl, bin_shr, bin_band, bin_bor, tru_b, tru_i, tru_l, tru_t, tru_o, tru_n, len_l, len_t, len_o, item_l, item_t, item_o, item_b0, item_b1, item_b2, at0, at1, at2, at3, at4, at5, atm1, blt_abs, blt_int, blt_intb, blt_tl, blt_tt, blt_ll, blt_lt, blt_sum, blt_all, blt_any, blt_min2, blt_max2, put_b0, put_b1, put_b2, szOk_0, szOk_1, szOk_n, Nat.reduceLeDiff, bin_mul2, bin_pow, Bool.not_true, Bool.not_false, wp_some, Nx_nx, Rt_rt, Option.toList_some, Option.toList_none, ev_lcR, lcR_nil, rangeD_map, zipW_map, enum_map, zip_tt, zip_tl, zip_lt, zip_ll, iter_t, iter_l, iter_o, lst_l, lst_o, seq_sq, iter_sq, len_sq, item_sq, list_sq, tuple_sq, zip_sq, pairD, step_no, stepC_eq, st_cmp, st_chain, st_and, st_or, st_not, st_isi, st_call, st_bl, st_var, setQ, tup_int h, and_self]]
  simp only [ev_var, ev_con, ev_bin, ev_neg, ev_not, ev_cmp, ev_chain, ev_and, ev_or, ev_ite, ev_tup, ev_lst, ev_call, ev_callk, ev_bl, ev_len, ev_bits, ev_isi, ev_sub, ev_slc, ev_callb, ev_sset, ev_rev, rev_l, rev_o, ea_nil, ea_cons, ei_rng1, ei_rng2, ei_zip, ei_enum, ei_it, sq_skip, sq_seq, sq_asg, sq_tas, sq_par, sq_setix, sq_app, sq_ite, sq_ret, sq_retn, sq_pass, sq_cont, sq_brk, sq_aug_add, ex_skip, evP, setRs, evRet, pk, peek, rd, setAll, bindT, wipeE, unwipe, noOwn, condOf, isNo, RV.pd, RV.frz, canPut, entryE, List.length_cons, List.length_nil, List.map_cons, List.map_nil, List.cons_append, List.nil_append, List.append_nil, Nat.sub_self, Nat.reduceSub, Nat.reduceAdd, Nat.zero_add, List.replicate_succ, List.replicate_zero, List.getElem?_cons_zero, List.getElem?_cons_succ, List.set_cons_zero, List.set_cons_succ, List.getD_cons_zero, List.getD_cons_succ, mapM_pd_nil, mapM_pd_cons, permL_nil, permL_cons, Option.map_some, Option.map_none, Option.bind_some, Option.pure_def, Option.bind_eq_bind, Bool.false_eq_true, if_true, if_false, ite_true, ite_false, reduceIte, reduceCtorEq, cmp_lt, cmp_le, cmp_gt, cmp_ge, cmp_eq_i, cmp_ne_i, cmp_eq_b, cmp_ne_b, cmp_eq_s, cmp_ne_s, cmp_eq_nn, cmp_is, cmp_isnot, isNone_none, isNone_bool, isNone_int, isNone_str, isNone_list, isNone_tuple, bin_add, bin_sub, mulOk_n, mulOk_m, divOk_n, Nat.reduceLT, Int.reduceEq, Int.reduceNe, ne_eq, not_false_eq_true, decide_true, decide_false, bin_mul, bin_fdiv, bin_mod, bin_addl, bin_addt, bin_shl, bin_shr, bin_band, bin_bor, tru_b, tru_i, tru_l, tru_t, tru_o, tru_n, len_l, len_t, len_o, item_l, item_t, item_o, item_b0, item_b1, item_b2, at0, at1, at2, at3, at4, at5, atm1, blt_abs, blt_int, blt_intb, blt_tl, blt_tt, blt_ll, blt_lt, blt_sum, blt_all, blt_any, blt_min2, blt_max2, put_b0, put_b1, put_b2, szOk_0, szOk_1, szOk_n, Nat.reduceLeDiff, bin_mul2, bin_pow, Bool.not_true, Bool.not_false, wp_some, Nx_nx, Rt_rt, Option.toList_some, Option.toList_none, ev_lcR, lcR_nil, rangeD_map, zipW_map, enum_map, zip_tt, zip_tl, zip_lt, zip_ll, iter_t, iter_l, iter_o, lst_l, lst_o, seq_sq, iter_sq, len_sq, item_sq, list_sq, tuple_sq, zip_sq, pairD, step_no, stepC_eq, st_cmp, st_chain, st_and, st_or, st_not, st_isi, st_call, st_bl, st_var, setQ, List.map_id', and_self]
/-! ### made plain -/
def plainD (cs bs : List Int) (x : Int) : PyData := if divZ (gcdL 0 cs : Nat) x = true then
    .tuple [.tuple ((cs.map fun c => ((c.natAbs : Int)).fdiv (gcdL 0 cs : Nat)).map .int), .tuple (bs.map .int), .int (if ((gcdL 0 cs : Nat) : Int) = 0 then 0 else (x - lowZ cs bs).fdiv (gcdL 0 cs : Nat))]
  else .none
theorem gcd_nz {cs : List Int} (hz : ∀ c ∈ cs, c ≠ 0) (h : cs ≠ []) : ((gcdL 0 cs : Nat) : Int) ≠ 0 := by
  obtain ⟨c, r, rfl⟩ : ∃ c r, cs = c :: r := by cases cs with | nil => exact absurd rfl h | cons c r => exact ⟨c, r, rfl⟩
  have := gcdL_pos (c :: r) 0 (.inr ⟨c, List.mem_cons_self, hz c List.mem_cons_self⟩)
  omega
theorem gcd_ok {cs : List Int} (hc : Sh cs) (h : ((gcdL 0 cs : Nat) : Int) ≠ 0) : divOk ((gcdL 0 cs : Nat) : Int) = true := divOk_of h (by
  have := gcdL_lt cs 0 hc (by decide)
  omega)
theorem plain_call {ls dv st tp : Nat} {x : Int} (h : Is T i 3 6 (B_made_plain tp ls dv st)) (h1 : Is T ls 2 4 B_least_sum) (h3 : Is T st 1 4 B_step) (h4 : Is T dv 2 2 B_divides) (h5 : Is T tp 1 2 (B_tupled tp)) (hf : 200 ≤ fu) (hc : Sh cs)
    (hl : cs.length ≤ 1000000) (hlb : bs.length ≤ 1000000) (hz : ∀ c ∈ cs, c ≠ 0) : callN T fu (n + 3) i [Zs t cs, Zs u bs, .dat (.int x)] bx = some (.dat (plainD cs bs x), bx) := by
  have a1 := step_call (n := n + 1) (bx := bx) (t := t) (fu := fu) h3 hf hc
  refine run_wp h rfl ?_
  unfold plainD
  by_cases q : divZ (gcdL 0 cs : Nat) x = true
  · simp only [B_made_plain, ent, ev_var, ev_con, ev_bin, ev_neg, ev_not, ev_cmp, ev_chain, ev_and, ev_or, ev_ite, ev_tup, ev_lst, ev_call, ev_callk, ev_bl, ev_len, ev_bits, ev_isi, ev_sub, ev_slc, ev_callb, ev_sset, ev_rev, rev_l, rev_o, ea_nil, ea_cons, ei_rng1, ei_rng2, ei_zip, ei_enum, ei_it, sq_skip, sq_seq, sq_asg, sq_tas, sq_par, sq_setix, sq_app, sq_ite, sq_ret, sq_retn, sq_pass, sq_cont, sq_brk, sq_aug_add, ex_skip, evP, setRs, evRet, pk, peek, rd, setAll, bindT, wipeE, unwipe, noOwn, condOf, isNo, RV.pd, RV.frz, canPut, entryE, List.length_cons, List.length_nil, List.map_cons, List.map_nil, List.cons_append, List.nil_append, List.append_nil, Nat.sub_self, Nat.reduceSub, Nat.reduceAdd, Nat.zero_add, List.replicate_succ, List.replicate_zero, List.getElem?_cons_zero, List.getElem?_cons_succ, List.set_cons_zero, List.set_cons_succ, List.getD_cons_zero, List.getD_cons_succ, mapM_pd_nil, mapM_pd_cons, permL_nil, permL_cons, Option.map_some, Option.map_none, Option.bind_some, Option.pure_def, Option.bind_eq_bind, Bool.false_eq_true, if_true, if_false, ite_true, ite_false, reduceIte, reduceCtorEq, cmp_lt, cmp_le, cmp_gt, cmp_ge, cmp_eq_i, cmp_ne_i, cmp_eq_b, cmp_ne_b, cmp_eq_s, cmp_ne_s, cmp_eq_nn, cmp_is, cmp_isnot, isNone_none, isNone_bool, isNone_int, isNone_str, isNone_list, isNone_tuple, bin_add, bin_sub, mulOk_n, mulOk_m, divOk_n, Nat.reduceLT, Int.reduceEq, Int.reduceNe, ne_eq, not_false_eq_true, decide_true, decide_false, bin_mul, bin_fdiv, bin_mod, bin_addl, bin_addt, bin_shl, bin_shr, bin_band, bin_bor, tru_b, tru_i, tru_l, tru_t, tru_o, tru_n, len_l, len_t, len_o, item_l, item_t, item_o, item_b0, item_b1, item_b2, at0, at1, at2, at3, at4, at5, atm1, blt_abs, blt_int, blt_intb, blt_tl, blt_tt, blt_ll, blt_lt, blt_sum, blt_all, blt_any, blt_min2, blt_max2, put_b0, put_b1, put_b2, szOk_0, szOk_1, szOk_n, Nat.reduceLeDiff, bin_mul2, bin_pow, Bool.not_true, Bool.not_false, wp_some, Nx_nx, Rt_rt, Option.toList_some, Option.toList_none, ev_lcR, lcR_nil, rangeD_map, zipW_map, enum_map, zip_tt, zip_tl, zip_lt, zip_ll, iter_t, iter_l, iter_o, lst_l, lst_o, seq_sq, iter_sq, len_sq, item_sq, list_sq, tuple_sq, zip_sq, pairD, step_no, stepC_eq, st_cmp, st_chain, st_and, st_or, st_not, st_isi, st_call, st_bl, st_var, setQ, a1, div_call h4, q]
    by_cases q2 : ((gcdL 0 cs : Nat) : Int) = 0
    · have e : cs = [] := by
        by_cases e : cs = []
        · exact e
        · exact absurd q2 (gcd_nz hz e)
      subst e
      simp only [q2, ev_var, ev_con, ev_bin, ev_neg, ev_not, ev_cmp, ev_chain, ev_and, ev_or, ev_ite, ev_tup, ev_lst, ev_call, ev_callk, ev_bl, ev_len, ev_bits, ev_isi, ev_sub, ev_slc, ev_callb, ev_sset, ev_rev, rev_l, rev_o, ea_nil, ea_cons, ei_rng1, ei_rng2, ei_zip, ei_enum, ei_it, sq_skip, sq_seq, sq_asg, sq_tas, sq_par, sq_setix, sq_app, sq_ite, sq_ret, sq_retn, sq_pass, sq_cont, sq_brk, sq_aug_add, ex_skip, evP, setRs, evRet, pk, peek, rd, setAll, bindT, wipeE, unwipe, noOwn, condOf, isNo, RV.pd, RV.frz, canPut, entryE, List.length_cons, List.length_nil, List.map_cons, List.map_nil, List.cons_append, List.nil_append, List.append_nil, Nat.sub_self, Nat.reduceSub, Nat.reduceAdd, Nat.zero_add, List.replicate_succ, List.replicate_zero, List.getElem?_cons_zero, List.getElem?_cons_succ, List.set_cons_zero, List.set_cons_succ, List.getD_cons_zero, List.getD_cons_succ, mapM_pd_nil, mapM_pd_cons, permL_nil, permL_cons, Option.map_some, Option.map_none, Option.bind_some, Option.pure_def, Option.bind_eq_bind, Bool.false_eq_true, if_true, if_false, ite_true, ite_false, reduceIte, reduceCtorEq, cmp_lt, cmp_le, cmp_gt, cmp_ge, cmp_eq_i, cmp_ne_i, cmp_eq_b, cmp_ne_b, cmp_eq_s, cmp_ne_s, cmp_eq_nn, cmp_is, cmp_isnot, isNone_none, isNone_bool, isNone_int, isNone_str, isNone_list, isNone_tuple, bin_add, bin_sub, mulOk_n, mulOk_m, divOk_n, Nat.reduceLT, Int.reduceEq, Int.reduceNe, ne_eq, not_false_eq_true, decide_true, decide_false, bin_mul, bin_fdiv, bin_mod, bin_addl, bin_addt, bin_shl, bin_shr, bin_band, bin_bor, tru_b, tru_i, tru_l, tru_t, tru_o, tru_n, len_l, len_t, len_o, item_l, item_t, item_o, item_b0, item_b1, item_b2, at0, at1, at2, at3, at4, at5, atm1, blt_abs, blt_int, blt_intb, blt_tl, blt_tt, blt_ll, blt_lt, blt_sum, blt_all, blt_any, blt_min2, blt_max2, put_b0, put_b1, put_b2, szOk_0, szOk_1, szOk_n, Nat.reduceLeDiff, bin_mul2, bin_pow, Bool.not_true, Bool.not_false, wp_some, Nx_nx, Rt_rt, Option.toList_some, Option.toList_none, ev_lcR, lcR_nil, rangeD_map, zipW_map, enum_map, zip_tt, zip_tl, zip_lt, zip_ll, iter_t, iter_l, iter_o, lst_l, lst_o, seq_sq, iter_sq, len_sq, item_sq, list_sq, tuple_sq, zip_sq, pairD, step_no, stepC_eq, st_cmp, st_chain, st_and, st_or, st_not, st_isi, st_call, st_bl, st_var, setQ, tup_ints h5 hlb, and_self]
    · have k := gcd_ok hc q2
      generalize ((gcdL 0 cs : Nat) : Int) = g at *
      simp only [q2, k, ev_var, ev_con, ev_bin, ev_neg, ev_not, ev_cmp, ev_chain, ev_and, ev_or, ev_ite, ev_tup, ev_lst, ev_call, ev_callk, ev_bl, ev_len, ev_bits, ev_isi, ev_sub, ev_slc, ev_callb, ev_sset, ev_rev, rev_l, rev_o, ea_nil, ea_cons, ei_rng1, ei_rng2, ei_zip, ei_enum, ei_it, sq_skip, sq_seq, sq_asg, sq_tas, sq_par, sq_setix, sq_app, sq_ite, sq_ret, sq_retn, sq_pass, sq_cont, sq_brk, sq_aug_add, ex_skip, evP, setRs, evRet, pk, peek, rd, setAll, bindT, wipeE, unwipe, noOwn, condOf, isNo, RV.pd, RV.frz, canPut, entryE, List.length_cons, List.length_nil, List.map_cons, List.map_nil, List.cons_append, List.nil_append, List.append_nil, Nat.sub_self, Nat.reduceSub, Nat.reduceAdd, Nat.zero_add, List.replicate_succ, List.replicate_zero, List.getElem?_cons_zero, List.getElem?_cons_succ, List.set_cons_zero, List.set_cons_succ, List.getD_cons_zero, List.getD_cons_succ, mapM_pd_nil, mapM_pd_cons, permL_nil, permL_cons, Option.map_some, Option.map_none, Option.bind_some, Option.pure_def, Option.bind_eq_bind, Bool.false_eq_true, if_true, if_false, ite_true, ite_false, reduceIte, reduceCtorEq, cmp_lt, cmp_le, cmp_gt, cmp_ge, cmp_eq_i, cmp_ne_i, cmp_eq_b, cmp_ne_b, cmp_eq_s, cmp_ne_s, cmp_eq_nn, cmp_is, cmp_isnot, isNone_none, isNone_bool, isNone_int, isNone_str, isNone_list, isNone_tuple, bin_add, bin_sub, mulOk_n, mulOk_m, divOk_n, Nat.reduceLT, Int.reduceEq, Int.reduceNe, ne_eq, not_false_eq_true, decide_true, decide_false, bin_mul, bin_fdiv, bin_mod, bin_addl, bin_addt, bin_shl, bin_shr, bin_band, bin_bor, tru_b, tru_i, tru_l, tru_t, tru_o, tru_n, len_l, len_t, len_o, item_l, item_t, item_o, item_b0, item_b1, item_b2, at0, at1, at2, at3, at4, at5, atm1, blt_abs, blt_int, blt_intb, blt_tl, blt_tt, blt_ll, blt_lt, blt_sum, blt_all, blt_any, blt_min2, blt_max2, put_b0, put_b1, put_b2, szOk_0, szOk_1, szOk_n, Nat.reduceLeDiff, bin_mul2, bin_pow, Bool.not_true, Bool.not_false, wp_some, Nx_nx, Rt_rt, Option.toList_some, Option.toList_none, ev_lcR, lcR_nil, rangeD_map, zipW_map, enum_map, zip_tt, zip_tl, zip_lt, zip_ll, iter_t, iter_l, iter_o, lst_l, lst_o, seq_sq, iter_sq, len_sq, item_sq, list_sq, tuple_sq, zip_sq, pairD, step_no, stepC_eq, st_cmp, st_chain, st_and, st_or, st_not, st_isi, st_call, st_bl, st_var, setQ, low_call h1 hc hl]
      rw [lcR_A (fun c : Int => ((c.natAbs : Int)).fdiv g) .int (by omega) fun p hp => by
        have a := abs_nat p
        generalize (p.natAbs : Int) = z at a
        simp only [ev_var, ev_con, ev_bin, ev_neg, ev_not, ev_cmp, ev_chain, ev_and, ev_or, ev_ite, ev_tup, ev_lst, ev_call, ev_callk, ev_bl, ev_len, ev_bits, ev_isi, ev_sub, ev_slc, ev_callb, ev_sset, ev_rev, rev_l, rev_o, ea_nil, ea_cons, ei_rng1, ei_rng2, ei_zip, ei_enum, ei_it, sq_skip, sq_seq, sq_asg, sq_tas, sq_par, sq_setix, sq_app, sq_ite, sq_ret, sq_retn, sq_pass, sq_cont, sq_brk, sq_aug_add, ex_skip, evP, setRs, evRet, pk, peek, rd, setAll, bindT, wipeE, unwipe, noOwn, condOf, isNo, RV.pd, RV.frz, canPut, entryE, List.length_cons, List.length_nil, List.map_cons, List.map_nil, List.cons_append, List.nil_append, List.append_nil, Nat.sub_self, Nat.reduceSub, Nat.reduceAdd, Nat.zero_add, List.replicate_succ, List.replicate_zero, List.getElem?_cons_zero, List.getElem?_cons_succ, List.set_cons_zero, List.set_cons_succ, List.getD_cons_zero, List.getD_cons_succ, mapM_pd_nil, mapM_pd_cons, permL_nil, permL_cons, Option.map_some, Option.map_none, Option.bind_some, Option.pure_def, Option.bind_eq_bind, Bool.false_eq_true, if_true, if_false, ite_true, ite_false, reduceIte, reduceCtorEq, cmp_lt, cmp_le, cmp_gt, cmp_ge, cmp_eq_i, cmp_ne_i, cmp_eq_b, cmp_ne_b, cmp_eq_s, cmp_ne_s, cmp_eq_nn, cmp_is, cmp_isnot, isNone_none, isNone_bool, isNone_int, isNone_str, isNone_list, isNone_tuple, bin_add, bin_sub, mulOk_n, mulOk_m, divOk_n, Nat.reduceLT, Int.reduceEq, Int.reduceNe, ne_eq, not_false_eq_true, decide_true, decide_false, bin_mul, bin_fdiv, bin_mod, bin_addl, bin_addt, bin_shl, bin_shr, bin_band, bin_bor, tru_b, tru_i, tru_l, tru_t, tru_o, tru_n, len_l, len_t, len_o, item_l, item_t, item_o, item_b0, item_b1, item_b2, at0, at1, at2, at3, at4, at5, atm1, blt_abs, blt_int, blt_intb, blt_tl, blt_tt, blt_ll, blt_lt, blt_sum, blt_all, blt_any, blt_min2, blt_max2, put_b0, put_b1, put_b2, szOk_0, szOk_1, szOk_n, Nat.reduceLeDiff, bin_mul2, bin_pow, Bool.not_true, Bool.not_false, wp_some, Nx_nx, Rt_rt, Option.toList_some, Option.toList_none, ev_lcR, lcR_nil, rangeD_map, zipW_map, enum_map, zip_tt, zip_tl, zip_lt, zip_ll, iter_t, iter_l, iter_o, lst_l, lst_o, seq_sq, iter_sq, len_sq, item_sq, list_sq, tuple_sq, zip_sq, pairD, step_no, stepC_eq, st_cmp, st_chain, st_and, st_or, st_not, st_isi, st_call, st_bl, st_var, setQ, k, a, and_self]]
      simp only [ev_var, ev_con, ev_bin, ev_neg, ev_not, ev_cmp, ev_chain, ev_and, ev_or, ev_ite, ev_tup, ev_lst, ev_call, ev_callk, ev_bl, ev_len, ev_bits, ev_isi, ev_sub, ev_slc, ev_callb, ev_sset, ev_rev, rev_l, rev_o, ea_nil, ea_cons, ei_rng1, ei_rng2, ei_zip, ei_enum, ei_it, sq_skip, sq_seq, sq_asg, sq_tas, sq_par, sq_setix, sq_app, sq_ite, sq_ret, sq_retn, sq_pass, sq_cont, sq_brk, sq_aug_add, ex_skip, evP, setRs, evRet, pk, peek, rd, setAll, bindT, wipeE, unwipe, noOwn, condOf, isNo, RV.pd, RV.frz, canPut, entryE, List.length_cons, List.length_nil, List.map_cons, List.map_nil, List.cons_append, List.nil_append, List.append_nil, Nat.sub_self, Nat.reduceSub, Nat.reduceAdd, Nat.zero_add, List.replicate_succ, List.replicate_zero, List.getElem?_cons_zero, List.getElem?_cons_succ, List.set_cons_zero, List.set_cons_succ, List.getD_cons_zero, List.getD_cons_succ, mapM_pd_nil, mapM_pd_cons, permL_nil, permL_cons, Option.map_some, Option.map_none, Option.bind_some, Option.pure_def, Option.bind_eq_bind, Bool.false_eq_true, if_true, if_false, ite_true, ite_false, reduceIte, reduceCtorEq, cmp_lt, cmp_le, cmp_gt, cmp_ge, cmp_eq_i, cmp_ne_i, cmp_eq_b, cmp_ne_b, cmp_eq_s, cmp_ne_s, cmp_eq_nn, cmp_is, cmp_isnot, isNone_none, isNone_bool, isNone_int, isNone_str, isNone_list, isNone_tuple, bin_add, bin_sub, mulOk_n, mulOk_m, divOk_n, Nat.reduceLT, Int.reduceEq, Int.reduceNe, ne_eq, not_false_eq_true, decide_true, decide_false, bin_mul, bin_fdiv, bin_mod, bin_addl, bin_addt, bin_shl, bin_shr, bin_band, bin_bor, tru_b, tru_i, tru_l, tru_t, tru_o, tru_n, len_l, len_t, len_o, item_l, item_t, item_o, item_b0, item_b1, item_b2, at0, at1, at2, at3, at4, at5, atm1, blt_abs, blt_int, blt_intb, blt_tl, blt_tt, blt_ll, blt_lt, blt_sum, blt_all, blt_any, blt_min2, blt_max2, put_b0, put_b1, put_b2, szOk_0, szOk_1, szOk_n, Nat.reduceLeDiff, bin_mul2, bin_pow, Bool.not_true, Bool.not_false, wp_some, Nx_nx, Rt_rt, Option.toList_some, Option.toList_none, ev_lcR, lcR_nil, rangeD_map, zipW_map, enum_map, zip_tt, zip_tl, zip_lt, zip_ll, iter_t, iter_l, iter_o, lst_l, lst_o, seq_sq, iter_sq, len_sq, item_sq, list_sq, tuple_sq, zip_sq, pairD, step_no, stepC_eq, st_cmp, st_chain, st_and, st_or, st_not, st_isi, st_call, st_bl, st_var, setQ, tup_ints h5 hlb, and_self]
  · simp only [B_made_plain, ent, ev_var, ev_con, ev_bin, ev_neg, ev_not, ev_cmp, ev_chain, ev_and, ev_or, ev_ite, ev_tup, ev_lst, ev_call, ev_callk, ev_bl, ev_len, ev_bits, ev_isi, ev_sub, ev_slc, ev_callb, ev_sset, ev_rev, rev_l, rev_o, ea_nil, ea_cons, ei_rng1, ei_rng2, ei_zip, ei_enum, ei_it, sq_skip, sq_seq, sq_asg, sq_tas, sq_par, sq_setix, sq_app, sq_ite, sq_ret, sq_retn, sq_pass, sq_cont, sq_brk, sq_aug_add, ex_skip, evP, setRs, evRet, pk, peek, rd, setAll, bindT, wipeE, unwipe, noOwn, condOf, isNo, RV.pd, RV.frz, canPut, entryE, List.length_cons, List.length_nil, List.map_cons, List.map_nil, List.cons_append, List.nil_append, List.append_nil, Nat.sub_self, Nat.reduceSub, Nat.reduceAdd, Nat.zero_add, List.replicate_succ, List.replicate_zero, List.getElem?_cons_zero, List.getElem?_cons_succ, List.set_cons_zero, List.set_cons_succ, List.getD_cons_zero, List.getD_cons_succ, mapM_pd_nil, mapM_pd_cons, permL_nil, permL_cons, Option.map_some, Option.map_none, Option.bind_some, Option.pure_def, Option.bind_eq_bind, Bool.false_eq_true, if_true, if_false, ite_true, ite_false, reduceIte, reduceCtorEq, cmp_lt, cmp_le, cmp_gt, cmp_ge, cmp_eq_i, cmp_ne_i, cmp_eq_b, cmp_ne_b, cmp_eq_s, cmp_ne_s, cmp_eq_nn, cmp_is, cmp_isnot, isNone_none, isNone_bool, isNone_int, isNone_str, isNone_list, isNone_tuple, bin_add, bin_sub, mulOk_n, mulOk_m, divOk_n, Nat.reduceLT, Int.reduceEq, Int.reduceNe, ne_eq, not_false_eq_true, decide_true, decide_false, bin_mul, bin_fdiv, bin_mod, bin_addl, bin_addt, bin_shl, bin_shr, bin_band, bin_bor, tru_b, tru_i, tru_l, tru_t, tru_o, tru_n, len_l, len_t, len_o, item_l, item_t, item_o, item_b0, item_b1, item_b2, at0, at1, at2, at3, at4, at5, atm1, blt_abs, blt_int, blt_intb, blt_tl, blt_tt, blt_ll, blt_lt, blt_sum, blt_all, blt_any, blt_min2, blt_max2, put_b0, put_b1, put_b2, szOk_0, szOk_1, szOk_n, Nat.reduceLeDiff, bin_mul2, bin_pow, Bool.not_true, Bool.not_false, wp_some, Nx_nx, Rt_rt, Option.toList_some, Option.toList_none, ev_lcR, lcR_nil, rangeD_map, zipW_map, enum_map, zip_tt, zip_tl, zip_lt, zip_ll, iter_t, iter_l, iter_o, lst_l, lst_o, seq_sq, iter_sq, len_sq, item_sq, list_sq, tuple_sq, zip_sq, pairD, step_no, stepC_eq, st_cmp, st_chain, st_and, st_or, st_not, st_isi, st_call, st_bl, st_var, setQ, a1, div_call h4, q, and_self]
/-! ### marks -/
/-- row k has the bits of the sums of the first k counters -/
structure Rows (l : List (Int × Int)) (rows : List Nat) : Prop where
  len : rows.length = l.length + 1
  bit : ∀ (k m : Nat), rows[k]? = some m → ∀ j : Nat, m.testBit j = made (absP (l.take k)) (j : Int)
theorem absP_snoc {l : List (Int × Int)} {p : Int × Int} : absP (l ++ [p]) = absP l ++ [((p.1.natAbs : Int), p.2)] := by unfold absP; rw [List.map_append]; rfl
abbrev natD (m : Nat) : PyData := .int (m : Int)
/-- small coefficients with bounds -/
def Sm (l : List (Int × Int)) : Prop := ∀ p ∈ l, p.1.natAbs ≤ 1000 ∧ 0 ≤ p.2 ∧ p.2 ≤ 900
theorem Sm.nn {l : List (Int × Int)} (h : Sm l) : Nn l := fun p hp => (h p hp).2.1
theorem wid_le : ∀ {l : List (Int × Int)}, Sm l → widP l ≤ 900000 * (l.length : Int)
  | [], _ => by simp [widP]
  | p :: l, h => by
    have ih := wid_le (l := l) fun q hq => h q (List.mem_cons_of_mem _ hq)
    obtain ⟨h1, h2, h3⟩ := h p List.mem_cons_self
    have : (p.1.natAbs : Int) * p.2 ≤ (p.1.natAbs : Int) * 900 := mul_le (by omega) h3
    rw [widP_cons, List.length_cons]; omega
theorem bor_shl (w k : Nat) : Builtin.bitOr (w : Int) ((w : Int) * 2 ^ k) = ((w ||| w <<< k : Nat) : Int) := by
  have e : (w : Int) * 2 ^ k = ((w <<< k : Nat) : Int) := by
    rw [Nat.shiftLeft_eq, Int.natCast_mul, Int.natCast_pow]; rfl
  rw [e, L2.bitOr_nn (Int.natCast_nonneg _) (Int.natCast_nonneg _), Int.toNat_natCast, Int.toNat_natCast]
theorem log_of_bits {w k : Nat} (h : ∀ j, w.testBit j = true → j ≤ k) : w.log2 ≤ k := by
  by_cases e : w = 0
  · subst e; simp
  · have : w < 2 ^ (k + 1) := Nat.lt_pow_two_of_testBit w fun j hj => by
      cases q : w.testBit j with
      | false => rfl
      | true => have := h j q; omega
    have := (Nat.log2_lt e).mpr this
    omega
theorem marks_call (h : Is T i 2 9 B_marks_along) (hc : Sm (cs.zip bs)) (hl : (cs.zip bs).length ≤ 100) (hf : 1000 ≤ fu) :
    ∃ rows : List Nat, callN T fu (n + 1) i [Zs t cs, Zs u bs] bx = some (.own (rows.map natD), bx) ∧ Rows (cs.zip bs) rows := by
  obtain ⟨r, b', e1, rows, e2, rfl, e3⟩ := run_ex (fu := fu) (n := n) (bx := bx) (args := [Zs t cs, Zs u bs]) (Q := fun r b => ∃ rows : List Nat, r = .own (rows.map natD) ∧ b = bx ∧ Rows (cs.zip bs) rows) h rfl (by
    simp only [B_marks_along, ent, ev_var, ev_con, ev_bin, ev_neg, ev_not, ev_cmp, ev_chain, ev_and, ev_or, ev_ite, ev_tup, ev_lst, ev_call, ev_callk, ev_bl, ev_len, ev_bits, ev_isi, ev_sub, ev_slc, ev_callb, ev_sset, ev_rev, rev_l, rev_o, ea_nil, ea_cons, ei_rng1, ei_rng2, ei_zip, ei_enum, ei_it, sq_skip, sq_seq, sq_asg, sq_tas, sq_par, sq_setix, sq_app, sq_ite, sq_ret, sq_retn, sq_pass, sq_cont, sq_brk, sq_aug_add, ex_skip, evP, setRs, evRet, pk, peek, rd, setAll, bindT, wipeE, unwipe, noOwn, condOf, isNo, RV.pd, RV.frz, canPut, entryE, List.length_cons, List.length_nil, List.map_cons, List.map_nil, List.cons_append, List.nil_append, List.append_nil, Nat.sub_self, Nat.reduceSub, Nat.reduceAdd, Nat.zero_add, List.replicate_succ, List.replicate_zero, List.getElem?_cons_zero, List.getElem?_cons_succ, List.set_cons_zero, List.set_cons_succ, List.getD_cons_zero, List.getD_cons_succ, mapM_pd_nil, mapM_pd_cons, permL_nil, permL_cons, Option.map_some, Option.map_none, Option.bind_some, Option.pure_def, Option.bind_eq_bind, Bool.false_eq_true, if_true, if_false, ite_true, ite_false, reduceIte, reduceCtorEq, cmp_lt, cmp_le, cmp_gt, cmp_ge, cmp_eq_i, cmp_ne_i, cmp_eq_b, cmp_ne_b, cmp_eq_s, cmp_ne_s, cmp_eq_nn, cmp_is, cmp_isnot, isNone_none, isNone_bool, isNone_int, isNone_str, isNone_list, isNone_tuple, bin_add, bin_sub, mulOk_n, mulOk_m, divOk_n, Nat.reduceLT, Int.reduceEq, Int.reduceNe, ne_eq, not_false_eq_true, decide_true, decide_false, bin_mul, bin_fdiv, bin_mod, bin_addl, bin_addt, bin_shl, bin_shr, bin_band, bin_bor, tru_b, tru_i, tru_l, tru_t, tru_o, tru_n, len_l, len_t, len_o, item_l, item_t, item_o, item_b0, item_b1, item_b2, at0, at1, at2, at3, at4, at5, atm1, blt_abs, blt_int, blt_intb, blt_tl, blt_tt, blt_ll, blt_lt, blt_sum, blt_all, blt_any, blt_min2, blt_max2, put_b0, put_b1, put_b2, szOk_0, szOk_1, szOk_n, Nat.reduceLeDiff, bin_mul2, bin_pow, Bool.not_true, Bool.not_false, wp_some, Nx_nx, Rt_rt, Option.toList_some, Option.toList_none, ev_lcR, lcR_nil, rangeD_map, zipW_map, enum_map, zip_tt, zip_tl, zip_lt, zip_ll, iter_t, iter_l, iter_o, lst_l, lst_o, seq_sq, iter_sq, len_sq, item_sq, list_sq, tuple_sq, zip_sq, pairD, step_no, stepC_eq, st_cmp, st_chain, st_and, st_or, st_not, st_isi, st_call, st_bl, st_var, setQ]
    refine wp_loop (l := cs.zip bs) (P := fun p => PyData.tuple [.int p.1, .int p.2]) (fun k g => ∃ (rs : List Nat) (m : Nat) (e3 e4 e5 e6 e7 e8 : Sl), g = ⟨[some (Zs t cs), some (Zs u bs), some (.own ((rs ++ [m]).map natD)), e3, e4, e5, e6, e7, e8], bx⟩ ∧ rs.length = k ∧
      ∀ k' m', (rs ++ [m])[k']? = some m' → ∀ j : Nat, m'.testBit j = made (absP ((cs.zip bs).take k')) (j : Int)) (by simp only [ev_var, ev_con, ev_bin, ev_neg, ev_not, ev_cmp, ev_chain, ev_and, ev_or, ev_ite, ev_tup, ev_lst, ev_call, ev_callk, ev_bl, ev_len, ev_bits, ev_isi, ev_sub, ev_slc, ev_callb, ev_sset, ev_rev, rev_l, rev_o, ea_nil, ea_cons, ei_rng1, ei_rng2, ei_zip, ei_enum, ei_it, sq_skip, sq_seq, sq_asg, sq_tas, sq_par, sq_setix, sq_app, sq_ite, sq_ret, sq_retn, sq_pass, sq_cont, sq_brk, sq_aug_add, ex_skip, evP, setRs, evRet, pk, peek, rd, setAll, bindT, wipeE, unwipe, noOwn, condOf, isNo, RV.pd, RV.frz, canPut, entryE, List.length_cons, List.length_nil, List.map_cons, List.map_nil, List.cons_append, List.nil_append, List.append_nil, Nat.sub_self, Nat.reduceSub, Nat.reduceAdd, Nat.zero_add, List.replicate_succ, List.replicate_zero, List.getElem?_cons_zero, List.getElem?_cons_succ, List.set_cons_zero, List.set_cons_succ, List.getD_cons_zero, List.getD_cons_succ, mapM_pd_nil, mapM_pd_cons, permL_nil, permL_cons, Option.map_some, Option.map_none, Option.bind_some, Option.pure_def, Option.bind_eq_bind, Bool.false_eq_true, if_true, if_false, ite_true, ite_false, reduceIte, reduceCtorEq, cmp_lt, cmp_le, cmp_gt, cmp_ge, cmp_eq_i, cmp_ne_i, cmp_eq_b, cmp_ne_b, cmp_eq_s, cmp_ne_s, cmp_eq_nn, cmp_is, cmp_isnot, isNone_none, isNone_bool, isNone_int, isNone_str, isNone_list, isNone_tuple, bin_add, bin_sub, mulOk_n, mulOk_m, divOk_n, Nat.reduceLT, Int.reduceEq, Int.reduceNe, ne_eq, not_false_eq_true, decide_true, decide_false, bin_mul, bin_fdiv, bin_mod, bin_addl, bin_addt, bin_shl, bin_shr, bin_band, bin_bor, tru_b, tru_i, tru_l, tru_t, tru_o, tru_n, len_l, len_t, len_o, item_l, item_t, item_o, item_b0, item_b1, item_b2, at0, at1, at2, at3, at4, at5, atm1, blt_abs, blt_int, blt_intb, blt_tl, blt_tt, blt_ll, blt_lt, blt_sum, blt_all, blt_any, blt_min2, blt_max2, put_b0, put_b1, put_b2, szOk_0, szOk_1, szOk_n, Nat.reduceLeDiff, bin_mul2, bin_pow, Bool.not_true, Bool.not_false, wp_some, Nx_nx, Rt_rt, Option.toList_some, Option.toList_none, ev_lcR, lcR_nil, rangeD_map, zipW_map, enum_map, zip_tt, zip_tl, zip_lt, zip_ll, iter_t, iter_l, iter_o, lst_l, lst_o, seq_sq, iter_sq, len_sq, item_sq, list_sq, tuple_sq, zip_sq, pairD, step_no, stepC_eq, st_cmp, st_chain, st_and, st_or, st_not, st_isi, st_call, st_bl, st_var, setQ]; rfl) ⟨[], 1, none, none, none, none, none, none, rfl, rfl, fun k' m' hk j => ?_⟩ ?_ ?_
    · cases k' with
      | succ k' => simp at hk
      | zero =>
        simp at hk; subst hk
        rw [Bool.eq_iff_iff, List.take_zero]
        show _ ↔ made [] _ = true
        rw [mk_nil]
        by_cases hj : j = 0
        · subst hj; decide
        · have : Nat.testBit 1 j = false := Nat.testBit_lt_two_pow (Nat.one_lt_two_pow hj)
          rw [this]; simp; omega
    · rintro k p g hk ⟨rs, m, e3, e4, e5, e6, e7, e8, rfl, hlen, hb⟩
      obtain ⟨c1, c2, c3⟩ := hc p (List.mem_of_getElem? hk)
      have hkl := (List.getElem?_eq_some_iff.mp hk).1
      have mb : ∀ j : Nat, m.testBit j = made (absP ((cs.zip bs).take k)) (j : Int) := hb k m (by rw [← hlen]; simp)
      have mw : ∀ j : Nat, m.testBit j = true → j ≤ 900000 * 100 := fun j hj => by
        rw [mb] at hj
        have := (mk_range ((Sm.nn hc).take k) hj).2
        have := wid_le (l := (cs.zip bs).take k) fun q hq => hc q (List.mem_of_mem_take hq)
        rw [List.length_take] at this
        omega
      simp only [ev_var, ev_con, ev_bin, ev_neg, ev_not, ev_cmp, ev_chain, ev_and, ev_or, ev_ite, ev_tup, ev_lst, ev_call, ev_callk, ev_bl, ev_len, ev_bits, ev_isi, ev_sub, ev_slc, ev_callb, ev_sset, ev_rev, rev_l, rev_o, ea_nil, ea_cons, ei_rng1, ei_rng2, ei_zip, ei_enum, ei_it, sq_skip, sq_seq, sq_asg, sq_tas, sq_par, sq_setix, sq_app, sq_ite, sq_ret, sq_retn, sq_pass, sq_cont, sq_brk, sq_aug_add, ex_skip, evP, setRs, evRet, pk, peek, rd, setAll, bindT, wipeE, unwipe, noOwn, condOf, isNo, RV.pd, RV.frz, canPut, entryE, List.length_cons, List.length_nil, List.map_cons, List.map_nil, List.cons_append, List.nil_append, List.append_nil, Nat.sub_self, Nat.reduceSub, Nat.reduceAdd, Nat.zero_add, List.replicate_succ, List.replicate_zero, List.getElem?_cons_zero, List.getElem?_cons_succ, List.set_cons_zero, List.set_cons_succ, List.getD_cons_zero, List.getD_cons_succ, mapM_pd_nil, mapM_pd_cons, permL_nil, permL_cons, Option.map_some, Option.map_none, Option.bind_some, Option.pure_def, Option.bind_eq_bind, Bool.false_eq_true, if_true, if_false, ite_true, ite_false, reduceIte, reduceCtorEq, cmp_lt, cmp_le, cmp_gt, cmp_ge, cmp_eq_i, cmp_ne_i, cmp_eq_b, cmp_ne_b, cmp_eq_s, cmp_ne_s, cmp_eq_nn, cmp_is, cmp_isnot, isNone_none, isNone_bool, isNone_int, isNone_str, isNone_list, isNone_tuple, bin_add, bin_sub, mulOk_n, mulOk_m, divOk_n, Nat.reduceLT, Int.reduceEq, Int.reduceNe, ne_eq, not_false_eq_true, decide_true, decide_false, bin_mul, bin_fdiv, bin_mod, bin_addl, bin_addt, bin_shl, bin_shr, bin_band, bin_bor, tru_b, tru_i, tru_l, tru_t, tru_o, tru_n, len_l, len_t, len_o, item_l, item_t, item_o, item_b0, item_b1, item_b2, at0, at1, at2, at3, at4, at5, atm1, blt_abs, blt_int, blt_intb, blt_tl, blt_tt, blt_ll, blt_lt, blt_sum, blt_all, blt_any, blt_min2, blt_max2, put_b0, put_b1, put_b2, szOk_0, szOk_1, szOk_n, Nat.reduceLeDiff, bin_mul2, bin_pow, Bool.not_true, Bool.not_false, wp_some, Nx_nx, Rt_rt, Option.toList_some, Option.toList_none, ev_lcR, lcR_nil, rangeD_map, zipW_map, enum_map, zip_tt, zip_tl, zip_lt, zip_ll, iter_t, iter_l, iter_o, lst_l, lst_o, seq_sq, iter_sq, len_sq, item_sq, list_sq, tuple_sq, zip_sq, pairD, step_no, stepC_eq, st_cmp, st_chain, st_and, st_or, st_not, st_isi, st_call, st_bl, st_var, setQ, List.map_append]
      have a := abs_nat p.1
      refine wp_while (I := fun μ g => ∃ (w : Nat) (L pt c : Int) (e8 : Sl), g = ⟨[some (Zs t cs), some (Zs u bs), some (.own (rs.map natD ++ [natD m])), some (.dat (.int p.1)), some (.dat (.int p.2)), some (.dat (natD w)), some (.dat (.int L)), some (.dat (.int pt)), e8], bx⟩ ∧
        0 ≤ L ∧ L = (μ : Int) ∧ c + L = p.2 ∧ 0 ≤ c ∧ (0 < L → pt = c + 1) ∧ ∀ j : Nat, w.testBit j = true ↔ ∃ x : Nat, (x : Int) ≤ c ∧ p.1.natAbs * x ≤ j ∧ m.testBit (j - p.1.natAbs * x) = true) p.2.toNat (by omega)
        ⟨m, p.2, 1, 0, e8, rfl, c2, by omega, by omega, by omega, fun _ => rfl, fun j => ⟨fun hj => ⟨0, by omega, by simp, by simpa using hj⟩, fun ⟨x, x0, x1, x2⟩ => by
          have : x = 0 := by omega
          subst this; simpa using x2⟩⟩ ?_
      rintro μ g hμ ⟨w, L, pt, c, e8, rfl, L0, Lμ, cL, c0, hpt, wb⟩
      simp only [ev_var, ev_con, ev_bin, ev_neg, ev_not, ev_cmp, ev_chain, ev_and, ev_or, ev_ite, ev_tup, ev_lst, ev_call, ev_callk, ev_bl, ev_len, ev_bits, ev_isi, ev_sub, ev_slc, ev_callb, ev_sset, ev_rev, rev_l, rev_o, ea_nil, ea_cons, ei_rng1, ei_rng2, ei_zip, ei_enum, ei_it, sq_skip, sq_seq, sq_asg, sq_tas, sq_par, sq_setix, sq_app, sq_ite, sq_ret, sq_retn, sq_pass, sq_cont, sq_brk, sq_aug_add, ex_skip, evP, setRs, evRet, pk, peek, rd, setAll, bindT, wipeE, unwipe, noOwn, condOf, isNo, RV.pd, RV.frz, canPut, entryE, List.length_cons, List.length_nil, List.map_cons, List.map_nil, List.cons_append, List.nil_append, List.append_nil, Nat.sub_self, Nat.reduceSub, Nat.reduceAdd, Nat.zero_add, List.replicate_succ, List.replicate_zero, List.getElem?_cons_zero, List.getElem?_cons_succ, List.set_cons_zero, List.set_cons_succ, List.getD_cons_zero, List.getD_cons_succ, mapM_pd_nil, mapM_pd_cons, permL_nil, permL_cons, Option.map_some, Option.map_none, Option.bind_some, Option.pure_def, Option.bind_eq_bind, Bool.false_eq_true, if_true, if_false, ite_true, ite_false, reduceIte, reduceCtorEq, cmp_lt, cmp_le, cmp_gt, cmp_ge, cmp_eq_i, cmp_ne_i, cmp_eq_b, cmp_ne_b, cmp_eq_s, cmp_ne_s, cmp_eq_nn, cmp_is, cmp_isnot, isNone_none, isNone_bool, isNone_int, isNone_str, isNone_list, isNone_tuple, bin_add, bin_sub, mulOk_n, mulOk_m, divOk_n, Nat.reduceLT, Int.reduceEq, Int.reduceNe, ne_eq, not_false_eq_true, decide_true, decide_false, bin_mul, bin_fdiv, bin_mod, bin_addl, bin_addt, bin_shl, bin_shr, bin_band, bin_bor, tru_b, tru_i, tru_l, tru_t, tru_o, tru_n, len_l, len_t, len_o, item_l, item_t, item_o, item_b0, item_b1, item_b2, at0, at1, at2, at3, at4, at5, atm1, blt_abs, blt_int, blt_intb, blt_tl, blt_tt, blt_ll, blt_lt, blt_sum, blt_all, blt_any, blt_min2, blt_max2, put_b0, put_b1, put_b2, szOk_0, szOk_1, szOk_n, Nat.reduceLeDiff, bin_mul2, bin_pow, Bool.not_true, Bool.not_false, wp_some, Nx_nx, Rt_rt, Option.toList_some, Option.toList_none, ev_lcR, lcR_nil, rangeD_map, zipW_map, enum_map, zip_tt, zip_tl, zip_lt, zip_ll, iter_t, iter_l, iter_o, lst_l, lst_o, seq_sq, iter_sq, len_sq, item_sq, list_sq, tuple_sq, zip_sq, pairD, step_no, stepC_eq, st_cmp, st_chain, st_and, st_or, st_not, st_isi, st_call, st_bl, st_var, setQ]
      refine ⟨_, rfl, fun ht => ?_, fun ht => ?_⟩
      · have hL : 0 < L := of_decide_eq_true ht
        have := hpt hL
        subst this
        have ww : w.log2 ≤ 900000 * 101 := log_of_bits fun j hj => by
          obtain ⟨x, x0, x1, x2⟩ := (wb j).mp hj
          have := mw _ x2
          have : p.1.natAbs * x ≤ 1000 * 900 := Nat.mul_le_mul c1 (by omega)
          omega
        refine ⟨by omega, ?_⟩
        obtain ⟨s, hs, s0, sL, sp, sor⟩ : ∃ s : Nat, (if L < c + 1 then L else c + 1) = (s : Int) ∧ 0 < s ∧ (s : Int) ≤ L ∧ (s : Int) ≤ c + 1 ∧ ((s : Int) = L ∨ (s : Int) = c + 1) := by
          refine ⟨(if L < c + 1 then L else c + 1).toNat, ?_, ?_, ?_, ?_, ?_⟩ <;> split <;> omega
        have m1 : mulOk (p.1.natAbs : Int) (s : Int) = true := mulOk_l (by omega)
        have as : p.1.natAbs * s ≤ 1000 * 900 := Nat.mul_le_mul c1 (by omega)
        have hsh : shlOk (w : Int) ((p.1.natAbs : Int) * (s : Int)) = true := by
          unfold shlOk
          rw [← Int.natCast_mul, decide_eq_true (by omega), Bool.true_and]
          refine decide_eq_true ?_
          rw [Int.natAbs_natCast]; omega
        have tn : ((p.1.natAbs : Int) * (s : Int)).toNat = p.1.natAbs * s := by rw [← Int.natCast_mul, Int.toNat_natCast]
        have bo := bor_shl w (p.1.natAbs * s)
        generalize hz : (p.1.natAbs : Int) = z at a m1 hsh tn
        simp only [ev_var, ev_con, ev_bin, ev_neg, ev_not, ev_cmp, ev_chain, ev_and, ev_or, ev_ite, ev_tup, ev_lst, ev_call, ev_callk, ev_bl, ev_len, ev_bits, ev_isi, ev_sub, ev_slc, ev_callb, ev_sset, ev_rev, rev_l, rev_o, ea_nil, ea_cons, ei_rng1, ei_rng2, ei_zip, ei_enum, ei_it, sq_skip, sq_seq, sq_asg, sq_tas, sq_par, sq_setix, sq_app, sq_ite, sq_ret, sq_retn, sq_pass, sq_cont, sq_brk, sq_aug_add, ex_skip, evP, setRs, evRet, pk, peek, rd, setAll, bindT, wipeE, unwipe, noOwn, condOf, isNo, RV.pd, RV.frz, canPut, entryE, List.length_cons, List.length_nil, List.map_cons, List.map_nil, List.cons_append, List.nil_append, List.append_nil, Nat.sub_self, Nat.reduceSub, Nat.reduceAdd, Nat.zero_add, List.replicate_succ, List.replicate_zero, List.getElem?_cons_zero, List.getElem?_cons_succ, List.set_cons_zero, List.set_cons_succ, List.getD_cons_zero, List.getD_cons_succ, mapM_pd_nil, mapM_pd_cons, permL_nil, permL_cons, Option.map_some, Option.map_none, Option.bind_some, Option.pure_def, Option.bind_eq_bind, Bool.false_eq_true, if_true, if_false, ite_true, ite_false, reduceIte, reduceCtorEq, cmp_lt, cmp_le, cmp_gt, cmp_ge, cmp_eq_i, cmp_ne_i, cmp_eq_b, cmp_ne_b, cmp_eq_s, cmp_ne_s, cmp_eq_nn, cmp_is, cmp_isnot, isNone_none, isNone_bool, isNone_int, isNone_str, isNone_list, isNone_tuple, bin_add, bin_sub, mulOk_n, mulOk_m, divOk_n, Nat.reduceLT, Int.reduceEq, Int.reduceNe, ne_eq, not_false_eq_true, decide_true, decide_false, bin_mul, bin_fdiv, bin_mod, bin_addl, bin_addt, bin_shl, bin_shr, bin_band, bin_bor, tru_b, tru_i, tru_l, tru_t, tru_o, tru_n, len_l, len_t, len_o, item_l, item_t, item_o, item_b0, item_b1, item_b2, at0, at1, at2, at3, at4, at5, atm1, blt_abs, blt_int, blt_intb, blt_tl, blt_tt, blt_ll, blt_lt, blt_sum, blt_all, blt_any, blt_min2, blt_max2, put_b0, put_b1, put_b2, szOk_0, szOk_1, szOk_n, Nat.reduceLeDiff, bin_mul2, bin_pow, Bool.not_true, Bool.not_false, wp_some, Nx_nx, Rt_rt, Option.toList_some, Option.toList_none, ev_lcR, lcR_nil, rangeD_map, zipW_map, enum_map, zip_tt, zip_tl, zip_lt, zip_ll, iter_t, iter_l, iter_o, lst_l, lst_o, seq_sq, iter_sq, len_sq, item_sq, list_sq, tuple_sq, zip_sq, pairD, step_no, stepC_eq, st_cmp, st_chain, st_and, st_or, st_not, st_isi, st_call, st_bl, st_var, setQ, hs, a, m1, natD, bin_shl hsh, tn, bin_bor, bo]
        refine ⟨(L - s).toNat, by omega, w ||| w <<< (p.1.natAbs * s), L - s, c + 1 + (c + 1), c + s, _, rfl, by omega, by omega, by omega, by omega, fun h2 => ?_, fun j => ?_⟩
        · rcases sor with e | e <;> omega
        · rw [Nat.testBit_or, Nat.testBit_shiftLeft, Bool.or_eq_true, Bool.and_eq_true, decide_eq_true_eq, wb]
          constructor
          · rintro (⟨x, x0, x1, x2⟩ | ⟨g0, g1⟩)
            · exact ⟨x, by omega, x1, x2⟩
            · obtain ⟨x, x0, x1, x2⟩ := (wb _).mp g1
              refine ⟨x + s, by omega, by rw [Nat.mul_add]; omega, ?_⟩
              rw [Nat.mul_add, show j - (p.1.natAbs * x + p.1.natAbs * s) = j - p.1.natAbs * s - p.1.natAbs * x by omega]
              exact x2
          · rintro ⟨x, x0, x1, x2⟩
            by_cases hx : (x : Int) ≤ c
            · exact .inl ⟨x, hx, x1, x2⟩
            · have e : p.1.natAbs * x = p.1.natAbs * (x - s) + p.1.natAbs * s := by rw [← Nat.mul_add, Nat.sub_add_cancel (by omega)]
              refine .inr ⟨by omega, (wb _).mpr ⟨x - s, by omega, by omega, ?_⟩⟩
              rw [show j - p.1.natAbs * s - p.1.natAbs * (x - s) = j - p.1.natAbs * x by omega]
              exact x2
      · have hL : ¬ 0 < L := of_decide_eq_false ht
        have hsz : (rs.map natD ++ [natD m]).length < 16777216 := by rw [List.length_append, List.length_map]; simp; omega
        simp only [ev_var, ev_con, ev_bin, ev_neg, ev_not, ev_cmp, ev_chain, ev_and, ev_or, ev_ite, ev_tup, ev_lst, ev_call, ev_callk, ev_bl, ev_len, ev_bits, ev_isi, ev_sub, ev_slc, ev_callb, ev_sset, ev_rev, rev_l, rev_o, ea_nil, ea_cons, ei_rng1, ei_rng2, ei_zip, ei_enum, ei_it, sq_skip, sq_seq, sq_asg, sq_tas, sq_par, sq_setix, sq_app, sq_ite, sq_ret, sq_retn, sq_pass, sq_cont, sq_brk, sq_aug_add, ex_skip, evP, setRs, evRet, pk, peek, rd, setAll, bindT, wipeE, unwipe, noOwn, condOf, isNo, RV.pd, RV.frz, canPut, entryE, List.length_cons, List.length_nil, List.map_cons, List.map_nil, List.cons_append, List.nil_append, List.append_nil, Nat.sub_self, Nat.reduceSub, Nat.reduceAdd, Nat.zero_add, List.replicate_succ, List.replicate_zero, List.getElem?_cons_zero, List.getElem?_cons_succ, List.set_cons_zero, List.set_cons_succ, List.getD_cons_zero, List.getD_cons_succ, mapM_pd_nil, mapM_pd_cons, permL_nil, permL_cons, Option.map_some, Option.map_none, Option.bind_some, Option.pure_def, Option.bind_eq_bind, Bool.false_eq_true, if_true, if_false, ite_true, ite_false, reduceIte, reduceCtorEq, cmp_lt, cmp_le, cmp_gt, cmp_ge, cmp_eq_i, cmp_ne_i, cmp_eq_b, cmp_ne_b, cmp_eq_s, cmp_ne_s, cmp_eq_nn, cmp_is, cmp_isnot, isNone_none, isNone_bool, isNone_int, isNone_str, isNone_list, isNone_tuple, bin_add, bin_sub, mulOk_n, mulOk_m, divOk_n, Nat.reduceLT, Int.reduceEq, Int.reduceNe, ne_eq, not_false_eq_true, decide_true, decide_false, bin_mul, bin_fdiv, bin_mod, bin_addl, bin_addt, bin_shl, bin_shr, bin_band, bin_bor, tru_b, tru_i, tru_l, tru_t, tru_o, tru_n, len_l, len_t, len_o, item_l, item_t, item_o, item_b0, item_b1, item_b2, at0, at1, at2, at3, at4, at5, atm1, blt_abs, blt_int, blt_intb, blt_tl, blt_tt, blt_ll, blt_lt, blt_sum, blt_all, blt_any, blt_min2, blt_max2, put_b0, put_b1, put_b2, szOk_0, szOk_1, szOk_n, Nat.reduceLeDiff, bin_mul2, bin_pow, Bool.not_true, Bool.not_false, wp_some, Nx_nx, Rt_rt, Option.toList_some, Option.toList_none, ev_lcR, lcR_nil, rangeD_map, zipW_map, enum_map, zip_tt, zip_tl, zip_lt, zip_ll, iter_t, iter_l, iter_o, lst_l, lst_o, seq_sq, iter_sq, len_sq, item_sq, list_sq, tuple_sq, zip_sq, pairD, step_no, stepC_eq, st_cmp, st_chain, st_and, st_or, st_not, st_isi, st_call, st_bl, st_var, setQ, appE, natD, hsz]
        refine .inl ⟨rs ++ [m], w, _, _, _, _, _, _, by simp only [List.map_append, List.map_cons, List.map_nil]; rfl, by simp; omega, fun k' m' hk' j => ?_⟩
        by_cases hk2 : k' < (rs ++ [m]).length
        · rw [List.getElem?_append_left hk2] at hk'
          exact hb k' m' hk' j
        · have e : k' = k + 1 := by
            have := (List.getElem?_eq_some_iff.mp hk').1
            simp at this hk2; omega
          subst e
          have e2 : m' = w := by
            rw [List.getElem?_append_right (by simp; omega)] at hk'
            simp [hlen] at hk'
            exact hk'.symm
          subst e2
          rw [Bool.eq_iff_iff, wb, List.take_add_one, hk, Option.toList_some]
          rw [absP_snoc, mk_snoc (p := ((p.1.natAbs : Int), p.2)) (absP_nn ((Sm.nn hc).take k)) c2]
          simp only
          constructor
          · rintro ⟨x, x0, x1, x2⟩
            refine ⟨x, by omega, by omega, ?_⟩
            rw [mb, Int.natCast_sub x1, Int.natCast_mul] at x2
            exact x2
          · rintro ⟨x, x0, x1, x2⟩
            have e : ((x.toNat : Nat) : Int) = x := by omega
            have r := (mk_range ((Sm.nn hc).take k) x2).1
            have x3 : p.1.natAbs * x.toNat ≤ j := by
              have : ((p.1.natAbs * x.toNat : Nat) : Int) ≤ (j : Int) := by rw [Int.natCast_mul, e]; omega
              omega
            refine ⟨x.toNat, by omega, x3, ?_⟩
            rw [mb, Int.natCast_sub x3, Int.natCast_mul, e]
            exact x2
    · rintro g ⟨rs, m, e3, e4, e5, e6, e7, e8, rfl, hlen, hb⟩
      simp only [ev_var, ev_con, ev_bin, ev_neg, ev_not, ev_cmp, ev_chain, ev_and, ev_or, ev_ite, ev_tup, ev_lst, ev_call, ev_callk, ev_bl, ev_len, ev_bits, ev_isi, ev_sub, ev_slc, ev_callb, ev_sset, ev_rev, rev_l, rev_o, ea_nil, ea_cons, ei_rng1, ei_rng2, ei_zip, ei_enum, ei_it, sq_skip, sq_seq, sq_asg, sq_tas, sq_par, sq_setix, sq_app, sq_ite, sq_ret, sq_retn, sq_pass, sq_cont, sq_brk, sq_aug_add, ex_skip, evP, setRs, evRet, pk, peek, rd, setAll, bindT, wipeE, unwipe, noOwn, condOf, isNo, RV.pd, RV.frz, canPut, entryE, List.length_cons, List.length_nil, List.map_cons, List.map_nil, List.cons_append, List.nil_append, List.append_nil, Nat.sub_self, Nat.reduceSub, Nat.reduceAdd, Nat.zero_add, List.replicate_succ, List.replicate_zero, List.getElem?_cons_zero, List.getElem?_cons_succ, List.set_cons_zero, List.set_cons_succ, List.getD_cons_zero, List.getD_cons_succ, mapM_pd_nil, mapM_pd_cons, permL_nil, permL_cons, Option.map_some, Option.map_none, Option.bind_some, Option.pure_def, Option.bind_eq_bind, Bool.false_eq_true, if_true, if_false, ite_true, ite_false, reduceIte, reduceCtorEq, cmp_lt, cmp_le, cmp_gt, cmp_ge, cmp_eq_i, cmp_ne_i, cmp_eq_b, cmp_ne_b, cmp_eq_s, cmp_ne_s, cmp_eq_nn, cmp_is, cmp_isnot, isNone_none, isNone_bool, isNone_int, isNone_str, isNone_list, isNone_tuple, bin_add, bin_sub, mulOk_n, mulOk_m, divOk_n, Nat.reduceLT, Int.reduceEq, Int.reduceNe, ne_eq, not_false_eq_true, decide_true, decide_false, bin_mul, bin_fdiv, bin_mod, bin_addl, bin_addt, bin_shl, bin_shr, bin_band, bin_bor, tru_b, tru_i, tru_l, tru_t, tru_o, tru_n, len_l, len_t, len_o, item_l, item_t, item_o, item_b0, item_b1, item_b2, at0, at1, at2, at3, at4, at5, atm1, blt_abs, blt_int, blt_intb, blt_tl, blt_tt, blt_ll, blt_lt, blt_sum, blt_all, blt_any, blt_min2, blt_max2, put_b0, put_b1, put_b2, szOk_0, szOk_1, szOk_n, Nat.reduceLeDiff, bin_mul2, bin_pow, Bool.not_true, Bool.not_false, wp_some, Nx_nx, Rt_rt, Option.toList_some, Option.toList_none, ev_lcR, lcR_nil, rangeD_map, zipW_map, enum_map, zip_tt, zip_tl, zip_lt, zip_ll, iter_t, iter_l, iter_o, lst_l, lst_o, seq_sq, iter_sq, len_sq, item_sq, list_sq, tuple_sq, zip_sq, pairD, step_no, stepC_eq, st_cmp, st_chain, st_and, st_or, st_not, st_isi, st_call, st_bl, st_var, setQ]
      exact ⟨rs ++ [m], rfl, trivial, by rw [List.length_append, hlen]; rfl, hb⟩)
  subst e2
  exact ⟨rows, e1, e3⟩
theorem Rows.last {l : List (Int × Int)} {rows : List Nat} (h : Rows l rows) : ∃ rs m, rows = rs ++ [m] ∧ ∀ j : Nat, m.testBit j = made (absP l) (j : Int) := by
  have hl := h.len
  obtain ⟨rs, m, rfl⟩ : ∃ rs m, rows = rs ++ [m] := ⟨rows.dropLast, rows.getLast (by intro z; rw [z] at hl; simp at hl), (List.dropLast_concat_getLast _).symm⟩
  refine ⟨rs, m, rfl, fun j => ?_⟩
  have := h.bit l.length m (by
    rw [List.length_append] at hl
    have e : rs.length = l.length := by simpa using hl
    rw [← e]; simp) j
  rwa [List.take_length] at this
theorem bits_eq (m : Nat) : (Builtin.Int.intBits (m : Int) : Nat) = if m = 0 then 0 else m.log2 + 1 := by
  unfold Builtin.Int.intBits
  by_cases h : m = 0
  · subst h; rfl
  · rw [if_neg h, if_neg (by simp; exact h), Int.natAbs_natCast]
theorem bits_lt {m j : Nat} (h : m.testBit j = true) : j < Builtin.Int.intBits (m : Int) := by
  rw [bits_eq]
  by_cases e : m = 0
  · subst e; simp at h
  · rw [if_neg e]
    have h1 : 2 ^ j ≤ m := Nat.ge_two_pow_of_testBit h
    have h2 := (Nat.le_log2 e).mpr h1
    omega
def markB (m : Nat) (x : Int) : Bool := decide (0 ≤ x) && m.testBit x.toNat
theorem marked_call {m : Nat} {x : Int} (h : Is T i 2 2 B_is_marked) : callN T fu (n + 1) i [.dat (natD m), .dat (.int x)] bx = some (.dat (.bool (markB m x)), bx) := by
  refine run_wp h rfl ?_
  unfold markB
  by_cases q : 0 ≤ x
  · by_cases q2 : x < (Builtin.Int.intBits (m : Int) : Nat)
    · have e : decide ((((m : Int) / 2 ^ x.toNat) % 2) = 1) = m.testBit x.toNat := by
        rw [Nat.testBit_eq_decide_div_mod_eq]
        have : (m : Int) / 2 ^ x.toNat % 2 = ((m / 2 ^ x.toNat % 2 : Nat) : Int) := by
          rw [Int.natCast_emod, Int.natCast_ediv, Int.natCast_pow]; rfl
        rw [this]
        exact decide_eq_decide.mpr (by omega)
      simp only [B_is_marked, ent, ev_var, ev_con, ev_bin, ev_neg, ev_not, ev_cmp, ev_chain, ev_and, ev_or, ev_ite, ev_tup, ev_lst, ev_call, ev_callk, ev_bl, ev_len, ev_bits, ev_isi, ev_sub, ev_slc, ev_callb, ev_sset, ev_rev, rev_l, rev_o, ea_nil, ea_cons, ei_rng1, ei_rng2, ei_zip, ei_enum, ei_it, sq_skip, sq_seq, sq_asg, sq_tas, sq_par, sq_setix, sq_app, sq_ite, sq_ret, sq_retn, sq_pass, sq_cont, sq_brk, sq_aug_add, ex_skip, evP, setRs, evRet, pk, peek, rd, setAll, bindT, wipeE, unwipe, noOwn, condOf, isNo, RV.pd, RV.frz, canPut, entryE, List.length_cons, List.length_nil, List.map_cons, List.map_nil, List.cons_append, List.nil_append, List.append_nil, Nat.sub_self, Nat.reduceSub, Nat.reduceAdd, Nat.zero_add, List.replicate_succ, List.replicate_zero, List.getElem?_cons_zero, List.getElem?_cons_succ, List.set_cons_zero, List.set_cons_succ, List.getD_cons_zero, List.getD_cons_succ, mapM_pd_nil, mapM_pd_cons, permL_nil, permL_cons, Option.map_some, Option.map_none, Option.bind_some, Option.pure_def, Option.bind_eq_bind, Bool.false_eq_true, if_true, if_false, ite_true, ite_false, reduceIte, reduceCtorEq, cmp_lt, cmp_le, cmp_gt, cmp_ge, cmp_eq_i, cmp_ne_i, cmp_eq_b, cmp_ne_b, cmp_eq_s, cmp_ne_s, cmp_eq_nn, cmp_is, cmp_isnot, isNone_none, isNone_bool, isNone_int, isNone_str, isNone_list, isNone_tuple, bin_add, bin_sub, mulOk_n, mulOk_m, divOk_n, Nat.reduceLT, Int.reduceEq, Int.reduceNe, ne_eq, not_false_eq_true, decide_true, decide_false, bin_mul, bin_fdiv, bin_mod, bin_addl, bin_addt, bin_shl, bin_shr, bin_band, bin_bor, tru_b, tru_i, tru_l, tru_t, tru_o, tru_n, len_l, len_t, len_o, item_l, item_t, item_o, item_b0, item_b1, item_b2, at0, at1, at2, at3, at4, at5, atm1, blt_abs, blt_int, blt_intb, blt_tl, blt_tt, blt_ll, blt_lt, blt_sum, blt_all, blt_any, blt_min2, blt_max2, put_b0, put_b1, put_b2, szOk_0, szOk_1, szOk_n, Nat.reduceLeDiff, bin_mul2, bin_pow, Bool.not_true, Bool.not_false, wp_some, Nx_nx, Rt_rt, Option.toList_some, Option.toList_none, ev_lcR, lcR_nil, rangeD_map, zipW_map, enum_map, zip_tt, zip_tl, zip_lt, zip_ll, iter_t, iter_l, iter_o, lst_l, lst_o, seq_sq, iter_sq, len_sq, item_sq, list_sq, tuple_sq, zip_sq, pairD, step_no, stepC_eq, st_cmp, st_chain, st_and, st_or, st_not, st_isi, st_call, st_bl, st_var, setQ, natD, q, q2, bin_shr q, bin_band, PyProof.Rows.bitAnd_m1, e, Bool.true_and, and_self]
    · have e : m.testBit x.toNat = false := by
        cases e : m.testBit x.toNat with
        | false => rfl
        | true => have := bits_lt e; omega
      simp only [B_is_marked, ent, ev_var, ev_con, ev_bin, ev_neg, ev_not, ev_cmp, ev_chain, ev_and, ev_or, ev_ite, ev_tup, ev_lst, ev_call, ev_callk, ev_bl, ev_len, ev_bits, ev_isi, ev_sub, ev_slc, ev_callb, ev_sset, ev_rev, rev_l, rev_o, ea_nil, ea_cons, ei_rng1, ei_rng2, ei_zip, ei_enum, ei_it, sq_skip, sq_seq, sq_asg, sq_tas, sq_par, sq_setix, sq_app, sq_ite, sq_ret, sq_retn, sq_pass, sq_cont, sq_brk, sq_aug_add, ex_skip, evP, setRs, evRet, pk, peek, rd, setAll, bindT, wipeE, unwipe, noOwn, condOf, isNo, RV.pd, RV.frz, canPut, entryE, List.length_cons, List.length_nil, List.map_cons, List.map_nil, List.cons_append, List.nil_append, List.append_nil, Nat.sub_self, Nat.reduceSub, Nat.reduceAdd, Nat.zero_add, List.replicate_succ, List.replicate_zero, List.getElem?_cons_zero, List.getElem?_cons_succ, List.set_cons_zero, List.set_cons_succ, List.getD_cons_zero, List.getD_cons_succ, mapM_pd_nil, mapM_pd_cons, permL_nil, permL_cons, Option.map_some, Option.map_none, Option.bind_some, Option.pure_def, Option.bind_eq_bind, Bool.false_eq_true, if_true, if_false, ite_true, ite_false, reduceIte, reduceCtorEq, cmp_lt, cmp_le, cmp_gt, cmp_ge, cmp_eq_i, cmp_ne_i, cmp_eq_b, cmp_ne_b, cmp_eq_s, cmp_ne_s, cmp_eq_nn, cmp_is, cmp_isnot, isNone_none, isNone_bool, isNone_int, isNone_str, isNone_list, isNone_tuple, bin_add, bin_sub, mulOk_n, mulOk_m, divOk_n, Nat.reduceLT, Int.reduceEq, Int.reduceNe, ne_eq, not_false_eq_true, decide_true, decide_false, bin_mul, bin_fdiv, bin_mod, bin_addl, bin_addt, bin_shl, bin_shr, bin_band, bin_bor, tru_b, tru_i, tru_l, tru_t, tru_o, tru_n, len_l, len_t, len_o, item_l, item_t, item_o, item_b0, item_b1, item_b2, at0, at1, at2, at3, at4, at5, atm1, blt_abs, blt_int, blt_intb, blt_tl, blt_tt, blt_ll, blt_lt, blt_sum, blt_all, blt_any, blt_min2, blt_max2, put_b0, put_b1, put_b2, szOk_0, szOk_1, szOk_n, Nat.reduceLeDiff, bin_mul2, bin_pow, Bool.not_true, Bool.not_false, wp_some, Nx_nx, Rt_rt, Option.toList_some, Option.toList_none, ev_lcR, lcR_nil, rangeD_map, zipW_map, enum_map, zip_tt, zip_tl, zip_lt, zip_ll, iter_t, iter_l, iter_o, lst_l, lst_o, seq_sq, iter_sq, len_sq, item_sq, list_sq, tuple_sq, zip_sq, pairD, step_no, stepC_eq, st_cmp, st_chain, st_and, st_or, st_not, st_isi, st_call, st_bl, st_var, setQ, natD, q, q2, e, Bool.and_false, and_self]
  · simp only [B_is_marked, ent, ev_var, ev_con, ev_bin, ev_neg, ev_not, ev_cmp, ev_chain, ev_and, ev_or, ev_ite, ev_tup, ev_lst, ev_call, ev_callk, ev_bl, ev_len, ev_bits, ev_isi, ev_sub, ev_slc, ev_callb, ev_sset, ev_rev, rev_l, rev_o, ea_nil, ea_cons, ei_rng1, ei_rng2, ei_zip, ei_enum, ei_it, sq_skip, sq_seq, sq_asg, sq_tas, sq_par, sq_setix, sq_app, sq_ite, sq_ret, sq_retn, sq_pass, sq_cont, sq_brk, sq_aug_add, ex_skip, evP, setRs, evRet, pk, peek, rd, setAll, bindT, wipeE, unwipe, noOwn, condOf, isNo, RV.pd, RV.frz, canPut, entryE, List.length_cons, List.length_nil, List.map_cons, List.map_nil, List.cons_append, List.nil_append, List.append_nil, Nat.sub_self, Nat.reduceSub, Nat.reduceAdd, Nat.zero_add, List.replicate_succ, List.replicate_zero, List.getElem?_cons_zero, List.getElem?_cons_succ, List.set_cons_zero, List.set_cons_succ, List.getD_cons_zero, List.getD_cons_succ, mapM_pd_nil, mapM_pd_cons, permL_nil, permL_cons, Option.map_some, Option.map_none, Option.bind_some, Option.pure_def, Option.bind_eq_bind, Bool.false_eq_true, if_true, if_false, ite_true, ite_false, reduceIte, reduceCtorEq, cmp_lt, cmp_le, cmp_gt, cmp_ge, cmp_eq_i, cmp_ne_i, cmp_eq_b, cmp_ne_b, cmp_eq_s, cmp_ne_s, cmp_eq_nn, cmp_is, cmp_isnot, isNone_none, isNone_bool, isNone_int, isNone_str, isNone_list, isNone_tuple, bin_add, bin_sub, mulOk_n, mulOk_m, divOk_n, Nat.reduceLT, Int.reduceEq, Int.reduceNe, ne_eq, not_false_eq_true, decide_true, decide_false, bin_mul, bin_fdiv, bin_mod, bin_addl, bin_addt, bin_shl, bin_shr, bin_band, bin_bor, tru_b, tru_i, tru_l, tru_t, tru_o, tru_n, len_l, len_t, len_o, item_l, item_t, item_o, item_b0, item_b1, item_b2, at0, at1, at2, at3, at4, at5, atm1, blt_abs, blt_int, blt_intb, blt_tl, blt_tt, blt_ll, blt_lt, blt_sum, blt_all, blt_any, blt_min2, blt_max2, put_b0, put_b1, put_b2, szOk_0, szOk_1, szOk_n, Nat.reduceLeDiff, bin_mul2, bin_pow, Bool.not_true, Bool.not_false, wp_some, Nx_nx, Rt_rt, Option.toList_some, Option.toList_none, ev_lcR, lcR_nil, rangeD_map, zipW_map, enum_map, zip_tt, zip_tl, zip_lt, zip_ll, iter_t, iter_l, iter_o, lst_l, lst_o, seq_sq, iter_sq, len_sq, item_sq, list_sq, tuple_sq, zip_sq, pairD, step_no, stepC_eq, st_cmp, st_chain, st_and, st_or, st_not, st_isi, st_call, st_bl, st_var, setQ, natD, q, Bool.false_and, and_self]
theorem mark_mk {l : List (Int × Int)} {m : Nat} {x : Int} (hn : Nn l) (h : ∀ j : Nat, m.testBit j = made (absP l) (j : Int)) : markB m (x - lowP l) = made l x := by
  unfold markB
  rw [Bool.eq_iff_iff, Bool.and_eq_true, decide_eq_true_eq, h, ← mk_abs hn]
  constructor
  · rintro ⟨h0, h1⟩
    rwa [Int.toNat_of_nonneg h0] at h1
  · intro h1
    have h0 := (mk_range hn h1).1
    exact ⟨h0, by rwa [Int.toNat_of_nonneg h0]⟩
theorem issum_call {mk_ ls ma : Nat} {x : Int} (h : Is T i 3 3 (B_is_sum mk_ ls ma)) (h1 : Is T ls 2 4 B_least_sum) (h2 : Is T mk_ 2 2 B_is_marked) (h3 : Is T ma 2 9 B_marks_along) (hf : 1000 ≤ fu) (hc : Sm (cs.zip bs)) (hs : Sh cs) (hl : cs.length ≤ 100) :
    callN T fu (n + 2) i [Zs t cs, Zs u bs, .dat (.int x)] bx = some (.dat (.bool (isSum cs bs x)), bx) := by
  obtain ⟨rows, e1, e2⟩ := marks_call (n := n) (fu := fu) (bx := bx) (t := t) (u := u) h3 hc (by rw [List.length_zip]; omega) hf
  obtain ⟨rs, m, rfl, hb⟩ := e2.last
  refine run_wp h rfl ?_
  simp only [B_is_sum, ent, ev_var, ev_con, ev_bin, ev_neg, ev_not, ev_cmp, ev_chain, ev_and, ev_or, ev_ite, ev_tup, ev_lst, ev_call, ev_callk, ev_bl, ev_len, ev_bits, ev_isi, ev_sub, ev_slc, ev_callb, ev_sset, ev_rev, rev_l, rev_o, ea_nil, ea_cons, ei_rng1, ei_rng2, ei_zip, ei_enum, ei_it, sq_skip, sq_seq, sq_asg, sq_tas, sq_par, sq_setix, sq_app, sq_ite, sq_ret, sq_retn, sq_pass, sq_cont, sq_brk, sq_aug_add, ex_skip, evP, setRs, evRet, pk, peek, rd, setAll, bindT, wipeE, unwipe, noOwn, condOf, isNo, RV.pd, RV.frz, canPut, entryE, List.length_cons, List.length_nil, List.map_cons, List.map_nil, List.cons_append, List.nil_append, List.append_nil, Nat.sub_self, Nat.reduceSub, Nat.reduceAdd, Nat.zero_add, List.replicate_succ, List.replicate_zero, List.getElem?_cons_zero, List.getElem?_cons_succ, List.set_cons_zero, List.set_cons_succ, List.getD_cons_zero, List.getD_cons_succ, mapM_pd_nil, mapM_pd_cons, permL_nil, permL_cons, Option.map_some, Option.map_none, Option.bind_some, Option.pure_def, Option.bind_eq_bind, Bool.false_eq_true, if_true, if_false, ite_true, ite_false, reduceIte, reduceCtorEq, cmp_lt, cmp_le, cmp_gt, cmp_ge, cmp_eq_i, cmp_ne_i, cmp_eq_b, cmp_ne_b, cmp_eq_s, cmp_ne_s, cmp_eq_nn, cmp_is, cmp_isnot, isNone_none, isNone_bool, isNone_int, isNone_str, isNone_list, isNone_tuple, bin_add, bin_sub, mulOk_n, mulOk_m, divOk_n, Nat.reduceLT, Int.reduceEq, Int.reduceNe, ne_eq, not_false_eq_true, decide_true, decide_false, bin_mul, bin_fdiv, bin_mod, bin_addl, bin_addt, bin_shl, bin_shr, bin_band, bin_bor, tru_b, tru_i, tru_l, tru_t, tru_o, tru_n, len_l, len_t, len_o, item_l, item_t, item_o, item_b0, item_b1, item_b2, at0, at1, at2, at3, at4, at5, atm1, blt_abs, blt_int, blt_intb, blt_tl, blt_tt, blt_ll, blt_lt, blt_sum, blt_all, blt_any, blt_min2, blt_max2, put_b0, put_b1, put_b2, szOk_0, szOk_1, szOk_n, Nat.reduceLeDiff, bin_mul2, bin_pow, Bool.not_true, Bool.not_false, wp_some, Nx_nx, Rt_rt, Option.toList_some, Option.toList_none, ev_lcR, lcR_nil, rangeD_map, zipW_map, enum_map, zip_tt, zip_tl, zip_lt, zip_ll, iter_t, iter_l, iter_o, lst_l, lst_o, seq_sq, iter_sq, len_sq, item_sq, list_sq, tuple_sq, zip_sq, pairD, step_no, stepC_eq, st_cmp, st_chain, st_and, st_or, st_not, st_isi, st_call, st_bl, st_var, setQ, e1, List.map_append, low_call h1 hs (show cs.length ≤ 1000000 by omega), marked_call h2, isSum, lowZ, mark_mk hc.nn hb, and_self]
/-- all sums, ascending -/
def sumsP (l : List (Int × Int)) : List Int := ((List.range (widP l + 1).toNat).filter fun j : Nat => made (absP l) (j : Int)).map fun j : Nat => lowP l + (j : Int)
theorem asc_range (n : Nat) : (List.range n).Pairwise (· < ·) := by
  rw [List.pairwise_iff_getElem]
  intro i j hi hj h
  rw [List.getElem_range, List.getElem_range]; exact h
theorem sumsP_pw (l : List (Int × Int)) : (sumsP l).Pairwise (· < ·) := by
  unfold sumsP
  refine List.Pairwise.map _ (fun a b h => ?_) ((asc_range _).filter _)
  omega
theorem sumsP_mem {l : List (Int × Int)} {x : Int} (hn : Nn l) : x ∈ sumsP l ↔ made l x = true := by
  unfold sumsP
  rw [List.mem_map, ← mk_abs hn]
  constructor
  · rintro ⟨j, hj, rfl⟩
    rw [List.mem_filter] at hj
    rw [show lowP l + (j : Int) - lowP l = (j : Int) by omega]
    exact hj.2
  · intro h
    obtain ⟨h0, h1⟩ := mk_range hn h
    refine ⟨(x - lowP l).toNat, ?_, by omega⟩
    rw [List.mem_filter, List.mem_range, Int.toNat_of_nonneg h0]
    exact ⟨by omega, h⟩
theorem sums_eq {l : List (Int × Int)} {m k : Nat} (hn : Nn l) (h : ∀ j : Nat, m.testBit j = made (absP l) (j : Int)) (hk : ∀ j : Nat, m.testBit j = true → j < k) :
    (((List.range k).filter fun j : Nat => markB m (j : Int)).map fun j : Nat => lowP l + (j : Int)) = sumsP l := by
  have hm : ∀ j : Nat, markB m (j : Int) = m.testBit j := fun j => by
    unfold markB
    rw [decide_eq_true (Int.natCast_nonneg j), Int.toNat_natCast, Bool.true_and]
  refine asc_eq (List.Pairwise.map _ (fun a b h => by omega) ((asc_range _).filter _)) (sumsP_pw l) fun x => ?_
  rw [sumsP_mem hn, List.mem_map, ← mk_abs hn]
  constructor
  · rintro ⟨j, hj, rfl⟩
    rw [List.mem_filter, hm, h] at hj
    rw [show lowP l + (j : Int) - lowP l = (j : Int) by omega]
    exact hj.2
  · intro q
    obtain ⟨h0, h1⟩ := mk_range hn q
    have tb : m.testBit (x - lowP l).toNat = true := by rw [h, Int.toNat_of_nonneg h0]; exact q
    refine ⟨(x - lowP l).toNat, ?_, by omega⟩
    rw [List.mem_filter, List.mem_range, hm]
    exact ⟨hk _ tb, tb⟩
theorem sums_call {mk_ ls ma : Nat} (h : Is T i 2 5 (B_sums mk_ ma ls)) (h1 : Is T ls 2 4 B_least_sum) (h2 : Is T mk_ 2 2 B_is_marked) (h3 : Is T ma 2 9 B_marks_along) (hf : 1000 ≤ fu) (hc : Sm (cs.zip bs)) (hs : Sh cs) (hl : cs.length ≤ 100) (hw : widP (cs.zip bs) ≤ 1000000) :
    callN T fu (n + 2) i [Zs t cs, Zs u bs] bx = some (.own ((sumsP (cs.zip bs)).map .int), bx) := by
  obtain ⟨rows, e1, e2⟩ := marks_call (n := n) (fu := fu) (bx := bx) (t := t) (u := u) h3 hc (by rw [List.length_zip]; omega) hf
  obtain ⟨rs, m, rfl, hb⟩ := e2.last
  have hbl : ∀ j : Nat, m.testBit j = true → j ≤ 1000000 := fun j hj => by
    rw [hb] at hj
    have := (mk_range hc.nn hj).2
    omega
  have hk : Builtin.Int.intBits (m : Int) ≤ 1000001 := by
    rw [bits_eq]
    split
    · omega
    · have := log_of_bits hbl; omega
  have hi : inR (Builtin.Int.intBits (m : Int) : Nat) = true := inR_ok (by omega) (by omega)
  refine run_wp h rfl ?_
  simp only [B_sums, ent, ev_var, ev_con, ev_bin, ev_neg, ev_not, ev_cmp, ev_chain, ev_and, ev_or, ev_ite, ev_tup, ev_lst, ev_call, ev_callk, ev_bl, ev_len, ev_bits, ev_isi, ev_sub, ev_slc, ev_callb, ev_sset, ev_rev, rev_l, rev_o, ea_nil, ea_cons, ei_rng1, ei_rng2, ei_zip, ei_enum, ei_it, sq_skip, sq_seq, sq_asg, sq_tas, sq_par, sq_setix, sq_app, sq_ite, sq_ret, sq_retn, sq_pass, sq_cont, sq_brk, sq_aug_add, ex_skip, evP, setRs, evRet, pk, peek, rd, setAll, bindT, wipeE, unwipe, noOwn, condOf, isNo, RV.pd, RV.frz, canPut, entryE, List.length_cons, List.length_nil, List.map_cons, List.map_nil, List.cons_append, List.nil_append, List.append_nil, Nat.sub_self, Nat.reduceSub, Nat.reduceAdd, Nat.zero_add, List.replicate_succ, List.replicate_zero, List.getElem?_cons_zero, List.getElem?_cons_succ, List.set_cons_zero, List.set_cons_succ, List.getD_cons_zero, List.getD_cons_succ, mapM_pd_nil, mapM_pd_cons, permL_nil, permL_cons, Option.map_some, Option.map_none, Option.bind_some, Option.pure_def, Option.bind_eq_bind, Bool.false_eq_true, if_true, if_false, ite_true, ite_false, reduceIte, reduceCtorEq, cmp_lt, cmp_le, cmp_gt, cmp_ge, cmp_eq_i, cmp_ne_i, cmp_eq_b, cmp_ne_b, cmp_eq_s, cmp_ne_s, cmp_eq_nn, cmp_is, cmp_isnot, isNone_none, isNone_bool, isNone_int, isNone_str, isNone_list, isNone_tuple, bin_add, bin_sub, mulOk_n, mulOk_m, divOk_n, Nat.reduceLT, Int.reduceEq, Int.reduceNe, ne_eq, not_false_eq_true, decide_true, decide_false, bin_mul, bin_fdiv, bin_mod, bin_addl, bin_addt, bin_shl, bin_shr, bin_band, bin_bor, tru_b, tru_i, tru_l, tru_t, tru_o, tru_n, len_l, len_t, len_o, item_l, item_t, item_o, item_b0, item_b1, item_b2, at0, at1, at2, at3, at4, at5, atm1, blt_abs, blt_int, blt_intb, blt_tl, blt_tt, blt_ll, blt_lt, blt_sum, blt_all, blt_any, blt_min2, blt_max2, put_b0, put_b1, put_b2, szOk_0, szOk_1, szOk_n, Nat.reduceLeDiff, bin_mul2, bin_pow, Bool.not_true, Bool.not_false, wp_some, Nx_nx, Rt_rt, Option.toList_some, Option.toList_none, ev_lcR, lcR_nil, rangeD_map, zipW_map, enum_map, zip_tt, zip_tl, zip_lt, zip_ll, iter_t, iter_l, iter_o, lst_l, lst_o, seq_sq, iter_sq, len_sq, item_sq, list_sq, tuple_sq, zip_sq, pairD, step_no, stepC_eq, st_cmp, st_chain, st_and, st_or, st_not, st_isi, st_call, st_bl, st_var, setQ, e1, List.map_append, low_call h1 hs (show cs.length ≤ 1000000 by omega), hi, Int.toNat_natCast]
  rw [lcR_F (fun j : Nat => markB m (j : Int)) (fun j : Nat => lowP (cs.zip bs) + (j : Int)) .int (by rw [List.length_range]; omega) fun j hj => by
    rw [show (0 : Int) + (j : Int) = (j : Int) by omega]
    have mc := marked_call (n := n) (fu := fu) (bx := bx) (m := m) (x := (j : Int)) h2
    generalize markB m (j : Int) = k at mc
    cases k
    · simp only [ev_var, ev_con, ev_bin, ev_neg, ev_not, ev_cmp, ev_chain, ev_and, ev_or, ev_ite, ev_tup, ev_lst, ev_call, ev_callk, ev_bl, ev_len, ev_bits, ev_isi, ev_sub, ev_slc, ev_callb, ev_sset, ev_rev, rev_l, rev_o, ea_nil, ea_cons, ei_rng1, ei_rng2, ei_zip, ei_enum, ei_it, sq_skip, sq_seq, sq_asg, sq_tas, sq_par, sq_setix, sq_app, sq_ite, sq_ret, sq_retn, sq_pass, sq_cont, sq_brk, sq_aug_add, ex_skip, evP, setRs, evRet, pk, peek, rd, setAll, bindT, wipeE, unwipe, noOwn, condOf, isNo, RV.pd, RV.frz, canPut, entryE, List.length_cons, List.length_nil, List.map_cons, List.map_nil, List.cons_append, List.nil_append, List.append_nil, Nat.sub_self, Nat.reduceSub, Nat.reduceAdd, Nat.zero_add, List.replicate_succ, List.replicate_zero, List.getElem?_cons_zero, List.getElem?_cons_succ, List.set_cons_zero, List.set_cons_succ, List.getD_cons_zero, List.getD_cons_succ, mapM_pd_nil, mapM_pd_cons, permL_nil, permL_cons, Option.map_some, Option.map_none, Option.bind_some, Option.pure_def, Option.bind_eq_bind, Bool.false_eq_true, if_true, if_false, ite_true, ite_false, reduceIte, reduceCtorEq, cmp_lt, cmp_le, cmp_gt, cmp_ge, cmp_eq_i, cmp_ne_i, cmp_eq_b, cmp_ne_b, cmp_eq_s, cmp_ne_s, cmp_eq_nn, cmp_is, cmp_isnot, isNone_none, isNone_bool, isNone_int, isNone_str, isNone_list, isNone_tuple, bin_add, bin_sub, mulOk_n, mulOk_m, divOk_n, Nat.reduceLT, Int.reduceEq, Int.reduceNe, ne_eq, not_false_eq_true, decide_true, decide_false, bin_mul, bin_fdiv, bin_mod, bin_addl, bin_addt, bin_shl, bin_shr, bin_band, bin_bor, tru_b, tru_i, tru_l, tru_t, tru_o, tru_n, len_l, len_t, len_o, item_l, item_t, item_o, item_b0, item_b1, item_b2, at0, at1, at2, at3, at4, at5, atm1, blt_abs, blt_int, blt_intb, blt_tl, blt_tt, blt_ll, blt_lt, blt_sum, blt_all, blt_any, blt_min2, blt_max2, put_b0, put_b1, put_b2, szOk_0, szOk_1, szOk_n, Nat.reduceLeDiff, bin_mul2, bin_pow, Bool.not_true, Bool.not_false, wp_some, Nx_nx, Rt_rt, Option.toList_some, Option.toList_none, ev_lcR, lcR_nil, rangeD_map, zipW_map, enum_map, zip_tt, zip_tl, zip_lt, zip_ll, iter_t, iter_l, iter_o, lst_l, lst_o, seq_sq, iter_sq, len_sq, item_sq, list_sq, tuple_sq, zip_sq, pairD, step_no, stepC_eq, st_cmp, st_chain, st_and, st_or, st_not, st_isi, st_call, st_bl, st_var, setQ, mc, and_self]
    · simp only [ev_var, ev_con, ev_bin, ev_neg, ev_not, ev_cmp, ev_chain, ev_and, ev_or, ev_ite, ev_tup, ev_lst, ev_call, ev_callk, ev_bl, ev_len, ev_bits, ev_isi, ev_sub, ev_slc, ev_callb, ev_sset, ev_rev, rev_l, rev_o, ea_nil, ea_cons, ei_rng1, ei_rng2, ei_zip, ei_enum, ei_it, sq_skip, sq_seq, sq_asg, sq_tas, sq_par, sq_setix, sq_app, sq_ite, sq_ret, sq_retn, sq_pass, sq_cont, sq_brk, sq_aug_add, ex_skip, evP, setRs, evRet, pk, peek, rd, setAll, bindT, wipeE, unwipe, noOwn, condOf, isNo, RV.pd, RV.frz, canPut, entryE, List.length_cons, List.length_nil, List.map_cons, List.map_nil, List.cons_append, List.nil_append, List.append_nil, Nat.sub_self, Nat.reduceSub, Nat.reduceAdd, Nat.zero_add, List.replicate_succ, List.replicate_zero, List.getElem?_cons_zero, List.getElem?_cons_succ, List.set_cons_zero, List.set_cons_succ, List.getD_cons_zero, List.getD_cons_succ, mapM_pd_nil, mapM_pd_cons, permL_nil, permL_cons, Option.map_some, Option.map_none, Option.bind_some, Option.pure_def, Option.bind_eq_bind, Bool.false_eq_true, if_true, if_false, ite_true, ite_false, reduceIte, reduceCtorEq, cmp_lt, cmp_le, cmp_gt, cmp_ge, cmp_eq_i, cmp_ne_i, cmp_eq_b, cmp_ne_b, cmp_eq_s, cmp_ne_s, cmp_eq_nn, cmp_is, cmp_isnot, isNone_none, isNone_bool, isNone_int, isNone_str, isNone_list, isNone_tuple, bin_add, bin_sub, mulOk_n, mulOk_m, divOk_n, Nat.reduceLT, Int.reduceEq, Int.reduceNe, ne_eq, not_false_eq_true, decide_true, decide_false, bin_mul, bin_fdiv, bin_mod, bin_addl, bin_addt, bin_shl, bin_shr, bin_band, bin_bor, tru_b, tru_i, tru_l, tru_t, tru_o, tru_n, len_l, len_t, len_o, item_l, item_t, item_o, item_b0, item_b1, item_b2, at0, at1, at2, at3, at4, at5, atm1, blt_abs, blt_int, blt_intb, blt_tl, blt_tt, blt_ll, blt_lt, blt_sum, blt_all, blt_any, blt_min2, blt_max2, put_b0, put_b1, put_b2, szOk_0, szOk_1, szOk_n, Nat.reduceLeDiff, bin_mul2, bin_pow, Bool.not_true, Bool.not_false, wp_some, Nx_nx, Rt_rt, Option.toList_some, Option.toList_none, ev_lcR, lcR_nil, rangeD_map, zipW_map, enum_map, zip_tt, zip_tl, zip_lt, zip_ll, iter_t, iter_l, iter_o, lst_l, lst_o, seq_sq, iter_sq, len_sq, item_sq, list_sq, tuple_sq, zip_sq, pairD, step_no, stepC_eq, st_cmp, st_chain, st_and, st_or, st_not, st_isi, st_call, st_bl, st_var, setQ, mc, lowZ, and_self]]
  rw [sums_eq hc.nn hb fun j hj => bits_lt hj]
  simp only [ev_var, ev_con, ev_bin, ev_neg, ev_not, ev_cmp, ev_chain, ev_and, ev_or, ev_ite, ev_tup, ev_lst, ev_call, ev_callk, ev_bl, ev_len, ev_bits, ev_isi, ev_sub, ev_slc, ev_callb, ev_sset, ev_rev, rev_l, rev_o, ea_nil, ea_cons, ei_rng1, ei_rng2, ei_zip, ei_enum, ei_it, sq_skip, sq_seq, sq_asg, sq_tas, sq_par, sq_setix, sq_app, sq_ite, sq_ret, sq_retn, sq_pass, sq_cont, sq_brk, sq_aug_add, ex_skip, evP, setRs, evRet, pk, peek, rd, setAll, bindT, wipeE, unwipe, noOwn, condOf, isNo, RV.pd, RV.frz, canPut, entryE, List.length_cons, List.length_nil, List.map_cons, List.map_nil, List.cons_append, List.nil_append, List.append_nil, Nat.sub_self, Nat.reduceSub, Nat.reduceAdd, Nat.zero_add, List.replicate_succ, List.replicate_zero, List.getElem?_cons_zero, List.getElem?_cons_succ, List.set_cons_zero, List.set_cons_succ, List.getD_cons_zero, List.getD_cons_succ, mapM_pd_nil, mapM_pd_cons, permL_nil, permL_cons, Option.map_some, Option.map_none, Option.bind_some, Option.pure_def, Option.bind_eq_bind, Bool.false_eq_true, if_true, if_false, ite_true, ite_false, reduceIte, reduceCtorEq, cmp_lt, cmp_le, cmp_gt, cmp_ge, cmp_eq_i, cmp_ne_i, cmp_eq_b, cmp_ne_b, cmp_eq_s, cmp_ne_s, cmp_eq_nn, cmp_is, cmp_isnot, isNone_none, isNone_bool, isNone_int, isNone_str, isNone_list, isNone_tuple, bin_add, bin_sub, mulOk_n, mulOk_m, divOk_n, Nat.reduceLT, Int.reduceEq, Int.reduceNe, ne_eq, not_false_eq_true, decide_true, decide_false, bin_mul, bin_fdiv, bin_mod, bin_addl, bin_addt, bin_shl, bin_shr, bin_band, bin_bor, tru_b, tru_i, tru_l, tru_t, tru_o, tru_n, len_l, len_t, len_o, item_l, item_t, item_o, item_b0, item_b1, item_b2, at0, at1, at2, at3, at4, at5, atm1, blt_abs, blt_int, blt_intb, blt_tl, blt_tt, blt_ll, blt_lt, blt_sum, blt_all, blt_any, blt_min2, blt_max2, put_b0, put_b1, put_b2, szOk_0, szOk_1, szOk_n, Nat.reduceLeDiff, bin_mul2, bin_pow, Bool.not_true, Bool.not_false, wp_some, Nx_nx, Rt_rt, Option.toList_some, Option.toList_none, ev_lcR, lcR_nil, rangeD_map, zipW_map, enum_map, zip_tt, zip_tl, zip_lt, zip_ll, iter_t, iter_l, iter_o, lst_l, lst_o, seq_sq, iter_sq, len_sq, item_sq, list_sq, tuple_sq, zip_sq, pairD, step_no, stepC_eq, st_cmp, st_chain, st_and, st_or, st_not, st_isi, st_call, st_bl, st_var, setQ, and_self]
end
end PX
set_option Elab.async false
set_option autoImplicit false
set_option maxRecDepth 100000
set_option maxHeartbeats 8100000
/-! PXWB: how many counters; the laws' own step and sums. -/
namespace PX
open PySem
section
variable {T : List FdD} {fu n i : Nat} {bx : Bx} {t u : Bool} {cs bs ks : List Int}
/-- a row of the table of counters -/
abbrev rowW (l : List (Int × Int)) (k : Nat) : List PyData := (List.range k).map fun j : Nat => PyData.int (cnt l (j : Int))
theorem rowW_at {l : List (Int × Int)} {k j : Nat} (h : j < k) : L2.atI (rowW l k) (j : Int) = some (.int (cnt l (j : Int))) := at_nat (by
  rw [List.getElem?_map, List.getElem?_range h]; rfl)
theorem rowW_len {l : List (Int × Int)} {k : Nat} : (rowW l k).length = k := by simp [rowW]
theorem cnt_neg {l : List (Int × Int)} {j : Int} (h : Nn l) (hj : j < 0) : cnt (absP l) j = 0 := by
  have h1 := cnt_nn (l := absP l) (j := j)
  by_cases q : 0 < cnt (absP l) j
  · have := (mk_range h ((cnt_pos (absP_nn h)).mp q)).1
    omega
  · omega
/-- one more, and one gone -/
theorem cnt_slide {l : List (Int × Int)} {a b j : Int} (hb : 0 ≤ b) : cnt (l ++ [(a, b)]) j = cnt l j + cnt (l ++ [(a, b)]) (j - a) - cnt l (j - a * (b + 1)) := by
  rw [cnt_snoc, cnt_snoc]
  simp only
  have e1 : sumTo (fun k => cnt l (j - a * k)) (b.toNat + 1) = sumTo (fun k => cnt l (j - a * k)) b.toNat + cnt l (j - a * (b + 1)) := by
    rw [sumTo_succ]
    congr 3
    congr 1; omega
  have e2 : sumTo (fun k => cnt l (j - a * k)) (b.toNat + 1) = cnt l j + sumTo (fun k => cnt l (j - a - a * k)) b.toNat := by
    rw [sumTo_head]
    congr 1
    · congr 1; rw [Int.mul_zero, Int.sub_zero]
    · refine sumTo_congr fun k _ => ?_
      congr 1; rw [Int.mul_add, Int.mul_one]; omega
  omega
theorem repl_flat (x : PyData) : ∀ k : Nat, (List.replicate k [x]).flatten = List.replicate k x
  | 0 => rfl
  | k + 1 => by rw [List.replicate_succ, List.flatten_cons, repl_flat x k, List.replicate_succ]; rfl
theorem many_call {ls gs : Nat} {x : Int} (h : Is T i 3 14 (B_how_many_counters ls gs)) (h1 : Is T ls 2 4 B_least_sum) (h2 : Is T gs 2 4 B_greatest_sum) (hc : Sh cs) (hl : cs.length ≤ 1000000) (hn : Nn (cs.zip bs)) (hz : ∀ p ∈ cs.zip bs, p.1 ≠ 0)
    (hb64 : ∀ p ∈ cs.zip bs, p.1.natAbs < 2 ^ 60) (hw : widP (cs.zip bs) ≤ 1000000) : callN T fu (n + 2) i [Zs t cs, Zs u bs, .dat (.int x)] bx = some (.dat (.int (howMany cs bs x)), bx) := by
  have a1 := low_call (n := n) (fu := fu) (bx := bx) (t := t) (u := u) (bs := bs) h1 hc hl
  have a2 := top_call (n := n) (fu := fu) (bx := bx) (t := t) (u := u) (bs := bs) h2 hc hl
  refine run_wp h rfl ?_
  unfold howMany
  unfold lowZ at a1
  unfold topZ at a2
  have wl := wid_low (l := cs.zip bs)
  have w0 := wid_nn hn
  have out : ¬ (lowP (cs.zip bs) ≤ x ∧ x ≤ topP (cs.zip bs)) → cnt (cs.zip bs) x = 0 := fun q => by
    have h1 := cnt_nn (l := cs.zip bs) (j := x)
    by_cases z : 0 < cnt (cs.zip bs) x
    · exact absurd (mk_ends hn ((cnt_pos hn).mp z)) q
    · omega
  have ca : cnt (cs.zip bs) x = cnt (absP (cs.zip bs)) (x - lowP (cs.zip bs)) := (cnt_abs hn).symm
  generalize hz' : cs.zip bs = l at *
  have hlz : l.length ≤ 1000000 := by rw [← hz', List.length_zip]; omega
  by_cases q1 : lowP l ≤ x
  · by_cases q2 : x ≤ topP l
    · obtain ⟨N, hN⟩ : ∃ N : Nat, topP l - lowP l = (N : Int) := ⟨(topP l - lowP l).toNat, by omega⟩
      have mu := bin_mull (ds := [PyData.int 0]) (k := (N : Int)) (by
        rw [decide_eq_true (by omega), decide_eq_true (by omega), Bool.true_and, Bool.true_and]
        exact szOk_of (by simp; omega))
      have sz : szOk (0 + 1 + N) = true := szOk_of (by omega)
      have start : PyData.int 1 :: List.replicate N (PyData.int 0) = rowW (absP (l.take 0)) (N + 1) := by
        rw [List.take_zero]
        refine List.ext_getElem (by simp) fun k g1 g2 => ?_
        rw [List.getElem_map, List.getElem_range]
        cases k with
        | zero => rfl
        | succ k =>
          rw [List.getElem_cons_succ, List.getElem_replicate]
          show _ = PyData.int (if ((k + 1 : Nat) : Int) = 0 then 1 else 0)
          rw [if_neg (by omega)]
      rw [ca]
      simp only [B_how_many_counters, ent, ev_var, ev_con, ev_bin, ev_neg, ev_not, ev_cmp, ev_chain, ev_and, ev_or, ev_ite, ev_tup, ev_lst, ev_call, ev_callk, ev_bl, ev_len, ev_bits, ev_isi, ev_sub, ev_slc, ev_callb, ev_sset, ev_rev, rev_l, rev_o, ea_nil, ea_cons, ei_rng1, ei_rng2, ei_zip, ei_enum, ei_it, sq_skip, sq_seq, sq_asg, sq_tas, sq_par, sq_setix, sq_app, sq_ite, sq_ret, sq_retn, sq_pass, sq_cont, sq_brk, sq_aug_add, ex_skip, evP, setRs, evRet, pk, peek, rd, setAll, bindT, wipeE, unwipe, noOwn, condOf, isNo, RV.pd, RV.frz, canPut, entryE, List.length_cons, List.length_nil, List.map_cons, List.map_nil, List.cons_append, List.nil_append, List.append_nil, Nat.sub_self, Nat.reduceSub, Nat.reduceAdd, Nat.zero_add, List.replicate_succ, List.replicate_zero, List.getElem?_cons_zero, List.getElem?_cons_succ, List.set_cons_zero, List.set_cons_succ, List.getD_cons_zero, List.getD_cons_succ, mapM_pd_nil, mapM_pd_cons, permL_nil, permL_cons, Option.map_some, Option.map_none, Option.bind_some, Option.pure_def, Option.bind_eq_bind, Bool.false_eq_true, if_true, if_false, ite_true, ite_false, reduceIte, reduceCtorEq, cmp_lt, cmp_le, cmp_gt, cmp_ge, cmp_eq_i, cmp_ne_i, cmp_eq_b, cmp_ne_b, cmp_eq_s, cmp_ne_s, cmp_eq_nn, cmp_is, cmp_isnot, isNone_none, isNone_bool, isNone_int, isNone_str, isNone_list, isNone_tuple, bin_add, bin_sub, mulOk_n, mulOk_m, divOk_n, Nat.reduceLT, Int.reduceEq, Int.reduceNe, ne_eq, not_false_eq_true, decide_true, decide_false, bin_mul, bin_fdiv, bin_mod, bin_addl, bin_addt, bin_shl, bin_shr, bin_band, bin_bor, tru_b, tru_i, tru_l, tru_t, tru_o, tru_n, len_l, len_t, len_o, item_l, item_t, item_o, item_b0, item_b1, item_b2, at0, at1, at2, at3, at4, at5, atm1, blt_abs, blt_int, blt_intb, blt_tl, blt_tt, blt_ll, blt_lt, blt_sum, blt_all, blt_any, blt_min2, blt_max2, put_b0, put_b1, put_b2, szOk_0, szOk_1, szOk_n, Nat.reduceLeDiff, bin_mul2, bin_pow, Bool.not_true, Bool.not_false, wp_some, Nx_nx, Rt_rt, Option.toList_some, Option.toList_none, ev_lcR, lcR_nil, rangeD_map, zipW_map, enum_map, zip_tt, zip_tl, zip_lt, zip_ll, iter_t, iter_l, iter_o, lst_l, lst_o, seq_sq, iter_sq, len_sq, item_sq, list_sq, tuple_sq, zip_sq, pairD, step_no, stepC_eq, st_cmp, st_chain, st_and, st_or, st_not, st_isi, st_call, st_bl, st_var, setQ, a1, a2, q1, q2, hN, mu, Int.toNat_natCast, repl_flat, List.length_replicate, sz, start]
      refine wp_loop (l := l) (P := fun p => PyData.tuple [.int p.1, .int p.2]) (fun k g => ∃ (s5 e6 e7 e8 e9 e10 e11 e12 e13 : Sl), g = ⟨[some (Zs t cs), some (Zs u bs), some (.dat (.int x)), some (.dat (.int (lowP l))), some (.dat (.int (topP l))), s5, e6, e7, e8, e9, e10, e11, e12, e13], bx⟩ ∧
        (s5 = some (.own (rowW (absP (l.take k)) (N + 1))) ∨ s5 = some (.dat (.list (rowW (absP (l.take k)) (N + 1)))))) (by simp only [ev_var, ev_con, ev_bin, ev_neg, ev_not, ev_cmp, ev_chain, ev_and, ev_or, ev_ite, ev_tup, ev_lst, ev_call, ev_callk, ev_bl, ev_len, ev_bits, ev_isi, ev_sub, ev_slc, ev_callb, ev_sset, ev_rev, rev_l, rev_o, ea_nil, ea_cons, ei_rng1, ei_rng2, ei_zip, ei_enum, ei_it, sq_skip, sq_seq, sq_asg, sq_tas, sq_par, sq_setix, sq_app, sq_ite, sq_ret, sq_retn, sq_pass, sq_cont, sq_brk, sq_aug_add, ex_skip, evP, setRs, evRet, pk, peek, rd, setAll, bindT, wipeE, unwipe, noOwn, condOf, isNo, RV.pd, RV.frz, canPut, entryE, List.length_cons, List.length_nil, List.map_cons, List.map_nil, List.cons_append, List.nil_append, List.append_nil, Nat.sub_self, Nat.reduceSub, Nat.reduceAdd, Nat.zero_add, List.replicate_succ, List.replicate_zero, List.getElem?_cons_zero, List.getElem?_cons_succ, List.set_cons_zero, List.set_cons_succ, List.getD_cons_zero, List.getD_cons_succ, mapM_pd_nil, mapM_pd_cons, permL_nil, permL_cons, Option.map_some, Option.map_none, Option.bind_some, Option.pure_def, Option.bind_eq_bind, Bool.false_eq_true, if_true, if_false, ite_true, ite_false, reduceIte, reduceCtorEq, cmp_lt, cmp_le, cmp_gt, cmp_ge, cmp_eq_i, cmp_ne_i, cmp_eq_b, cmp_ne_b, cmp_eq_s, cmp_ne_s, cmp_eq_nn, cmp_is, cmp_isnot, isNone_none, isNone_bool, isNone_int, isNone_str, isNone_list, isNone_tuple, bin_add, bin_sub, mulOk_n, mulOk_m, divOk_n, Nat.reduceLT, Int.reduceEq, Int.reduceNe, ne_eq, not_false_eq_true, decide_true, decide_false, bin_mul, bin_fdiv, bin_mod, bin_addl, bin_addt, bin_shl, bin_shr, bin_band, bin_bor, tru_b, tru_i, tru_l, tru_t, tru_o, tru_n, len_l, len_t, len_o, item_l, item_t, item_o, item_b0, item_b1, item_b2, at0, at1, at2, at3, at4, at5, atm1, blt_abs, blt_int, blt_intb, blt_tl, blt_tt, blt_ll, blt_lt, blt_sum, blt_all, blt_any, blt_min2, blt_max2, put_b0, put_b1, put_b2, szOk_0, szOk_1, szOk_n, Nat.reduceLeDiff, bin_mul2, bin_pow, Bool.not_true, Bool.not_false, wp_some, Nx_nx, Rt_rt, Option.toList_some, Option.toList_none, ev_lcR, lcR_nil, rangeD_map, zipW_map, enum_map, zip_tt, zip_tl, zip_lt, zip_ll, iter_t, iter_l, iter_o, lst_l, lst_o, seq_sq, iter_sq, len_sq, item_sq, list_sq, tuple_sq, zip_sq, pairD, step_no, stepC_eq, st_cmp, st_chain, st_and, st_or, st_not, st_isi, st_call, st_bl, st_var, setQ, hz']) ⟨_, none, none, none, none, none, none, none, none, rfl, .inl rfl⟩ ?_ ?_
      · rintro k p g hk ⟨s5, e6, e7, e8, e9, e10, e11, e12, e13, rfl, h5⟩
        have pm := List.mem_of_getElem? hk
        have p0 := hn p pm
        have pz := hz p pm
        have pb := hb64 p pm
        have a := abs_nat p.1
        have nk : Nn (l.take k) := hn.take k
        have tk : absP (l.take (k + 1)) = absP (l.take k) ++ [((p.1.natAbs : Int), p.2)] := by rw [List.take_add_one, hk, Option.toList_some, absP_snoc]
        have inner : wp (exS (callN T fu (n + 1)) fu (.seq (.loop (.enum (.var 5)) (.tp [10, 11]) (.seq (.asg 12 (.ite (.cmp .ge (.var 10) (.var 8)) (.sub (.var 9) (.bin .sub (.var 10) (.var 8))) (.con (.int 0)))) (.seq (.asg 13 (.bin .sub (.var 10) (.bin .mul (.var 8) (.bin .add (.var 7) (.con (.int 1)))))) (.seq (.app 9 (.bin .sub (.bin .add (.var 11) (.var 12)) (.ite (.cmp .ge (.var 13) (.con (.int 0))) (.sub (.var 5) (.var 13)) (.con (.int 0))))) .skip)))) (.seq (.asg 5 (.var 9)) .skip))
            ⟨[some (Zs t cs), some (Zs u bs), some (.dat (.int x)), some (.dat (.int (lowP l))), some (.dat (.int (topP l))), s5, some (.dat (.int p.1)), some (.dat (.int p.2)), some (.dat (.int (p.1.natAbs : Int))), some (.own []), e10, e11, e12, e13], bx⟩)
            (Nx fun g => ∃ (s5 e6 e7 e8 e9 e10 e11 e12 e13 : Sl), g = ⟨[some (Zs t cs), some (Zs u bs), some (.dat (.int x)), some (.dat (.int (lowP l))), some (.dat (.int (topP l))), s5, e6, e7, e8, e9, e10, e11, e12, e13], bx⟩ ∧
              (s5 = some (.own (rowW (absP (l.take (k + 1))) (N + 1))) ∨ s5 = some (.dat (.list (rowW (absP (l.take (k + 1))) (N + 1)))))) := by
          refine wp_loop (l := (List.range (N + 1)).zipIdx) (P := fun q : Nat × Nat => PyData.tuple [.int (q.2 : Int), .int (cnt (absP (l.take k)) (q.1 : Int))])
            (fun j g => ∃ (e10 e11 e12 e13 : Sl), g = ⟨[some (Zs t cs), some (Zs u bs), some (.dat (.int x)), some (.dat (.int (lowP l))), some (.dat (.int (topP l))), some (.dat (.list (rowW (absP (l.take k)) (N + 1)))), some (.dat (.int p.1)), some (.dat (.int p.2)), some (.dat (.int (p.1.natAbs : Int))), some (.own (rowW (absP (l.take (k + 1))) j)), e10, e11, e12, e13], bx⟩) ?_ ⟨e10, e11, e12, e13, rfl⟩ ?_ ?_
          · rcases h5 with rfl | rfl
            · simp only [ev_var, ev_con, ev_bin, ev_neg, ev_not, ev_cmp, ev_chain, ev_and, ev_or, ev_ite, ev_tup, ev_lst, ev_call, ev_callk, ev_bl, ev_len, ev_bits, ev_isi, ev_sub, ev_slc, ev_callb, ev_sset, ev_rev, rev_l, rev_o, ea_nil, ea_cons, ei_rng1, ei_rng2, ei_zip, ei_enum, ei_it, sq_skip, sq_seq, sq_asg, sq_tas, sq_par, sq_setix, sq_app, sq_ite, sq_ret, sq_retn, sq_pass, sq_cont, sq_brk, sq_aug_add, ex_skip, evP, setRs, evRet, pk, peek, rd, setAll, bindT, wipeE, unwipe, noOwn, condOf, isNo, RV.pd, RV.frz, canPut, entryE, List.length_cons, List.length_nil, List.map_cons, List.map_nil, List.cons_append, List.nil_append, List.append_nil, Nat.sub_self, Nat.reduceSub, Nat.reduceAdd, Nat.zero_add, List.replicate_succ, List.replicate_zero, List.getElem?_cons_zero, List.getElem?_cons_succ, List.set_cons_zero, List.set_cons_succ, List.getD_cons_zero, List.getD_cons_succ, mapM_pd_nil, mapM_pd_cons, permL_nil, permL_cons, Option.map_some, Option.map_none, Option.bind_some, Option.pure_def, Option.bind_eq_bind, Bool.false_eq_true, if_true, if_false, ite_true, ite_false, reduceIte, reduceCtorEq, cmp_lt, cmp_le, cmp_gt, cmp_ge, cmp_eq_i, cmp_ne_i, cmp_eq_b, cmp_ne_b, cmp_eq_s, cmp_ne_s, cmp_eq_nn, cmp_is, cmp_isnot, isNone_none, isNone_bool, isNone_int, isNone_str, isNone_list, isNone_tuple, bin_add, bin_sub, mulOk_n, mulOk_m, divOk_n, Nat.reduceLT, Int.reduceEq, Int.reduceNe, ne_eq, not_false_eq_true, decide_true, decide_false, bin_mul, bin_fdiv, bin_mod, bin_addl, bin_addt, bin_shl, bin_shr, bin_band, bin_bor, tru_b, tru_i, tru_l, tru_t, tru_o, tru_n, len_l, len_t, len_o, item_l, item_t, item_o, item_b0, item_b1, item_b2, at0, at1, at2, at3, at4, at5, atm1, blt_abs, blt_int, blt_intb, blt_tl, blt_tt, blt_ll, blt_lt, blt_sum, blt_all, blt_any, blt_min2, blt_max2, put_b0, put_b1, put_b2, szOk_0, szOk_1, szOk_n, Nat.reduceLeDiff, bin_mul2, bin_pow, Bool.not_true, Bool.not_false, wp_some, Nx_nx, Rt_rt, Option.toList_some, Option.toList_none, ev_lcR, lcR_nil, rangeD_map, zipW_map, enum_map, zip_tt, zip_tl, zip_lt, zip_ll, iter_t, iter_l, iter_o, lst_l, lst_o, seq_sq, iter_sq, len_sq, item_sq, list_sq, tuple_sq, zip_sq, pairD, step_no, stepC_eq, st_cmp, st_chain, st_and, st_or, st_not, st_isi, st_call, st_bl, st_var, setQ]; rfl
            · simp only [ev_var, ev_con, ev_bin, ev_neg, ev_not, ev_cmp, ev_chain, ev_and, ev_or, ev_ite, ev_tup, ev_lst, ev_call, ev_callk, ev_bl, ev_len, ev_bits, ev_isi, ev_sub, ev_slc, ev_callb, ev_sset, ev_rev, rev_l, rev_o, ea_nil, ea_cons, ei_rng1, ei_rng2, ei_zip, ei_enum, ei_it, sq_skip, sq_seq, sq_asg, sq_tas, sq_par, sq_setix, sq_app, sq_ite, sq_ret, sq_retn, sq_pass, sq_cont, sq_brk, sq_aug_add, ex_skip, evP, setRs, evRet, pk, peek, rd, setAll, bindT, wipeE, unwipe, noOwn, condOf, isNo, RV.pd, RV.frz, canPut, entryE, List.length_cons, List.length_nil, List.map_cons, List.map_nil, List.cons_append, List.nil_append, List.append_nil, Nat.sub_self, Nat.reduceSub, Nat.reduceAdd, Nat.zero_add, List.replicate_succ, List.replicate_zero, List.getElem?_cons_zero, List.getElem?_cons_succ, List.set_cons_zero, List.set_cons_succ, List.getD_cons_zero, List.getD_cons_succ, mapM_pd_nil, mapM_pd_cons, permL_nil, permL_cons, Option.map_some, Option.map_none, Option.bind_some, Option.pure_def, Option.bind_eq_bind, Bool.false_eq_true, if_true, if_false, ite_true, ite_false, reduceIte, reduceCtorEq, cmp_lt, cmp_le, cmp_gt, cmp_ge, cmp_eq_i, cmp_ne_i, cmp_eq_b, cmp_ne_b, cmp_eq_s, cmp_ne_s, cmp_eq_nn, cmp_is, cmp_isnot, isNone_none, isNone_bool, isNone_int, isNone_str, isNone_list, isNone_tuple, bin_add, bin_sub, mulOk_n, mulOk_m, divOk_n, Nat.reduceLT, Int.reduceEq, Int.reduceNe, ne_eq, not_false_eq_true, decide_true, decide_false, bin_mul, bin_fdiv, bin_mod, bin_addl, bin_addt, bin_shl, bin_shr, bin_band, bin_bor, tru_b, tru_i, tru_l, tru_t, tru_o, tru_n, len_l, len_t, len_o, item_l, item_t, item_o, item_b0, item_b1, item_b2, at0, at1, at2, at3, at4, at5, atm1, blt_abs, blt_int, blt_intb, blt_tl, blt_tt, blt_ll, blt_lt, blt_sum, blt_all, blt_any, blt_min2, blt_max2, put_b0, put_b1, put_b2, szOk_0, szOk_1, szOk_n, Nat.reduceLeDiff, bin_mul2, bin_pow, Bool.not_true, Bool.not_false, wp_some, Nx_nx, Rt_rt, Option.toList_some, Option.toList_none, ev_lcR, lcR_nil, rangeD_map, zipW_map, enum_map, zip_tt, zip_tl, zip_lt, zip_ll, iter_t, iter_l, iter_o, lst_l, lst_o, seq_sq, iter_sq, len_sq, item_sq, list_sq, tuple_sq, zip_sq, pairD, step_no, stepC_eq, st_cmp, st_chain, st_and, st_or, st_not, st_isi, st_call, st_bl, st_var, setQ]; rfl
          · rintro j ⟨v, w⟩ g hj ⟨e10, e11, e12, e13, rfl⟩
            rw [List.getElem?_zipIdx] at hj
            cases hr : (List.range (N + 1))[j]? with
            | none => rw [hr] at hj; cases hj
            | some v' =>
              rw [hr] at hj
              simp only [Option.map_some, Option.some.injEq, Prod.mk.injEq] at hj
              obtain ⟨rfl, rfl⟩ := hj
              obtain ⟨hj1, hj2⟩ := List.getElem?_eq_some_iff.mp hr
              rw [List.length_range] at hj1
              rw [List.getElem_range] at hj2
              subst hj2
              simp only [Nat.zero_add]
              have m1 : mulOk (p.1.natAbs : Int) (p.2 + 1) = true := mulOk_l (by omega)
              have szl : (rowW (absP (l.take (k + 1))) j).length < 16777216 := by rw [rowW_len]; omega
              have sl := cnt_slide (l := absP (l.take k)) (a := (p.1.natAbs : Int)) (b := p.2) (j := (j : Int)) p0
              rw [← tk] at sl
              have snoc : rowW (absP (l.take (k + 1))) (j + 1) = rowW (absP (l.take (k + 1))) j ++ [.int (cnt (absP (l.take (k + 1))) (j : Int))] := by
                unfold rowW
                rw [List.range_succ, List.map_append]; rfl
              have nk1 : Nn (l.take (k + 1)) := hn.take (k + 1)
              have c1 : ∃ ah : Int, ah = cnt (absP (l.take (k + 1))) ((j : Int) - (p.1.natAbs : Int)) ∧ ((p.1.natAbs : Int) ≤ (j : Int) → L2.atI (rowW (absP (l.take (k + 1))) j) ((j : Int) - (p.1.natAbs : Int)) = some (.int ah)) ∧ (¬ (p.1.natAbs : Int) ≤ (j : Int) → ah = 0) := by
                refine ⟨_, rfl, fun z => ?_, fun z => cnt_neg nk1 (by omega)⟩
                obtain ⟨d, hd⟩ : ∃ d : Nat, (j : Int) - (p.1.natAbs : Int) = (d : Int) := ⟨j - p.1.natAbs, by omega⟩
                rw [hd]
                exact rowW_at (by omega)
              have c2 : ∃ go : Int, go = cnt (absP (l.take k)) ((j : Int) - (p.1.natAbs : Int) * (p.2 + 1)) ∧ (0 ≤ (j : Int) - (p.1.natAbs : Int) * (p.2 + 1) → L2.atI (rowW (absP (l.take k)) (N + 1)) ((j : Int) - (p.1.natAbs : Int) * (p.2 + 1)) = some (.int go)) ∧ (¬ 0 ≤ (j : Int) - (p.1.natAbs : Int) * (p.2 + 1) → go = 0) := by
                refine ⟨_, rfl, fun z => ?_, fun z => cnt_neg nk (by omega)⟩
                have : 0 ≤ (p.1.natAbs : Int) * (p.2 + 1) := Int.mul_nonneg (by omega) (by omega)
                obtain ⟨d, hd⟩ : ∃ d : Nat, (j : Int) - (p.1.natAbs : Int) * (p.2 + 1) = (d : Int) := ⟨((j : Int) - (p.1.natAbs : Int) * (p.2 + 1)).toNat, by omega⟩
                rw [hd]
                exact rowW_at (by omega)
              obtain ⟨ah, ah0, ah1, ah2⟩ := c1
              obtain ⟨go, go0, go1, go2⟩ := c2
              rw [← ah0, ← go0] at sl
              rw [snoc, sl]
              clear ah0 go0 sl snoc
              generalize (p.1.natAbs : Int) = z at *
              generalize (j : Int) = y at *
              by_cases b1 : z ≤ y
              · by_cases b2 : 0 ≤ y - z * (p.2 + 1)
                · simp only [ev_var, ev_con, ev_bin, ev_neg, ev_not, ev_cmp, ev_chain, ev_and, ev_or, ev_ite, ev_tup, ev_lst, ev_call, ev_callk, ev_bl, ev_len, ev_bits, ev_isi, ev_sub, ev_slc, ev_callb, ev_sset, ev_rev, rev_l, rev_o, ea_nil, ea_cons, ei_rng1, ei_rng2, ei_zip, ei_enum, ei_it, sq_skip, sq_seq, sq_asg, sq_tas, sq_par, sq_setix, sq_app, sq_ite, sq_ret, sq_retn, sq_pass, sq_cont, sq_brk, sq_aug_add, ex_skip, evP, setRs, evRet, pk, peek, rd, setAll, bindT, wipeE, unwipe, noOwn, condOf, isNo, RV.pd, RV.frz, canPut, entryE, List.length_cons, List.length_nil, List.map_cons, List.map_nil, List.cons_append, List.nil_append, List.append_nil, Nat.sub_self, Nat.reduceSub, Nat.reduceAdd, Nat.zero_add, List.replicate_succ, List.replicate_zero, List.getElem?_cons_zero, List.getElem?_cons_succ, List.set_cons_zero, List.set_cons_succ, List.getD_cons_zero, List.getD_cons_succ, mapM_pd_nil, mapM_pd_cons, permL_nil, permL_cons, Option.map_some, Option.map_none, Option.bind_some, Option.pure_def, Option.bind_eq_bind, Bool.false_eq_true, if_true, if_false, ite_true, ite_false, reduceIte, reduceCtorEq, cmp_lt, cmp_le, cmp_gt, cmp_ge, cmp_eq_i, cmp_ne_i, cmp_eq_b, cmp_ne_b, cmp_eq_s, cmp_ne_s, cmp_eq_nn, cmp_is, cmp_isnot, isNone_none, isNone_bool, isNone_int, isNone_str, isNone_list, isNone_tuple, bin_add, bin_sub, mulOk_n, mulOk_m, divOk_n, Nat.reduceLT, Int.reduceEq, Int.reduceNe, ne_eq, not_false_eq_true, decide_true, decide_false, bin_mul, bin_fdiv, bin_mod, bin_addl, bin_addt, bin_shl, bin_shr, bin_band, bin_bor, tru_b, tru_i, tru_l, tru_t, tru_o, tru_n, len_l, len_t, len_o, item_l, item_t, item_o, item_b0, item_b1, item_b2, at0, at1, at2, at3, at4, at5, atm1, blt_abs, blt_int, blt_intb, blt_tl, blt_tt, blt_ll, blt_lt, blt_sum, blt_all, blt_any, blt_min2, blt_max2, put_b0, put_b1, put_b2, szOk_0, szOk_1, szOk_n, Nat.reduceLeDiff, bin_mul2, bin_pow, Bool.not_true, Bool.not_false, wp_some, Nx_nx, Rt_rt, Option.toList_some, Option.toList_none, ev_lcR, lcR_nil, rangeD_map, zipW_map, enum_map, zip_tt, zip_tl, zip_lt, zip_ll, iter_t, iter_l, iter_o, lst_l, lst_o, seq_sq, iter_sq, len_sq, item_sq, list_sq, tuple_sq, zip_sq, pairD, step_no, stepC_eq, st_cmp, st_chain, st_and, st_or, st_not, st_isi, st_call, st_bl, st_var, setQ, m1, appE, szl, b1, b2, ah1 b1, go1 b2]
                  exact .inl ⟨_, _, _, _, rfl⟩
                · simp only [ev_var, ev_con, ev_bin, ev_neg, ev_not, ev_cmp, ev_chain, ev_and, ev_or, ev_ite, ev_tup, ev_lst, ev_call, ev_callk, ev_bl, ev_len, ev_bits, ev_isi, ev_sub, ev_slc, ev_callb, ev_sset, ev_rev, rev_l, rev_o, ea_nil, ea_cons, ei_rng1, ei_rng2, ei_zip, ei_enum, ei_it, sq_skip, sq_seq, sq_asg, sq_tas, sq_par, sq_setix, sq_app, sq_ite, sq_ret, sq_retn, sq_pass, sq_cont, sq_brk, sq_aug_add, ex_skip, evP, setRs, evRet, pk, peek, rd, setAll, bindT, wipeE, unwipe, noOwn, condOf, isNo, RV.pd, RV.frz, canPut, entryE, List.length_cons, List.length_nil, List.map_cons, List.map_nil, List.cons_append, List.nil_append, List.append_nil, Nat.sub_self, Nat.reduceSub, Nat.reduceAdd, Nat.zero_add, List.replicate_succ, List.replicate_zero, List.getElem?_cons_zero, List.getElem?_cons_succ, List.set_cons_zero, List.set_cons_succ, List.getD_cons_zero, List.getD_cons_succ, mapM_pd_nil, mapM_pd_cons, permL_nil, permL_cons, Option.map_some, Option.map_none, Option.bind_some, Option.pure_def, Option.bind_eq_bind, Bool.false_eq_true, if_true, if_false, ite_true, ite_false, reduceIte, reduceCtorEq, cmp_lt, cmp_le, cmp_gt, cmp_ge, cmp_eq_i, cmp_ne_i, cmp_eq_b, cmp_ne_b, cmp_eq_s, cmp_ne_s, cmp_eq_nn, cmp_is, cmp_isnot, isNone_none, isNone_bool, isNone_int, isNone_str, isNone_list, isNone_tuple, bin_add, bin_sub, mulOk_n, mulOk_m, divOk_n, Nat.reduceLT, Int.reduceEq, Int.reduceNe, ne_eq, not_false_eq_true, decide_true, decide_false, bin_mul, bin_fdiv, bin_mod, bin_addl, bin_addt, bin_shl, bin_shr, bin_band, bin_bor, tru_b, tru_i, tru_l, tru_t, tru_o, tru_n, len_l, len_t, len_o, item_l, item_t, item_o, item_b0, item_b1, item_b2, at0, at1, at2, at3, at4, at5, atm1, blt_abs, blt_int, blt_intb, blt_tl, blt_tt, blt_ll, blt_lt, blt_sum, blt_all, blt_any, blt_min2, blt_max2, put_b0, put_b1, put_b2, szOk_0, szOk_1, szOk_n, Nat.reduceLeDiff, bin_mul2, bin_pow, Bool.not_true, Bool.not_false, wp_some, Nx_nx, Rt_rt, Option.toList_some, Option.toList_none, ev_lcR, lcR_nil, rangeD_map, zipW_map, enum_map, zip_tt, zip_tl, zip_lt, zip_ll, iter_t, iter_l, iter_o, lst_l, lst_o, seq_sq, iter_sq, len_sq, item_sq, list_sq, tuple_sq, zip_sq, pairD, step_no, stepC_eq, st_cmp, st_chain, st_and, st_or, st_not, st_isi, st_call, st_bl, st_var, setQ, m1, appE, szl, b1, b2, ah1 b1, go2 b2]
                  exact .inl ⟨_, _, _, _, rfl⟩
              · by_cases b2 : 0 ≤ y - z * (p.2 + 1)
                · simp only [ev_var, ev_con, ev_bin, ev_neg, ev_not, ev_cmp, ev_chain, ev_and, ev_or, ev_ite, ev_tup, ev_lst, ev_call, ev_callk, ev_bl, ev_len, ev_bits, ev_isi, ev_sub, ev_slc, ev_callb, ev_sset, ev_rev, rev_l, rev_o, ea_nil, ea_cons, ei_rng1, ei_rng2, ei_zip, ei_enum, ei_it, sq_skip, sq_seq, sq_asg, sq_tas, sq_par, sq_setix, sq_app, sq_ite, sq_ret, sq_retn, sq_pass, sq_cont, sq_brk, sq_aug_add, ex_skip, evP, setRs, evRet, pk, peek, rd, setAll, bindT, wipeE, unwipe, noOwn, condOf, isNo, RV.pd, RV.frz, canPut, entryE, List.length_cons, List.length_nil, List.map_cons, List.map_nil, List.cons_append, List.nil_append, List.append_nil, Nat.sub_self, Nat.reduceSub, Nat.reduceAdd, Nat.zero_add, List.replicate_succ, List.replicate_zero, List.getElem?_cons_zero, List.getElem?_cons_succ, List.set_cons_zero, List.set_cons_succ, List.getD_cons_zero, List.getD_cons_succ, mapM_pd_nil, mapM_pd_cons, permL_nil, permL_cons, Option.map_some, Option.map_none, Option.bind_some, Option.pure_def, Option.bind_eq_bind, Bool.false_eq_true, if_true, if_false, ite_true, ite_false, reduceIte, reduceCtorEq, cmp_lt, cmp_le, cmp_gt, cmp_ge, cmp_eq_i, cmp_ne_i, cmp_eq_b, cmp_ne_b, cmp_eq_s, cmp_ne_s, cmp_eq_nn, cmp_is, cmp_isnot, isNone_none, isNone_bool, isNone_int, isNone_str, isNone_list, isNone_tuple, bin_add, bin_sub, mulOk_n, mulOk_m, divOk_n, Nat.reduceLT, Int.reduceEq, Int.reduceNe, ne_eq, not_false_eq_true, decide_true, decide_false, bin_mul, bin_fdiv, bin_mod, bin_addl, bin_addt, bin_shl, bin_shr, bin_band, bin_bor, tru_b, tru_i, tru_l, tru_t, tru_o, tru_n, len_l, len_t, len_o, item_l, item_t, item_o, item_b0, item_b1, item_b2, at0, at1, at2, at3, at4, at5, atm1, blt_abs, blt_int, blt_intb, blt_tl, blt_tt, blt_ll, blt_lt, blt_sum, blt_all, blt_any, blt_min2, blt_max2, put_b0, put_b1, put_b2, szOk_0, szOk_1, szOk_n, Nat.reduceLeDiff, bin_mul2, bin_pow, Bool.not_true, Bool.not_false, wp_some, Nx_nx, Rt_rt, Option.toList_some, Option.toList_none, ev_lcR, lcR_nil, rangeD_map, zipW_map, enum_map, zip_tt, zip_tl, zip_lt, zip_ll, iter_t, iter_l, iter_o, lst_l, lst_o, seq_sq, iter_sq, len_sq, item_sq, list_sq, tuple_sq, zip_sq, pairD, step_no, stepC_eq, st_cmp, st_chain, st_and, st_or, st_not, st_isi, st_call, st_bl, st_var, setQ, m1, appE, szl, b1, b2, ah2 b1, go1 b2]
                  exact .inl ⟨_, _, _, _, rfl⟩
                · simp only [ev_var, ev_con, ev_bin, ev_neg, ev_not, ev_cmp, ev_chain, ev_and, ev_or, ev_ite, ev_tup, ev_lst, ev_call, ev_callk, ev_bl, ev_len, ev_bits, ev_isi, ev_sub, ev_slc, ev_callb, ev_sset, ev_rev, rev_l, rev_o, ea_nil, ea_cons, ei_rng1, ei_rng2, ei_zip, ei_enum, ei_it, sq_skip, sq_seq, sq_asg, sq_tas, sq_par, sq_setix, sq_app, sq_ite, sq_ret, sq_retn, sq_pass, sq_cont, sq_brk, sq_aug_add, ex_skip, evP, setRs, evRet, pk, peek, rd, setAll, bindT, wipeE, unwipe, noOwn, condOf, isNo, RV.pd, RV.frz, canPut, entryE, List.length_cons, List.length_nil, List.map_cons, List.map_nil, List.cons_append, List.nil_append, List.append_nil, Nat.sub_self, Nat.reduceSub, Nat.reduceAdd, Nat.zero_add, List.replicate_succ, List.replicate_zero, List.getElem?_cons_zero, List.getElem?_cons_succ, List.set_cons_zero, List.set_cons_succ, List.getD_cons_zero, List.getD_cons_succ, mapM_pd_nil, mapM_pd_cons, permL_nil, permL_cons, Option.map_some, Option.map_none, Option.bind_some, Option.pure_def, Option.bind_eq_bind, Bool.false_eq_true, if_true, if_false, ite_true, ite_false, reduceIte, reduceCtorEq, cmp_lt, cmp_le, cmp_gt, cmp_ge, cmp_eq_i, cmp_ne_i, cmp_eq_b, cmp_ne_b, cmp_eq_s, cmp_ne_s, cmp_eq_nn, cmp_is, cmp_isnot, isNone_none, isNone_bool, isNone_int, isNone_str, isNone_list, isNone_tuple, bin_add, bin_sub, mulOk_n, mulOk_m, divOk_n, Nat.reduceLT, Int.reduceEq, Int.reduceNe, ne_eq, not_false_eq_true, decide_true, decide_false, bin_mul, bin_fdiv, bin_mod, bin_addl, bin_addt, bin_shl, bin_shr, bin_band, bin_bor, tru_b, tru_i, tru_l, tru_t, tru_o, tru_n, len_l, len_t, len_o, item_l, item_t, item_o, item_b0, item_b1, item_b2, at0, at1, at2, at3, at4, at5, atm1, blt_abs, blt_int, blt_intb, blt_tl, blt_tt, blt_ll, blt_lt, blt_sum, blt_all, blt_any, blt_min2, blt_max2, put_b0, put_b1, put_b2, szOk_0, szOk_1, szOk_n, Nat.reduceLeDiff, bin_mul2, bin_pow, Bool.not_true, Bool.not_false, wp_some, Nx_nx, Rt_rt, Option.toList_some, Option.toList_none, ev_lcR, lcR_nil, rangeD_map, zipW_map, enum_map, zip_tt, zip_tl, zip_lt, zip_ll, iter_t, iter_l, iter_o, lst_l, lst_o, seq_sq, iter_sq, len_sq, item_sq, list_sq, tuple_sq, zip_sq, pairD, step_no, stepC_eq, st_cmp, st_chain, st_and, st_or, st_not, st_isi, st_call, st_bl, st_var, setQ, m1, appE, szl, b1, b2, ah2 b1, go2 b2]
                  exact .inl ⟨_, _, _, _, rfl⟩
          · rintro g ⟨e10, e11, e12, e13, rfl⟩
            rw [List.length_zipIdx, List.length_range]
            simp only [ev_var, ev_con, ev_bin, ev_neg, ev_not, ev_cmp, ev_chain, ev_and, ev_or, ev_ite, ev_tup, ev_lst, ev_call, ev_callk, ev_bl, ev_len, ev_bits, ev_isi, ev_sub, ev_slc, ev_callb, ev_sset, ev_rev, rev_l, rev_o, ea_nil, ea_cons, ei_rng1, ei_rng2, ei_zip, ei_enum, ei_it, sq_skip, sq_seq, sq_asg, sq_tas, sq_par, sq_setix, sq_app, sq_ite, sq_ret, sq_retn, sq_pass, sq_cont, sq_brk, sq_aug_add, ex_skip, evP, setRs, evRet, pk, peek, rd, setAll, bindT, wipeE, unwipe, noOwn, condOf, isNo, RV.pd, RV.frz, canPut, entryE, List.length_cons, List.length_nil, List.map_cons, List.map_nil, List.cons_append, List.nil_append, List.append_nil, Nat.sub_self, Nat.reduceSub, Nat.reduceAdd, Nat.zero_add, List.replicate_succ, List.replicate_zero, List.getElem?_cons_zero, List.getElem?_cons_succ, List.set_cons_zero, List.set_cons_succ, List.getD_cons_zero, List.getD_cons_succ, mapM_pd_nil, mapM_pd_cons, permL_nil, permL_cons, Option.map_some, Option.map_none, Option.bind_some, Option.pure_def, Option.bind_eq_bind, Bool.false_eq_true, if_true, if_false, ite_true, ite_false, reduceIte, reduceCtorEq, cmp_lt, cmp_le, cmp_gt, cmp_ge, cmp_eq_i, cmp_ne_i, cmp_eq_b, cmp_ne_b, cmp_eq_s, cmp_ne_s, cmp_eq_nn, cmp_is, cmp_isnot, isNone_none, isNone_bool, isNone_int, isNone_str, isNone_list, isNone_tuple, bin_add, bin_sub, mulOk_n, mulOk_m, divOk_n, Nat.reduceLT, Int.reduceEq, Int.reduceNe, ne_eq, not_false_eq_true, decide_true, decide_false, bin_mul, bin_fdiv, bin_mod, bin_addl, bin_addt, bin_shl, bin_shr, bin_band, bin_bor, tru_b, tru_i, tru_l, tru_t, tru_o, tru_n, len_l, len_t, len_o, item_l, item_t, item_o, item_b0, item_b1, item_b2, at0, at1, at2, at3, at4, at5, atm1, blt_abs, blt_int, blt_intb, blt_tl, blt_tt, blt_ll, blt_lt, blt_sum, blt_all, blt_any, blt_min2, blt_max2, put_b0, put_b1, put_b2, szOk_0, szOk_1, szOk_n, Nat.reduceLeDiff, bin_mul2, bin_pow, Bool.not_true, Bool.not_false, wp_some, Nx_nx, Rt_rt, Option.toList_some, Option.toList_none, ev_lcR, lcR_nil, rangeD_map, zipW_map, enum_map, zip_tt, zip_tl, zip_lt, zip_ll, iter_t, iter_l, iter_o, lst_l, lst_o, seq_sq, iter_sq, len_sq, item_sq, list_sq, tuple_sq, zip_sq, pairD, step_no, stepC_eq, st_cmp, st_chain, st_and, st_or, st_not, st_isi, st_call, st_bl, st_var, setQ]
            exact ⟨_, _, _, _, _, _, _, _, _, rfl, .inr rfl⟩
        generalize hzz : (p.1.natAbs : Int) = z at a inner
        simp only [ev_var, ev_con, ev_bin, ev_neg, ev_not, ev_cmp, ev_chain, ev_and, ev_or, ev_ite, ev_tup, ev_lst, ev_call, ev_callk, ev_bl, ev_len, ev_bits, ev_isi, ev_sub, ev_slc, ev_callb, ev_sset, ev_rev, rev_l, rev_o, ea_nil, ea_cons, ei_rng1, ei_rng2, ei_zip, ei_enum, ei_it, sq_skip, sq_seq, sq_asg, sq_tas, sq_par, sq_setix, sq_app, sq_ite, sq_ret, sq_retn, sq_pass, sq_cont, sq_brk, sq_aug_add, ex_skip, evP, setRs, evRet, pk, peek, rd, setAll, bindT, wipeE, unwipe, noOwn, condOf, isNo, RV.pd, RV.frz, canPut, entryE, List.length_cons, List.length_nil, List.map_cons, List.map_nil, List.cons_append, List.nil_append, List.append_nil, Nat.sub_self, Nat.reduceSub, Nat.reduceAdd, Nat.zero_add, List.replicate_succ, List.replicate_zero, List.getElem?_cons_zero, List.getElem?_cons_succ, List.set_cons_zero, List.set_cons_succ, List.getD_cons_zero, List.getD_cons_succ, mapM_pd_nil, mapM_pd_cons, permL_nil, permL_cons, Option.map_some, Option.map_none, Option.bind_some, Option.pure_def, Option.bind_eq_bind, Bool.false_eq_true, if_true, if_false, ite_true, ite_false, reduceIte, reduceCtorEq, cmp_lt, cmp_le, cmp_gt, cmp_ge, cmp_eq_i, cmp_ne_i, cmp_eq_b, cmp_ne_b, cmp_eq_s, cmp_ne_s, cmp_eq_nn, cmp_is, cmp_isnot, isNone_none, isNone_bool, isNone_int, isNone_str, isNone_list, isNone_tuple, bin_add, bin_sub, mulOk_n, mulOk_m, divOk_n, Nat.reduceLT, Int.reduceEq, Int.reduceNe, ne_eq, not_false_eq_true, decide_true, decide_false, bin_mul, bin_fdiv, bin_mod, bin_addl, bin_addt, bin_shl, bin_shr, bin_band, bin_bor, tru_b, tru_i, tru_l, tru_t, tru_o, tru_n, len_l, len_t, len_o, item_l, item_t, item_o, item_b0, item_b1, item_b2, at0, at1, at2, at3, at4, at5, atm1, blt_abs, blt_int, blt_intb, blt_tl, blt_tt, blt_ll, blt_lt, blt_sum, blt_all, blt_any, blt_min2, blt_max2, put_b0, put_b1, put_b2, szOk_0, szOk_1, szOk_n, Nat.reduceLeDiff, bin_mul2, bin_pow, Bool.not_true, Bool.not_false, wp_some, Nx_nx, Rt_rt, Option.toList_some, Option.toList_none, ev_lcR, lcR_nil, rangeD_map, zipW_map, enum_map, zip_tt, zip_tl, zip_lt, zip_ll, iter_t, iter_l, iter_o, lst_l, lst_o, seq_sq, iter_sq, len_sq, item_sq, list_sq, tuple_sq, zip_sq, pairD, step_no, stepC_eq, st_cmp, st_chain, st_and, st_or, st_not, st_isi, st_call, st_bl, st_var, setQ, a]
        refine wp_mono inner fun r hr => .inl hr
      · rintro g ⟨s5, e6, e7, e8, e9, e10, e11, e12, e13, rfl, h5⟩
        rw [List.take_length] at h5
        obtain ⟨d, hd⟩ : ∃ d : Nat, x - lowP l = (d : Int) := ⟨(x - lowP l).toNat, by omega⟩
        have at_ := rowW_at (l := absP l) (k := N + 1) (j := d) (by omega)
        rw [hd]
        rcases h5 with rfl | rfl
        · simp only [ev_var, ev_con, ev_bin, ev_neg, ev_not, ev_cmp, ev_chain, ev_and, ev_or, ev_ite, ev_tup, ev_lst, ev_call, ev_callk, ev_bl, ev_len, ev_bits, ev_isi, ev_sub, ev_slc, ev_callb, ev_sset, ev_rev, rev_l, rev_o, ea_nil, ea_cons, ei_rng1, ei_rng2, ei_zip, ei_enum, ei_it, sq_skip, sq_seq, sq_asg, sq_tas, sq_par, sq_setix, sq_app, sq_ite, sq_ret, sq_retn, sq_pass, sq_cont, sq_brk, sq_aug_add, ex_skip, evP, setRs, evRet, pk, peek, rd, setAll, bindT, wipeE, unwipe, noOwn, condOf, isNo, RV.pd, RV.frz, canPut, entryE, List.length_cons, List.length_nil, List.map_cons, List.map_nil, List.cons_append, List.nil_append, List.append_nil, Nat.sub_self, Nat.reduceSub, Nat.reduceAdd, Nat.zero_add, List.replicate_succ, List.replicate_zero, List.getElem?_cons_zero, List.getElem?_cons_succ, List.set_cons_zero, List.set_cons_succ, List.getD_cons_zero, List.getD_cons_succ, mapM_pd_nil, mapM_pd_cons, permL_nil, permL_cons, Option.map_some, Option.map_none, Option.bind_some, Option.pure_def, Option.bind_eq_bind, Bool.false_eq_true, if_true, if_false, ite_true, ite_false, reduceIte, reduceCtorEq, cmp_lt, cmp_le, cmp_gt, cmp_ge, cmp_eq_i, cmp_ne_i, cmp_eq_b, cmp_ne_b, cmp_eq_s, cmp_ne_s, cmp_eq_nn, cmp_is, cmp_isnot, isNone_none, isNone_bool, isNone_int, isNone_str, isNone_list, isNone_tuple, bin_add, bin_sub, mulOk_n, mulOk_m, divOk_n, Nat.reduceLT, Int.reduceEq, Int.reduceNe, ne_eq, not_false_eq_true, decide_true, decide_false, bin_mul, bin_fdiv, bin_mod, bin_addl, bin_addt, bin_shl, bin_shr, bin_band, bin_bor, tru_b, tru_i, tru_l, tru_t, tru_o, tru_n, len_l, len_t, len_o, item_l, item_t, item_o, item_b0, item_b1, item_b2, at0, at1, at2, at3, at4, at5, atm1, blt_abs, blt_int, blt_intb, blt_tl, blt_tt, blt_ll, blt_lt, blt_sum, blt_all, blt_any, blt_min2, blt_max2, put_b0, put_b1, put_b2, szOk_0, szOk_1, szOk_n, Nat.reduceLeDiff, bin_mul2, bin_pow, Bool.not_true, Bool.not_false, wp_some, Nx_nx, Rt_rt, Option.toList_some, Option.toList_none, ev_lcR, lcR_nil, rangeD_map, zipW_map, enum_map, zip_tt, zip_tl, zip_lt, zip_ll, iter_t, iter_l, iter_o, lst_l, lst_o, seq_sq, iter_sq, len_sq, item_sq, list_sq, tuple_sq, zip_sq, pairD, step_no, stepC_eq, st_cmp, st_chain, st_and, st_or, st_not, st_isi, st_call, st_bl, st_var, setQ, hd, at_, and_self]
        · simp only [ev_var, ev_con, ev_bin, ev_neg, ev_not, ev_cmp, ev_chain, ev_and, ev_or, ev_ite, ev_tup, ev_lst, ev_call, ev_callk, ev_bl, ev_len, ev_bits, ev_isi, ev_sub, ev_slc, ev_callb, ev_sset, ev_rev, rev_l, rev_o, ea_nil, ea_cons, ei_rng1, ei_rng2, ei_zip, ei_enum, ei_it, sq_skip, sq_seq, sq_asg, sq_tas, sq_par, sq_setix, sq_app, sq_ite, sq_ret, sq_retn, sq_pass, sq_cont, sq_brk, sq_aug_add, ex_skip, evP, setRs, evRet, pk, peek, rd, setAll, bindT, wipeE, unwipe, noOwn, condOf, isNo, RV.pd, RV.frz, canPut, entryE, List.length_cons, List.length_nil, List.map_cons, List.map_nil, List.cons_append, List.nil_append, List.append_nil, Nat.sub_self, Nat.reduceSub, Nat.reduceAdd, Nat.zero_add, List.replicate_succ, List.replicate_zero, List.getElem?_cons_zero, List.getElem?_cons_succ, List.set_cons_zero, List.set_cons_succ, List.getD_cons_zero, List.getD_cons_succ, mapM_pd_nil, mapM_pd_cons, permL_nil, permL_cons, Option.map_some, Option.map_none, Option.bind_some, Option.pure_def, Option.bind_eq_bind, Bool.false_eq_true, if_true, if_false, ite_true, ite_false, reduceIte, reduceCtorEq, cmp_lt, cmp_le, cmp_gt, cmp_ge, cmp_eq_i, cmp_ne_i, cmp_eq_b, cmp_ne_b, cmp_eq_s, cmp_ne_s, cmp_eq_nn, cmp_is, cmp_isnot, isNone_none, isNone_bool, isNone_int, isNone_str, isNone_list, isNone_tuple, bin_add, bin_sub, mulOk_n, mulOk_m, divOk_n, Nat.reduceLT, Int.reduceEq, Int.reduceNe, ne_eq, not_false_eq_true, decide_true, decide_false, bin_mul, bin_fdiv, bin_mod, bin_addl, bin_addt, bin_shl, bin_shr, bin_band, bin_bor, tru_b, tru_i, tru_l, tru_t, tru_o, tru_n, len_l, len_t, len_o, item_l, item_t, item_o, item_b0, item_b1, item_b2, at0, at1, at2, at3, at4, at5, atm1, blt_abs, blt_int, blt_intb, blt_tl, blt_tt, blt_ll, blt_lt, blt_sum, blt_all, blt_any, blt_min2, blt_max2, put_b0, put_b1, put_b2, szOk_0, szOk_1, szOk_n, Nat.reduceLeDiff, bin_mul2, bin_pow, Bool.not_true, Bool.not_false, wp_some, Nx_nx, Rt_rt, Option.toList_some, Option.toList_none, ev_lcR, lcR_nil, rangeD_map, zipW_map, enum_map, zip_tt, zip_tl, zip_lt, zip_ll, iter_t, iter_l, iter_o, lst_l, lst_o, seq_sq, iter_sq, len_sq, item_sq, list_sq, tuple_sq, zip_sq, pairD, step_no, stepC_eq, st_cmp, st_chain, st_and, st_or, st_not, st_isi, st_call, st_bl, st_var, setQ, hd, at_, and_self]
    · rw [out fun q => q2 q.2]
      simp only [B_how_many_counters, ent, ev_var, ev_con, ev_bin, ev_neg, ev_not, ev_cmp, ev_chain, ev_and, ev_or, ev_ite, ev_tup, ev_lst, ev_call, ev_callk, ev_bl, ev_len, ev_bits, ev_isi, ev_sub, ev_slc, ev_callb, ev_sset, ev_rev, rev_l, rev_o, ea_nil, ea_cons, ei_rng1, ei_rng2, ei_zip, ei_enum, ei_it, sq_skip, sq_seq, sq_asg, sq_tas, sq_par, sq_setix, sq_app, sq_ite, sq_ret, sq_retn, sq_pass, sq_cont, sq_brk, sq_aug_add, ex_skip, evP, setRs, evRet, pk, peek, rd, setAll, bindT, wipeE, unwipe, noOwn, condOf, isNo, RV.pd, RV.frz, canPut, entryE, List.length_cons, List.length_nil, List.map_cons, List.map_nil, List.cons_append, List.nil_append, List.append_nil, Nat.sub_self, Nat.reduceSub, Nat.reduceAdd, Nat.zero_add, List.replicate_succ, List.replicate_zero, List.getElem?_cons_zero, List.getElem?_cons_succ, List.set_cons_zero, List.set_cons_succ, List.getD_cons_zero, List.getD_cons_succ, mapM_pd_nil, mapM_pd_cons, permL_nil, permL_cons, Option.map_some, Option.map_none, Option.bind_some, Option.pure_def, Option.bind_eq_bind, Bool.false_eq_true, if_true, if_false, ite_true, ite_false, reduceIte, reduceCtorEq, cmp_lt, cmp_le, cmp_gt, cmp_ge, cmp_eq_i, cmp_ne_i, cmp_eq_b, cmp_ne_b, cmp_eq_s, cmp_ne_s, cmp_eq_nn, cmp_is, cmp_isnot, isNone_none, isNone_bool, isNone_int, isNone_str, isNone_list, isNone_tuple, bin_add, bin_sub, mulOk_n, mulOk_m, divOk_n, Nat.reduceLT, Int.reduceEq, Int.reduceNe, ne_eq, not_false_eq_true, decide_true, decide_false, bin_mul, bin_fdiv, bin_mod, bin_addl, bin_addt, bin_shl, bin_shr, bin_band, bin_bor, tru_b, tru_i, tru_l, tru_t, tru_o, tru_n, len_l, len_t, len_o, item_l, item_t, item_o, item_b0, item_b1, item_b2, at0, at1, at2, at3, at4, at5, atm1, blt_abs, blt_int, blt_intb, blt_tl, blt_tt, blt_ll, blt_lt, blt_sum, blt_all, blt_any, blt_min2, blt_max2, put_b0, put_b1, put_b2, szOk_0, szOk_1, szOk_n, Nat.reduceLeDiff, bin_mul2, bin_pow, Bool.not_true, Bool.not_false, wp_some, Nx_nx, Rt_rt, Option.toList_some, Option.toList_none, ev_lcR, lcR_nil, rangeD_map, zipW_map, enum_map, zip_tt, zip_tl, zip_lt, zip_ll, iter_t, iter_l, iter_o, lst_l, lst_o, seq_sq, iter_sq, len_sq, item_sq, list_sq, tuple_sq, zip_sq, pairD, step_no, stepC_eq, st_cmp, st_chain, st_and, st_or, st_not, st_isi, st_call, st_bl, st_var, setQ, a1, a2, q1, q2, and_self]
  · rw [out fun q => q1 q.1]
    simp only [B_how_many_counters, ent, ev_var, ev_con, ev_bin, ev_neg, ev_not, ev_cmp, ev_chain, ev_and, ev_or, ev_ite, ev_tup, ev_lst, ev_call, ev_callk, ev_bl, ev_len, ev_bits, ev_isi, ev_sub, ev_slc, ev_callb, ev_sset, ev_rev, rev_l, rev_o, ea_nil, ea_cons, ei_rng1, ei_rng2, ei_zip, ei_enum, ei_it, sq_skip, sq_seq, sq_asg, sq_tas, sq_par, sq_setix, sq_app, sq_ite, sq_ret, sq_retn, sq_pass, sq_cont, sq_brk, sq_aug_add, ex_skip, evP, setRs, evRet, pk, peek, rd, setAll, bindT, wipeE, unwipe, noOwn, condOf, isNo, RV.pd, RV.frz, canPut, entryE, List.length_cons, List.length_nil, List.map_cons, List.map_nil, List.cons_append, List.nil_append, List.append_nil, Nat.sub_self, Nat.reduceSub, Nat.reduceAdd, Nat.zero_add, List.replicate_succ, List.replicate_zero, List.getElem?_cons_zero, List.getElem?_cons_succ, List.set_cons_zero, List.set_cons_succ, List.getD_cons_zero, List.getD_cons_succ, mapM_pd_nil, mapM_pd_cons, permL_nil, permL_cons, Option.map_some, Option.map_none, Option.bind_some, Option.pure_def, Option.bind_eq_bind, Bool.false_eq_true, if_true, if_false, ite_true, ite_false, reduceIte, reduceCtorEq, cmp_lt, cmp_le, cmp_gt, cmp_ge, cmp_eq_i, cmp_ne_i, cmp_eq_b, cmp_ne_b, cmp_eq_s, cmp_ne_s, cmp_eq_nn, cmp_is, cmp_isnot, isNone_none, isNone_bool, isNone_int, isNone_str, isNone_list, isNone_tuple, bin_add, bin_sub, mulOk_n, mulOk_m, divOk_n, Nat.reduceLT, Int.reduceEq, Int.reduceNe, ne_eq, not_false_eq_true, decide_true, decide_false, bin_mul, bin_fdiv, bin_mod, bin_addl, bin_addt, bin_shl, bin_shr, bin_band, bin_bor, tru_b, tru_i, tru_l, tru_t, tru_o, tru_n, len_l, len_t, len_o, item_l, item_t, item_o, item_b0, item_b1, item_b2, at0, at1, at2, at3, at4, at5, atm1, blt_abs, blt_int, blt_intb, blt_tl, blt_tt, blt_ll, blt_lt, blt_sum, blt_all, blt_any, blt_min2, blt_max2, put_b0, put_b1, put_b2, szOk_0, szOk_1, szOk_n, Nat.reduceLeDiff, bin_mul2, bin_pow, Bool.not_true, Bool.not_false, wp_some, Nx_nx, Rt_rt, Option.toList_some, Option.toList_none, ev_lcR, lcR_nil, rangeD_map, zipW_map, enum_map, zip_tt, zip_tl, zip_lt, zip_ll, iter_t, iter_l, iter_o, lst_l, lst_o, seq_sq, iter_sq, len_sq, item_sq, list_sq, tuple_sq, zip_sq, pairD, step_no, stepC_eq, st_cmp, st_chain, st_and, st_or, st_not, st_isi, st_call, st_bl, st_var, setQ, a1, a2, q1, and_self]
end
end PX
set_option Elab.async false
set_option autoImplicit false
set_option maxRecDepth 100000
set_option maxHeartbeats 8100000
/-! PXWC: the laws' own step and sums. -/
namespace PX
open PySem
section
variable {T : List FdD} {fu n i : Nat} {bx : Bx} {t u : Bool} {cs bs ks : List Int}
/-! ### the laws' step -/
abbrev lB : S := (.seq (.ite (.cmp .ne (.var 4) (.con (.int 0))) (.seq (.par [3, 4] [(.var 4), (.bin .mod (.bl .int (.cons (.var 3) .nil)) (.var 4))]) .skip) .skip) .skip)
theorem lap_zero {cal : Cal} {x y z : Sl} {a : Int} : ∀ (ds : List PyData) (l : Sl), ∃ l', forL (.nm 5) (exS cal fu lB) ds ⟨[x, y, z, some (.dat (.int a)), some (.dat (.int 0)), l], bx⟩ = some (.nx ⟨[x, y, z, some (.dat (.int a)), some (.dat (.int 0)), l'], bx⟩)
  | [], l => ⟨l, rfl⟩
  | d :: ds, l => by
    obtain ⟨l', e⟩ := lap_zero (cal := cal) (x := x) (y := y) (z := z) (a := a) ds (some (.dat d))
    refine ⟨l', ?_⟩
    rw [forL_cons]
    simp only [ev_var, ev_con, ev_bin, ev_neg, ev_not, ev_cmp, ev_chain, ev_and, ev_or, ev_ite, ev_tup, ev_lst, ev_call, ev_callk, ev_bl, ev_len, ev_bits, ev_isi, ev_sub, ev_slc, ev_callb, ev_sset, ev_rev, rev_l, rev_o, ea_nil, ea_cons, ei_rng1, ei_rng2, ei_zip, ei_enum, ei_it, ex_asg, ex_tas, ex_par, ex_setix, ex_app, ex_ite, ex_skip, ex_seq, ex_ret, ex_retn, ex_pass, ex_cont, ex_brk, evP, setRs, evRet, pk, peek, rd, setAll, bindT, wipeE, unwipe, noOwn, condOf, isNo, RV.pd, RV.frz, canPut, entryE, List.length_cons, List.length_nil, List.map_cons, List.map_nil, List.cons_append, List.nil_append, List.append_nil, Nat.sub_self, Nat.reduceSub, Nat.reduceAdd, Nat.zero_add, List.replicate_succ, List.replicate_zero, List.getElem?_cons_zero, List.getElem?_cons_succ, List.set_cons_zero, List.set_cons_succ, List.getD_cons_zero, List.getD_cons_succ, mapM_pd_nil, mapM_pd_cons, permL_nil, permL_cons, Option.map_some, Option.map_none, Option.bind_some, Option.pure_def, Option.bind_eq_bind, Bool.false_eq_true, if_true, if_false, ite_true, ite_false, reduceIte, reduceCtorEq, cmp_lt, cmp_le, cmp_gt, cmp_ge, cmp_eq_i, cmp_ne_i, cmp_eq_b, cmp_ne_b, cmp_eq_s, cmp_ne_s, cmp_eq_nn, cmp_is, cmp_isnot, isNone_none, isNone_bool, isNone_int, isNone_str, isNone_list, isNone_tuple, bin_add, bin_sub, mulOk_n, mulOk_m, divOk_n, Nat.reduceLT, Int.reduceEq, Int.reduceNe, ne_eq, not_false_eq_true, decide_true, decide_false, bin_mul, bin_fdiv, bin_mod, bin_addl, bin_addt, bin_shl, bin_shr, bin_band, bin_bor, tru_b, tru_i, tru_l, tru_t, tru_o, tru_n, len_l, len_t, len_o, item_l, item_t, item_o, item_b0, item_b1, item_b2, at0, at1, at2, at3, at4, at5, atm1, blt_abs, blt_int, blt_intb, blt_tl, blt_tt, blt_ll, blt_lt, blt_sum, blt_all, blt_any, blt_min2, blt_max2, put_b0, put_b1, put_b2, szOk_0, szOk_1, szOk_n, Nat.reduceLeDiff, bin_mul2, bin_pow, Bool.not_true, Bool.not_false, wp_some, Nx_nx, Rt_rt, Option.toList_some, Option.toList_none]
    exact e
theorem lap_step {cal : Cal} {x y z l : Sl} {a b : Int} {d : PyData} {ds : List PyData} (hb : b ≠ 0) : forL (.nm 5) (exS cal fu lB) (d :: ds) ⟨[x, y, z, some (.dat (.int a)), some (.dat (.int b)), l], bx⟩ =
    forL (.nm 5) (exS cal fu lB) ds ⟨[x, y, z, some (.dat (.int b)), some (.dat (.int (a.fmod b))), some (.dat d)], bx⟩ := by
  rw [forL_cons]
  simp only [ev_var, ev_con, ev_bin, ev_neg, ev_not, ev_cmp, ev_chain, ev_and, ev_or, ev_ite, ev_tup, ev_lst, ev_call, ev_callk, ev_bl, ev_len, ev_bits, ev_isi, ev_sub, ev_slc, ev_callb, ev_sset, ev_rev, rev_l, rev_o, ea_nil, ea_cons, ei_rng1, ei_rng2, ei_zip, ei_enum, ei_it, ex_asg, ex_tas, ex_par, ex_setix, ex_app, ex_ite, ex_skip, ex_seq, ex_ret, ex_retn, ex_pass, ex_cont, ex_brk, evP, setRs, evRet, pk, peek, rd, setAll, bindT, wipeE, unwipe, noOwn, condOf, isNo, RV.pd, RV.frz, canPut, entryE, List.length_cons, List.length_nil, List.map_cons, List.map_nil, List.cons_append, List.nil_append, List.append_nil, Nat.sub_self, Nat.reduceSub, Nat.reduceAdd, Nat.zero_add, List.replicate_succ, List.replicate_zero, List.getElem?_cons_zero, List.getElem?_cons_succ, List.set_cons_zero, List.set_cons_succ, List.getD_cons_zero, List.getD_cons_succ, mapM_pd_nil, mapM_pd_cons, permL_nil, permL_cons, Option.map_some, Option.map_none, Option.bind_some, Option.pure_def, Option.bind_eq_bind, Bool.false_eq_true, if_true, if_false, ite_true, ite_false, reduceIte, reduceCtorEq, cmp_lt, cmp_le, cmp_gt, cmp_ge, cmp_eq_i, cmp_ne_i, cmp_eq_b, cmp_ne_b, cmp_eq_s, cmp_ne_s, cmp_eq_nn, cmp_is, cmp_isnot, isNone_none, isNone_bool, isNone_int, isNone_str, isNone_list, isNone_tuple, bin_add, bin_sub, mulOk_n, mulOk_m, divOk_n, Nat.reduceLT, Int.reduceEq, Int.reduceNe, ne_eq, not_false_eq_true, decide_true, decide_false, bin_mul, bin_fdiv, bin_mod, bin_addl, bin_addt, bin_shl, bin_shr, bin_band, bin_bor, tru_b, tru_i, tru_l, tru_t, tru_o, tru_n, len_l, len_t, len_o, item_l, item_t, item_o, item_b0, item_b1, item_b2, at0, at1, at2, at3, at4, at5, atm1, blt_abs, blt_int, blt_intb, blt_tl, blt_tt, blt_ll, blt_lt, blt_sum, blt_all, blt_any, blt_min2, blt_max2, put_b0, put_b1, put_b2, szOk_0, szOk_1, szOk_n, Nat.reduceLeDiff, bin_mul2, bin_pow, Bool.not_true, Bool.not_false, wp_some, Nx_nx, Rt_rt, Option.toList_some, Option.toList_none, hb]
theorem lap_gcd {cal : Cal} {x y z : Sl} : ∀ (k : Nat) (ds : List PyData) (a b : Nat) (l : Sl), b < 2 ^ k → 2 * k ≤ ds.length → ∃ l', forL (.nm 5) (exS cal fu lB) ds ⟨[x, y, z, some (.dat (.int (a : Int))), some (.dat (.int (b : Int))), l], bx⟩ =
    some (.nx ⟨[x, y, z, some (.dat (.int ((Nat.gcd a b : Nat) : Int))), some (.dat (.int 0)), l'], bx⟩)
  | 0, ds, a, b, l, hb, hm => by
    have : b = 0 := by simpa using hb
    subst this
    rw [Nat.gcd_zero_right]
    exact lap_zero ds l
  | k + 1, ds, a, b, l, hb, hm => by
    by_cases h0 : b = 0
    · subst h0
      rw [Nat.gcd_zero_right]
      exact lap_zero ds l
    · obtain ⟨d, ds, rfl⟩ : ∃ d r, ds = d :: r := by cases ds with | nil => simp at hm | cons d r => exact ⟨d, r, rfl⟩
      rw [lap_step (by omega), fmod_nat]
      have hr : a % b < b := Nat.mod_lt _ (by omega)
      have g1 : Nat.gcd a b = Nat.gcd b (a % b) := by rw [Nat.gcd_comm a b, Nat.gcd_rec b a, Nat.gcd_comm]
      rw [g1]
      generalize a % b = r at hr
      by_cases h1 : r = 0
      · subst h1
        rw [Nat.gcd_zero_right]
        exact lap_zero ds _
      · obtain ⟨d2, ds, rfl⟩ : ∃ d r, ds = d :: r := by cases ds with | nil => simp at hm; omega | cons d r => exact ⟨d, r, rfl⟩
        rw [lap_step (by omega), fmod_nat]
        have hs : b % r < r := Nat.mod_lt _ (by omega)
        have h2 : 2 * (b % r) < b := by
          have := Nat.div_add_mod b r
          have hq : 1 ≤ b / r := Nat.div_pos (by omega) (by omega)
          have : r ≤ r * (b / r) := Nat.le_mul_of_pos_right r hq
          omega
        have g2 : Nat.gcd b r = Nat.gcd r (b % r) := by rw [Nat.gcd_comm b r, Nat.gcd_rec r b, Nat.gcd_comm]
        rw [g2]
        exact lap_gcd k ds r (b % r) _ (by rw [Nat.pow_succ] at hb; omega) (by simp only [List.length_cons] at hm; omega)
theorem lstep_call (h : Is T i 1 6 B_Lstep) (hc : Sh cs) : callN T fu (n + 1) i [Zs t cs] bx = some (.dat (.int ((gcdL 0 cs : Nat) : Int)), bx) := by
  have r400 : inR 400 = true := rfl
  have n400 : Int.toNat 400 = 400 := rfl
  refine run_wp h rfl ?_
  simp only [B_Lstep, ent, ev_var, ev_con, ev_bin, ev_neg, ev_not, ev_cmp, ev_chain, ev_and, ev_or, ev_ite, ev_tup, ev_lst, ev_call, ev_callk, ev_bl, ev_len, ev_bits, ev_isi, ev_sub, ev_slc, ev_callb, ev_sset, ev_rev, rev_l, rev_o, ea_nil, ea_cons, ei_rng1, ei_rng2, ei_zip, ei_enum, ei_it, sq_skip, sq_seq, sq_asg, sq_tas, sq_par, sq_setix, sq_app, sq_ite, sq_ret, sq_retn, sq_pass, sq_cont, sq_brk, sq_aug_add, ex_skip, evP, setRs, evRet, pk, peek, rd, setAll, bindT, wipeE, unwipe, noOwn, condOf, isNo, RV.pd, RV.frz, canPut, entryE, List.length_cons, List.length_nil, List.map_cons, List.map_nil, List.cons_append, List.nil_append, List.append_nil, Nat.sub_self, Nat.reduceSub, Nat.reduceAdd, Nat.zero_add, List.replicate_succ, List.replicate_zero, List.getElem?_cons_zero, List.getElem?_cons_succ, List.set_cons_zero, List.set_cons_succ, List.getD_cons_zero, List.getD_cons_succ, mapM_pd_nil, mapM_pd_cons, permL_nil, permL_cons, Option.map_some, Option.map_none, Option.bind_some, Option.pure_def, Option.bind_eq_bind, Bool.false_eq_true, if_true, if_false, ite_true, ite_false, reduceIte, reduceCtorEq, cmp_lt, cmp_le, cmp_gt, cmp_ge, cmp_eq_i, cmp_ne_i, cmp_eq_b, cmp_ne_b, cmp_eq_s, cmp_ne_s, cmp_eq_nn, cmp_is, cmp_isnot, isNone_none, isNone_bool, isNone_int, isNone_str, isNone_list, isNone_tuple, bin_add, bin_sub, mulOk_n, mulOk_m, divOk_n, Nat.reduceLT, Int.reduceEq, Int.reduceNe, ne_eq, not_false_eq_true, decide_true, decide_false, bin_mul, bin_fdiv, bin_mod, bin_addl, bin_addt, bin_shl, bin_shr, bin_band, bin_bor, tru_b, tru_i, tru_l, tru_t, tru_o, tru_n, len_l, len_t, len_o, item_l, item_t, item_o, item_b0, item_b1, item_b2, at0, at1, at2, at3, at4, at5, atm1, blt_abs, blt_int, blt_intb, blt_tl, blt_tt, blt_ll, blt_lt, blt_sum, blt_all, blt_any, blt_min2, blt_max2, put_b0, put_b1, put_b2, szOk_0, szOk_1, szOk_n, Nat.reduceLeDiff, bin_mul2, bin_pow, Bool.not_true, Bool.not_false, wp_some, Nx_nx, Rt_rt, Option.toList_some, Option.toList_none, ev_lcR, lcR_nil, rangeD_map, zipW_map, enum_map, zip_tt, zip_tl, zip_lt, zip_ll, iter_t, iter_l, iter_o, lst_l, lst_o, seq_sq, iter_sq, len_sq, item_sq, list_sq, tuple_sq, zip_sq, pairD, step_no, stepC_eq, st_cmp, st_chain, st_and, st_or, st_not, st_isi, st_call, st_bl, st_var, setQ]
  refine wp_loop (l := cs) (P := .int) (fun k g => ∃ e2 e3 e4 e5, g = ⟨[some (Zs t cs), some (.dat (.int ((gcdL 0 (cs.take k) : Nat) : Int))), e2, e3, e4, e5], bx⟩) (by simp only [ev_var, ev_con, ev_bin, ev_neg, ev_not, ev_cmp, ev_chain, ev_and, ev_or, ev_ite, ev_tup, ev_lst, ev_call, ev_callk, ev_bl, ev_len, ev_bits, ev_isi, ev_sub, ev_slc, ev_callb, ev_sset, ev_rev, rev_l, rev_o, ea_nil, ea_cons, ei_rng1, ei_rng2, ei_zip, ei_enum, ei_it, sq_skip, sq_seq, sq_asg, sq_tas, sq_par, sq_setix, sq_app, sq_ite, sq_ret, sq_retn, sq_pass, sq_cont, sq_brk, sq_aug_add, ex_skip, evP, setRs, evRet, pk, peek, rd, setAll, bindT, wipeE, unwipe, noOwn, condOf, isNo, RV.pd, RV.frz, canPut, entryE, List.length_cons, List.length_nil, List.map_cons, List.map_nil, List.cons_append, List.nil_append, List.append_nil, Nat.sub_self, Nat.reduceSub, Nat.reduceAdd, Nat.zero_add, List.replicate_succ, List.replicate_zero, List.getElem?_cons_zero, List.getElem?_cons_succ, List.set_cons_zero, List.set_cons_succ, List.getD_cons_zero, List.getD_cons_succ, mapM_pd_nil, mapM_pd_cons, permL_nil, permL_cons, Option.map_some, Option.map_none, Option.bind_some, Option.pure_def, Option.bind_eq_bind, Bool.false_eq_true, if_true, if_false, ite_true, ite_false, reduceIte, reduceCtorEq, cmp_lt, cmp_le, cmp_gt, cmp_ge, cmp_eq_i, cmp_ne_i, cmp_eq_b, cmp_ne_b, cmp_eq_s, cmp_ne_s, cmp_eq_nn, cmp_is, cmp_isnot, isNone_none, isNone_bool, isNone_int, isNone_str, isNone_list, isNone_tuple, bin_add, bin_sub, mulOk_n, mulOk_m, divOk_n, Nat.reduceLT, Int.reduceEq, Int.reduceNe, ne_eq, not_false_eq_true, decide_true, decide_false, bin_mul, bin_fdiv, bin_mod, bin_addl, bin_addt, bin_shl, bin_shr, bin_band, bin_bor, tru_b, tru_i, tru_l, tru_t, tru_o, tru_n, len_l, len_t, len_o, item_l, item_t, item_o, item_b0, item_b1, item_b2, at0, at1, at2, at3, at4, at5, atm1, blt_abs, blt_int, blt_intb, blt_tl, blt_tt, blt_ll, blt_lt, blt_sum, blt_all, blt_any, blt_min2, blt_max2, put_b0, put_b1, put_b2, szOk_0, szOk_1, szOk_n, Nat.reduceLeDiff, bin_mul2, bin_pow, Bool.not_true, Bool.not_false, wp_some, Nx_nx, Rt_rt, Option.toList_some, Option.toList_none, ev_lcR, lcR_nil, rangeD_map, zipW_map, enum_map, zip_tt, zip_tl, zip_lt, zip_ll, iter_t, iter_l, iter_o, lst_l, lst_o, seq_sq, iter_sq, len_sq, item_sq, list_sq, tuple_sq, zip_sq, pairD, step_no, stepC_eq, st_cmp, st_chain, st_and, st_or, st_not, st_isi, st_call, st_bl, st_var, setQ]; rfl) ⟨none, none, none, none, rfl⟩ ?_ ?_
  · rintro k c g hk ⟨e2, e3, e4, e5, rfl⟩
    obtain ⟨l', w⟩ := lap_gcd (fu := fu) (bx := bx) (cal := callN T fu n) (x := some (Zs t cs)) (y := some (.dat (.int ((gcdL 0 (cs.take k) : Nat) : Int)))) (z := some (.dat (.int c))) 64 (rangeD 0 400) c.natAbs (gcdL 0 (cs.take k)) e5
      (gcdL_lt _ _ (hc.take _) (by decide)) (by rw [rangeD_len]; decide)
    have a := abs_nat c
    have e : gcdL 0 (cs.take (k + 1)) = Nat.gcd c.natAbs (gcdL 0 (cs.take k)) := by rw [List.take_add_one, hk, Option.toList_some, gcdL_snoc, Nat.gcd_comm]
    rw [e]
    generalize (c.natAbs : Int) = z at w a
    generalize hz : ((gcdL 0 (cs.take k) : Nat) : Int) = y at w
    simp only [ev_var, ev_con, ev_bin, ev_neg, ev_not, ev_cmp, ev_chain, ev_and, ev_or, ev_ite, ev_tup, ev_lst, ev_call, ev_callk, ev_bl, ev_len, ev_bits, ev_isi, ev_sub, ev_slc, ev_callb, ev_sset, ev_rev, rev_l, rev_o, ea_nil, ea_cons, ei_rng1, ei_rng2, ei_zip, ei_enum, ei_it, sq_skip, sq_seq, sq_asg, sq_tas, sq_par, sq_setix, sq_app, sq_ite, sq_ret, sq_retn, sq_pass, sq_cont, sq_brk, sq_aug_add, ex_skip, evP, setRs, evRet, pk, peek, rd, setAll, bindT, wipeE, unwipe, noOwn, condOf, isNo, RV.pd, RV.frz, canPut, entryE, List.length_cons, List.length_nil, List.map_cons, List.map_nil, List.cons_append, List.nil_append, List.append_nil, Nat.sub_self, Nat.reduceSub, Nat.reduceAdd, Nat.zero_add, List.replicate_succ, List.replicate_zero, List.getElem?_cons_zero, List.getElem?_cons_succ, List.set_cons_zero, List.set_cons_succ, List.getD_cons_zero, List.getD_cons_succ, mapM_pd_nil, mapM_pd_cons, permL_nil, permL_cons, Option.map_some, Option.map_none, Option.bind_some, Option.pure_def, Option.bind_eq_bind, Bool.false_eq_true, if_true, if_false, ite_true, ite_false, reduceIte, reduceCtorEq, cmp_lt, cmp_le, cmp_gt, cmp_ge, cmp_eq_i, cmp_ne_i, cmp_eq_b, cmp_ne_b, cmp_eq_s, cmp_ne_s, cmp_eq_nn, cmp_is, cmp_isnot, isNone_none, isNone_bool, isNone_int, isNone_str, isNone_list, isNone_tuple, bin_add, bin_sub, mulOk_n, mulOk_m, divOk_n, Nat.reduceLT, Int.reduceEq, Int.reduceNe, ne_eq, not_false_eq_true, decide_true, decide_false, bin_mul, bin_fdiv, bin_mod, bin_addl, bin_addt, bin_shl, bin_shr, bin_band, bin_bor, tru_b, tru_i, tru_l, tru_t, tru_o, tru_n, len_l, len_t, len_o, item_l, item_t, item_o, item_b0, item_b1, item_b2, at0, at1, at2, at3, at4, at5, atm1, blt_abs, blt_int, blt_intb, blt_tl, blt_tt, blt_ll, blt_lt, blt_sum, blt_all, blt_any, blt_min2, blt_max2, put_b0, put_b1, put_b2, szOk_0, szOk_1, szOk_n, Nat.reduceLeDiff, bin_mul2, bin_pow, Bool.not_true, Bool.not_false, wp_some, Nx_nx, Rt_rt, Option.toList_some, Option.toList_none, ev_lcR, lcR_nil, rangeD_map, zipW_map, enum_map, zip_tt, zip_tl, zip_lt, zip_ll, iter_t, iter_l, iter_o, lst_l, lst_o, seq_sq, iter_sq, len_sq, item_sq, list_sq, tuple_sq, zip_sq, pairD, step_no, stepC_eq, st_cmp, st_chain, st_and, st_or, st_not, st_isi, st_call, st_bl, st_var, setQ, a]
    rw [ex_seq, ex_loop]
    simp only [ev_var, ev_con, ev_bin, ev_neg, ev_not, ev_cmp, ev_chain, ev_and, ev_or, ev_ite, ev_tup, ev_lst, ev_call, ev_callk, ev_bl, ev_len, ev_bits, ev_isi, ev_sub, ev_slc, ev_callb, ev_sset, ev_rev, rev_l, rev_o, ea_nil, ea_cons, ei_rng1, ei_rng2, ei_zip, ei_enum, ei_it, ex_asg, ex_tas, ex_par, ex_setix, ex_app, ex_ite, ex_skip, ex_seq, ex_ret, ex_retn, ex_pass, ex_cont, ex_brk, evP, setRs, evRet, pk, peek, rd, setAll, bindT, wipeE, unwipe, noOwn, condOf, isNo, RV.pd, RV.frz, canPut, entryE, List.length_cons, List.length_nil, List.map_cons, List.map_nil, List.cons_append, List.nil_append, List.append_nil, Nat.sub_self, Nat.reduceSub, Nat.reduceAdd, Nat.zero_add, List.replicate_succ, List.replicate_zero, List.getElem?_cons_zero, List.getElem?_cons_succ, List.set_cons_zero, List.set_cons_succ, List.getD_cons_zero, List.getD_cons_succ, mapM_pd_nil, mapM_pd_cons, permL_nil, permL_cons, Option.map_some, Option.map_none, Option.bind_some, Option.pure_def, Option.bind_eq_bind, Bool.false_eq_true, if_true, if_false, ite_true, ite_false, reduceIte, reduceCtorEq, cmp_lt, cmp_le, cmp_gt, cmp_ge, cmp_eq_i, cmp_ne_i, cmp_eq_b, cmp_ne_b, cmp_eq_s, cmp_ne_s, cmp_eq_nn, cmp_is, cmp_isnot, isNone_none, isNone_bool, isNone_int, isNone_str, isNone_list, isNone_tuple, bin_add, bin_sub, mulOk_n, mulOk_m, divOk_n, Nat.reduceLT, Int.reduceEq, Int.reduceNe, ne_eq, not_false_eq_true, decide_true, decide_false, bin_mul, bin_fdiv, bin_mod, bin_addl, bin_addt, bin_shl, bin_shr, bin_band, bin_bor, tru_b, tru_i, tru_l, tru_t, tru_o, tru_n, len_l, len_t, len_o, item_l, item_t, item_o, item_b0, item_b1, item_b2, at0, at1, at2, at3, at4, at5, atm1, blt_abs, blt_int, blt_intb, blt_tl, blt_tt, blt_ll, blt_lt, blt_sum, blt_all, blt_any, blt_min2, blt_max2, put_b0, put_b1, put_b2, szOk_0, szOk_1, szOk_n, Nat.reduceLeDiff, bin_mul2, bin_pow, Bool.not_true, Bool.not_false, wp_some, Nx_nx, Rt_rt, Option.toList_some, Option.toList_none, r400, n400, w]
    exact .inl ⟨_, _, _, _, rfl⟩
  · rintro g ⟨e2, e3, e4, e5, rfl⟩
    rw [List.take_length]
    simp only [ev_var, ev_con, ev_bin, ev_neg, ev_not, ev_cmp, ev_chain, ev_and, ev_or, ev_ite, ev_tup, ev_lst, ev_call, ev_callk, ev_bl, ev_len, ev_bits, ev_isi, ev_sub, ev_slc, ev_callb, ev_sset, ev_rev, rev_l, rev_o, ea_nil, ea_cons, ei_rng1, ei_rng2, ei_zip, ei_enum, ei_it, sq_skip, sq_seq, sq_asg, sq_tas, sq_par, sq_setix, sq_app, sq_ite, sq_ret, sq_retn, sq_pass, sq_cont, sq_brk, sq_aug_add, ex_skip, evP, setRs, evRet, pk, peek, rd, setAll, bindT, wipeE, unwipe, noOwn, condOf, isNo, RV.pd, RV.frz, canPut, entryE, List.length_cons, List.length_nil, List.map_cons, List.map_nil, List.cons_append, List.nil_append, List.append_nil, Nat.sub_self, Nat.reduceSub, Nat.reduceAdd, Nat.zero_add, List.replicate_succ, List.replicate_zero, List.getElem?_cons_zero, List.getElem?_cons_succ, List.set_cons_zero, List.set_cons_succ, List.getD_cons_zero, List.getD_cons_succ, mapM_pd_nil, mapM_pd_cons, permL_nil, permL_cons, Option.map_some, Option.map_none, Option.bind_some, Option.pure_def, Option.bind_eq_bind, Bool.false_eq_true, if_true, if_false, ite_true, ite_false, reduceIte, reduceCtorEq, cmp_lt, cmp_le, cmp_gt, cmp_ge, cmp_eq_i, cmp_ne_i, cmp_eq_b, cmp_ne_b, cmp_eq_s, cmp_ne_s, cmp_eq_nn, cmp_is, cmp_isnot, isNone_none, isNone_bool, isNone_int, isNone_str, isNone_list, isNone_tuple, bin_add, bin_sub, mulOk_n, mulOk_m, divOk_n, Nat.reduceLT, Int.reduceEq, Int.reduceNe, ne_eq, not_false_eq_true, decide_true, decide_false, bin_mul, bin_fdiv, bin_mod, bin_addl, bin_addt, bin_shl, bin_shr, bin_band, bin_bor, tru_b, tru_i, tru_l, tru_t, tru_o, tru_n, len_l, len_t, len_o, item_l, item_t, item_o, item_b0, item_b1, item_b2, at0, at1, at2, at3, at4, at5, atm1, blt_abs, blt_int, blt_intb, blt_tl, blt_tt, blt_ll, blt_lt, blt_sum, blt_all, blt_any, blt_min2, blt_max2, put_b0, put_b1, put_b2, szOk_0, szOk_1, szOk_n, Nat.reduceLeDiff, bin_mul2, bin_pow, Bool.not_true, Bool.not_false, wp_some, Nx_nx, Rt_rt, Option.toList_some, Option.toList_none, ev_lcR, lcR_nil, rangeD_map, zipW_map, enum_map, zip_tt, zip_tl, zip_lt, zip_ll, iter_t, iter_l, iter_o, lst_l, lst_o, seq_sq, iter_sq, len_sq, item_sq, list_sq, tuple_sq, zip_sq, pairD, step_no, stepC_eq, st_cmp, st_chain, st_and, st_or, st_not, st_isi, st_call, st_bl, st_var, setQ, and_self]
/-! ### the laws' sums -/
theorem asc_len : ∀ {l : List Int} {lo hi : Int}, l.Pairwise (· < ·) → (∀ x ∈ l, lo ≤ x ∧ x ≤ hi) → lo ≤ hi + 1 → (l.length : Int) ≤ hi - lo + 1
  | [], lo, hi, _, _, h => by simp; omega
  | x :: l, lo, hi, hp, hb, h => by
    have h1 := List.pairwise_cons.mp hp
    have bx := hb x List.mem_cons_self
    have := asc_len (lo := x + 1) (hi := hi) h1.2 (fun y hy => ⟨by have := h1.1 y hy; omega, (hb y (List.mem_cons_of_mem _ hy)).2⟩) (by omega)
    rw [List.length_cons]; omega
theorem sumsP_len {l : List (Int × Int)} (hn : Nn l) : ((sumsP l).length : Int) ≤ widP l + 1 := by
  have := asc_len (lo := lowP l) (hi := topP l) (sumsP_pw l) (fun x hx => mk_ends hn ((sumsP_mem hn).mp hx)) (by have := wid_nn hn; have := wid_low (l := l); omega)
  have := wid_low (l := l)
  omega
theorem wid_take : ∀ {l : List (Int × Int)} (k : Nat), Nn l → widP (l.take k) ≤ widP l
  | [], k, _ => by rw [List.take_nil]; exact Int.le_refl _
  | p :: l, 0, h => wid_nn h
  | p :: l, k + 1, h => by
    rw [List.take_succ_cons, widP_cons, widP_cons]
    have := wid_take (l := l) k h.tail
    omega
/-- one counter more -/
theorem sums_more {l : List (Int × Int)} {p : Int × Int} (hn : Nn l) (hp : 0 ≤ p.2) : setI ((sumsP l).flatMap fun x => (List.range (p.2.toNat + 1)).map fun k : Nat => x + p.1 * (k : Int)) = sumsP (l ++ [p]) := by
  have hn2 : Nn (l ++ [p]) := fun q hq => by
    rcases List.mem_append.mp hq with h | h
    · exact hn q h
    · rw [List.mem_singleton.mp h]; exact hp
  refine asc_eq (setI_pw _) (sumsP_pw _) fun x => ?_
  rw [setI_mem, List.mem_flatMap, sumsP_mem hn2, mk_snoc hn hp]
  constructor
  · rintro ⟨y, hy, hx⟩
    obtain ⟨k, hk, rfl⟩ := List.mem_map.mp hx
    rw [List.mem_range] at hk
    refine ⟨(k : Int), by omega, by omega, ?_⟩
    rw [show y + p.1 * (k : Int) - p.1 * (k : Int) = y by omega]
    exact (sumsP_mem hn).mp hy
  · rintro ⟨k, h0, h1, h2⟩
    refine ⟨x - p.1 * k, (sumsP_mem hn).mpr h2, List.mem_map.mpr ⟨k.toNat, by rw [List.mem_range]; omega, ?_⟩⟩
    rw [Int.toNat_of_nonneg h0]; omega
theorem lsums_call {M : Int} (h : Is T i 2 8 B_Lsums) (hs : Sh cs) (hl : cs.length ≤ 1000000) (hn : Nn (cs.zip bs)) (hM : ∀ p ∈ cs.zip bs, p.2 ≤ M) (hM0 : 0 ≤ M) (hw : (widP (cs.zip bs) + 1) * (M + 1) ≤ 4000) :
    callN T fu (n + 1) i [Zs t cs, Zs u bs] bx = some (.own ((sumsP (cs.zip bs)).map .int), bx) := by
  refine run_wp h rfl ?_
  simp only [B_Lsums, ent, ev_var, ev_con, ev_bin, ev_neg, ev_not, ev_cmp, ev_chain, ev_and, ev_or, ev_ite, ev_tup, ev_lst, ev_call, ev_callk, ev_bl, ev_len, ev_bits, ev_isi, ev_sub, ev_slc, ev_callb, ev_sset, ev_rev, rev_l, rev_o, ea_nil, ea_cons, ei_rng1, ei_rng2, ei_zip, ei_enum, ei_it, sq_skip, sq_seq, sq_asg, sq_tas, sq_par, sq_setix, sq_app, sq_ite, sq_ret, sq_retn, sq_pass, sq_cont, sq_brk, sq_aug_add, ex_skip, evP, setRs, evRet, pk, peek, rd, setAll, bindT, wipeE, unwipe, noOwn, condOf, isNo, RV.pd, RV.frz, canPut, entryE, List.length_cons, List.length_nil, List.map_cons, List.map_nil, List.cons_append, List.nil_append, List.append_nil, Nat.sub_self, Nat.reduceSub, Nat.reduceAdd, Nat.zero_add, List.replicate_succ, List.replicate_zero, List.getElem?_cons_zero, List.getElem?_cons_succ, List.set_cons_zero, List.set_cons_succ, List.getD_cons_zero, List.getD_cons_succ, mapM_pd_nil, mapM_pd_cons, permL_nil, permL_cons, Option.map_some, Option.map_none, Option.bind_some, Option.pure_def, Option.bind_eq_bind, Bool.false_eq_true, if_true, if_false, ite_true, ite_false, reduceIte, reduceCtorEq, cmp_lt, cmp_le, cmp_gt, cmp_ge, cmp_eq_i, cmp_ne_i, cmp_eq_b, cmp_ne_b, cmp_eq_s, cmp_ne_s, cmp_eq_nn, cmp_is, cmp_isnot, isNone_none, isNone_bool, isNone_int, isNone_str, isNone_list, isNone_tuple, bin_add, bin_sub, mulOk_n, mulOk_m, divOk_n, Nat.reduceLT, Int.reduceEq, Int.reduceNe, ne_eq, not_false_eq_true, decide_true, decide_false, bin_mul, bin_fdiv, bin_mod, bin_addl, bin_addt, bin_shl, bin_shr, bin_band, bin_bor, tru_b, tru_i, tru_l, tru_t, tru_o, tru_n, len_l, len_t, len_o, item_l, item_t, item_o, item_b0, item_b1, item_b2, at0, at1, at2, at3, at4, at5, atm1, blt_abs, blt_int, blt_intb, blt_tl, blt_tt, blt_ll, blt_lt, blt_sum, blt_all, blt_any, blt_min2, blt_max2, put_b0, put_b1, put_b2, szOk_0, szOk_1, szOk_n, Nat.reduceLeDiff, bin_mul2, bin_pow, Bool.not_true, Bool.not_false, wp_some, Nx_nx, Rt_rt, Option.toList_some, Option.toList_none, ev_lcR, lcR_nil, rangeD_map, zipW_map, enum_map, zip_tt, zip_tl, zip_lt, zip_ll, iter_t, iter_l, iter_o, lst_l, lst_o, seq_sq, iter_sq, len_sq, item_sq, list_sq, tuple_sq, zip_sq, pairD, step_no, stepC_eq, st_cmp, st_chain, st_and, st_or, st_not, st_isi, st_call, st_bl, st_var, setQ]
  refine wp_loop (l := cs.zip bs) (P := fun p => PyData.tuple [.int p.1, .int p.2]) (fun k g => ∃ (e3 e4 e5 e6 : Sl), g = ⟨[some (Zs t cs), some (Zs u bs), some (.own ((sumsP ((cs.zip bs).take k)).map .int)), e3, e4, e5, e6, none], bx⟩) (by simp only [ev_var, ev_con, ev_bin, ev_neg, ev_not, ev_cmp, ev_chain, ev_and, ev_or, ev_ite, ev_tup, ev_lst, ev_call, ev_callk, ev_bl, ev_len, ev_bits, ev_isi, ev_sub, ev_slc, ev_callb, ev_sset, ev_rev, rev_l, rev_o, ea_nil, ea_cons, ei_rng1, ei_rng2, ei_zip, ei_enum, ei_it, sq_skip, sq_seq, sq_asg, sq_tas, sq_par, sq_setix, sq_app, sq_ite, sq_ret, sq_retn, sq_pass, sq_cont, sq_brk, sq_aug_add, ex_skip, evP, setRs, evRet, pk, peek, rd, setAll, bindT, wipeE, unwipe, noOwn, condOf, isNo, RV.pd, RV.frz, canPut, entryE, List.length_cons, List.length_nil, List.map_cons, List.map_nil, List.cons_append, List.nil_append, List.append_nil, Nat.sub_self, Nat.reduceSub, Nat.reduceAdd, Nat.zero_add, List.replicate_succ, List.replicate_zero, List.getElem?_cons_zero, List.getElem?_cons_succ, List.set_cons_zero, List.set_cons_succ, List.getD_cons_zero, List.getD_cons_succ, mapM_pd_nil, mapM_pd_cons, permL_nil, permL_cons, Option.map_some, Option.map_none, Option.bind_some, Option.pure_def, Option.bind_eq_bind, Bool.false_eq_true, if_true, if_false, ite_true, ite_false, reduceIte, reduceCtorEq, cmp_lt, cmp_le, cmp_gt, cmp_ge, cmp_eq_i, cmp_ne_i, cmp_eq_b, cmp_ne_b, cmp_eq_s, cmp_ne_s, cmp_eq_nn, cmp_is, cmp_isnot, isNone_none, isNone_bool, isNone_int, isNone_str, isNone_list, isNone_tuple, bin_add, bin_sub, mulOk_n, mulOk_m, divOk_n, Nat.reduceLT, Int.reduceEq, Int.reduceNe, ne_eq, not_false_eq_true, decide_true, decide_false, bin_mul, bin_fdiv, bin_mod, bin_addl, bin_addt, bin_shl, bin_shr, bin_band, bin_bor, tru_b, tru_i, tru_l, tru_t, tru_o, tru_n, len_l, len_t, len_o, item_l, item_t, item_o, item_b0, item_b1, item_b2, at0, at1, at2, at3, at4, at5, atm1, blt_abs, blt_int, blt_intb, blt_tl, blt_tt, blt_ll, blt_lt, blt_sum, blt_all, blt_any, blt_min2, blt_max2, put_b0, put_b1, put_b2, szOk_0, szOk_1, szOk_n, Nat.reduceLeDiff, bin_mul2, bin_pow, Bool.not_true, Bool.not_false, wp_some, Nx_nx, Rt_rt, Option.toList_some, Option.toList_none, ev_lcR, lcR_nil, rangeD_map, zipW_map, enum_map, zip_tt, zip_tl, zip_lt, zip_ll, iter_t, iter_l, iter_o, lst_l, lst_o, seq_sq, iter_sq, len_sq, item_sq, list_sq, tuple_sq, zip_sq, pairD, step_no, stepC_eq, st_cmp, st_chain, st_and, st_or, st_not, st_isi, st_call, st_bl, st_var, setQ]; rfl) ⟨none, none, none, none, rfl⟩ ?_ ?_
  · rintro k p g hk ⟨e3, e4, e5, e6, rfl⟩
    have pm := List.mem_of_getElem? hk
    have p0 := hn p pm
    have pM := hM p pm
    have nk := hn.take k
    have w0 := wid_nn hn
    have wt := wid_take k hn
    have sl := sumsP_len nk
    have shp : p.1.natAbs < 2 ^ 64 := hs.zip pm
    have M4 : M + 1 ≤ 4000 := by
      have : 1 * (M + 1) ≤ (widP (cs.zip bs) + 1) * (M + 1) := Int.mul_le_mul_of_nonneg_right (by omega) (by omega)
      omega
    have rr : inR (p.2 + 1) = true := inR_ok (by omega) (by omega)
    have tn : (p.2 + 1).toNat = p.2.toNat + 1 := by omega
    simp only [ev_var, ev_con, ev_bin, ev_neg, ev_not, ev_cmp, ev_chain, ev_and, ev_or, ev_ite, ev_tup, ev_lst, ev_call, ev_callk, ev_bl, ev_len, ev_bits, ev_isi, ev_sub, ev_slc, ev_callb, ev_sset, ev_rev, rev_l, rev_o, ea_nil, ea_cons, ei_rng1, ei_rng2, ei_zip, ei_enum, ei_it, sq_skip, sq_seq, sq_asg, sq_tas, sq_par, sq_setix, sq_app, sq_ite, sq_ret, sq_retn, sq_pass, sq_cont, sq_brk, sq_aug_add, ex_skip, evP, setRs, evRet, pk, peek, rd, setAll, bindT, wipeE, unwipe, noOwn, condOf, isNo, RV.pd, RV.frz, canPut, entryE, List.length_cons, List.length_nil, List.map_cons, List.map_nil, List.cons_append, List.nil_append, List.append_nil, Nat.sub_self, Nat.reduceSub, Nat.reduceAdd, Nat.zero_add, List.replicate_succ, List.replicate_zero, List.getElem?_cons_zero, List.getElem?_cons_succ, List.set_cons_zero, List.set_cons_succ, List.getD_cons_zero, List.getD_cons_succ, mapM_pd_nil, mapM_pd_cons, permL_nil, permL_cons, Option.map_some, Option.map_none, Option.bind_some, Option.pure_def, Option.bind_eq_bind, Bool.false_eq_true, if_true, if_false, ite_true, ite_false, reduceIte, reduceCtorEq, cmp_lt, cmp_le, cmp_gt, cmp_ge, cmp_eq_i, cmp_ne_i, cmp_eq_b, cmp_ne_b, cmp_eq_s, cmp_ne_s, cmp_eq_nn, cmp_is, cmp_isnot, isNone_none, isNone_bool, isNone_int, isNone_str, isNone_list, isNone_tuple, bin_add, bin_sub, mulOk_n, mulOk_m, divOk_n, Nat.reduceLT, Int.reduceEq, Int.reduceNe, ne_eq, not_false_eq_true, decide_true, decide_false, bin_mul, bin_fdiv, bin_mod, bin_addl, bin_addt, bin_shl, bin_shr, bin_band, bin_bor, tru_b, tru_i, tru_l, tru_t, tru_o, tru_n, len_l, len_t, len_o, item_l, item_t, item_o, item_b0, item_b1, item_b2, at0, at1, at2, at3, at4, at5, atm1, blt_abs, blt_int, blt_intb, blt_tl, blt_tt, blt_ll, blt_lt, blt_sum, blt_all, blt_any, blt_min2, blt_max2, put_b0, put_b1, put_b2, szOk_0, szOk_1, szOk_n, Nat.reduceLeDiff, bin_mul2, bin_pow, Bool.not_true, Bool.not_false, wp_some, Nx_nx, Rt_rt, Option.toList_some, Option.toList_none, ev_lcR, lcR_nil, rangeD_map, zipW_map, enum_map, zip_tt, zip_tl, zip_lt, zip_ll, iter_t, iter_l, iter_o, lst_l, lst_o, seq_sq, iter_sq, len_sq, item_sq, list_sq, tuple_sq, zip_sq, pairD, step_no, stepC_eq, st_cmp, st_chain, st_and, st_or, st_not, st_isi, st_call, st_bl, st_var, setQ]
    refine wp_loop (l := sumsP ((cs.zip bs).take k)) (P := .int) (fun j g => ∃ (e6 : Sl), g = ⟨[some (Zs t cs), some (Zs u bs), some (.dat (.list ((sumsP ((cs.zip bs).take k)).map .int))), some (.dat (.int p.1)), some (.dat (.int p.2)), some (.own ((((sumsP ((cs.zip bs).take k)).take j).flatMap fun x => (List.range (p.2.toNat + 1)).map fun k : Nat => x + p.1 * (k : Int)).map .int)), e6, none], bx⟩)
      (by simp only [ev_var, ev_con, ev_bin, ev_neg, ev_not, ev_cmp, ev_chain, ev_and, ev_or, ev_ite, ev_tup, ev_lst, ev_call, ev_callk, ev_bl, ev_len, ev_bits, ev_isi, ev_sub, ev_slc, ev_callb, ev_sset, ev_rev, rev_l, rev_o, ea_nil, ea_cons, ei_rng1, ei_rng2, ei_zip, ei_enum, ei_it, sq_skip, sq_seq, sq_asg, sq_tas, sq_par, sq_setix, sq_app, sq_ite, sq_ret, sq_retn, sq_pass, sq_cont, sq_brk, sq_aug_add, ex_skip, evP, setRs, evRet, pk, peek, rd, setAll, bindT, wipeE, unwipe, noOwn, condOf, isNo, RV.pd, RV.frz, canPut, entryE, List.length_cons, List.length_nil, List.map_cons, List.map_nil, List.cons_append, List.nil_append, List.append_nil, Nat.sub_self, Nat.reduceSub, Nat.reduceAdd, Nat.zero_add, List.replicate_succ, List.replicate_zero, List.getElem?_cons_zero, List.getElem?_cons_succ, List.set_cons_zero, List.set_cons_succ, List.getD_cons_zero, List.getD_cons_succ, mapM_pd_nil, mapM_pd_cons, permL_nil, permL_cons, Option.map_some, Option.map_none, Option.bind_some, Option.pure_def, Option.bind_eq_bind, Bool.false_eq_true, if_true, if_false, ite_true, ite_false, reduceIte, reduceCtorEq, cmp_lt, cmp_le, cmp_gt, cmp_ge, cmp_eq_i, cmp_ne_i, cmp_eq_b, cmp_ne_b, cmp_eq_s, cmp_ne_s, cmp_eq_nn, cmp_is, cmp_isnot, isNone_none, isNone_bool, isNone_int, isNone_str, isNone_list, isNone_tuple, bin_add, bin_sub, mulOk_n, mulOk_m, divOk_n, Nat.reduceLT, Int.reduceEq, Int.reduceNe, ne_eq, not_false_eq_true, decide_true, decide_false, bin_mul, bin_fdiv, bin_mod, bin_addl, bin_addt, bin_shl, bin_shr, bin_band, bin_bor, tru_b, tru_i, tru_l, tru_t, tru_o, tru_n, len_l, len_t, len_o, item_l, item_t, item_o, item_b0, item_b1, item_b2, at0, at1, at2, at3, at4, at5, atm1, blt_abs, blt_int, blt_intb, blt_tl, blt_tt, blt_ll, blt_lt, blt_sum, blt_all, blt_any, blt_min2, blt_max2, put_b0, put_b1, put_b2, szOk_0, szOk_1, szOk_n, Nat.reduceLeDiff, bin_mul2, bin_pow, Bool.not_true, Bool.not_false, wp_some, Nx_nx, Rt_rt, Option.toList_some, Option.toList_none, ev_lcR, lcR_nil, rangeD_map, zipW_map, enum_map, zip_tt, zip_tl, zip_lt, zip_ll, iter_t, iter_l, iter_o, lst_l, lst_o, seq_sq, iter_sq, len_sq, item_sq, list_sq, tuple_sq, zip_sq, pairD, step_no, stepC_eq, st_cmp, st_chain, st_and, st_or, st_not, st_isi, st_call, st_bl, st_var, setQ]; rfl) ⟨e6, rfl⟩ ?_ ?_
    · rintro j x g hj ⟨e6, rfl⟩
      have fl : ∀ l : List Int, (l.flatMap fun x => (List.range (p.2.toNat + 1)).map fun k : Nat => x + p.1 * (k : Int)).length = l.length * (p.2.toNat + 1) := fun l => by
        induction l with
        | nil => simp
        | cons y l ih => rw [List.flatMap_cons, List.length_append, ih, List.length_map, List.length_range, List.length_cons, Nat.add_mul]; omega
      have hjl := (List.getElem?_eq_some_iff.mp hj).1
      have sz : szOk (((((sumsP ((cs.zip bs).take k)).take j).flatMap fun x => (List.range (p.2.toNat + 1)).map fun k : Nat => x + p.1 * (k : Int)).map PyData.int).length + (((List.range (p.2.toNat + 1)).map fun k : Nat => x + p.1 * (k : Int)).map PyData.int).length) = true := by
        rw [List.length_map, fl, List.length_map, List.length_map, List.length_range, List.length_take]
        refine szOk_of ?_
        have h1 : min j (sumsP ((cs.zip bs).take k)).length ≤ 4000 := by
          have : (widP (cs.zip bs) + 1) * 1 ≤ (widP (cs.zip bs) + 1) * (M + 1) := mul_le (by omega) (by omega)
          omega
        have : min j (sumsP ((cs.zip bs).take k)).length * (p.2.toNat + 1) ≤ 4000 * 4000 := Nat.mul_le_mul h1 (by omega)
        omega
      have nx : (((sumsP ((cs.zip bs).take k)).take (j + 1)).flatMap fun x => (List.range (p.2.toNat + 1)).map fun k : Nat => x + p.1 * (k : Int)) = (((sumsP ((cs.zip bs).take k)).take j).flatMap fun x => (List.range (p.2.toNat + 1)).map fun k : Nat => x + p.1 * (k : Int)) ++ (List.range (p.2.toNat + 1)).map fun k : Nat => x + p.1 * (k : Int) := by
        rw [List.take_add_one, hj, Option.toList_some, List.flatMap_append]; simp
      rw [nx]
      generalize (((sumsP ((cs.zip bs).take k)).take j).flatMap fun x => (List.range (p.2.toNat + 1)).map fun k : Nat => x + p.1 * (k : Int)) = acc at *
      simp only [ev_var, ev_con, ev_bin, ev_neg, ev_not, ev_cmp, ev_chain, ev_and, ev_or, ev_ite, ev_tup, ev_lst, ev_call, ev_callk, ev_bl, ev_len, ev_bits, ev_isi, ev_sub, ev_slc, ev_callb, ev_sset, ev_rev, rev_l, rev_o, ea_nil, ea_cons, ei_rng1, ei_rng2, ei_zip, ei_enum, ei_it, sq_skip, sq_seq, sq_asg, sq_tas, sq_par, sq_setix, sq_app, sq_ite, sq_ret, sq_retn, sq_pass, sq_cont, sq_brk, sq_aug_add, ex_skip, evP, setRs, evRet, pk, peek, rd, setAll, bindT, wipeE, unwipe, noOwn, condOf, isNo, RV.pd, RV.frz, canPut, entryE, List.length_cons, List.length_nil, List.map_cons, List.map_nil, List.cons_append, List.nil_append, List.append_nil, Nat.sub_self, Nat.reduceSub, Nat.reduceAdd, Nat.zero_add, List.replicate_succ, List.replicate_zero, List.getElem?_cons_zero, List.getElem?_cons_succ, List.set_cons_zero, List.set_cons_succ, List.getD_cons_zero, List.getD_cons_succ, mapM_pd_nil, mapM_pd_cons, permL_nil, permL_cons, Option.map_some, Option.map_none, Option.bind_some, Option.pure_def, Option.bind_eq_bind, Bool.false_eq_true, if_true, if_false, ite_true, ite_false, reduceIte, reduceCtorEq, cmp_lt, cmp_le, cmp_gt, cmp_ge, cmp_eq_i, cmp_ne_i, cmp_eq_b, cmp_ne_b, cmp_eq_s, cmp_ne_s, cmp_eq_nn, cmp_is, cmp_isnot, isNone_none, isNone_bool, isNone_int, isNone_str, isNone_list, isNone_tuple, bin_add, bin_sub, mulOk_n, mulOk_m, divOk_n, Nat.reduceLT, Int.reduceEq, Int.reduceNe, ne_eq, not_false_eq_true, decide_true, decide_false, bin_mul, bin_fdiv, bin_mod, bin_addl, bin_addt, bin_shl, bin_shr, bin_band, bin_bor, tru_b, tru_i, tru_l, tru_t, tru_o, tru_n, len_l, len_t, len_o, item_l, item_t, item_o, item_b0, item_b1, item_b2, at0, at1, at2, at3, at4, at5, atm1, blt_abs, blt_int, blt_intb, blt_tl, blt_tt, blt_ll, blt_lt, blt_sum, blt_all, blt_any, blt_min2, blt_max2, put_b0, put_b1, put_b2, szOk_0, szOk_1, szOk_n, Nat.reduceLeDiff, bin_mul2, bin_pow, Bool.not_true, Bool.not_false, wp_some, Nx_nx, Rt_rt, Option.toList_some, Option.toList_none, ev_lcR, lcR_nil, rangeD_map, zipW_map, enum_map, zip_tt, zip_tl, zip_lt, zip_ll, iter_t, iter_l, iter_o, lst_l, lst_o, seq_sq, iter_sq, len_sq, item_sq, list_sq, tuple_sq, zip_sq, pairD, step_no, stepC_eq, st_cmp, st_chain, st_and, st_or, st_not, st_isi, st_call, st_bl, st_var, setQ, rr, tn]
      rw [lcR_A (fun k : Nat => x + p.1 * (k : Int)) .int (by rw [List.length_range]; omega) fun q hq => by
        rw [show (0 : Int) + (q : Int) = (q : Int) by omega]
        have m := mulOk_l (j := (q : Int)) shp
        simp only [ev_var, ev_con, ev_bin, ev_neg, ev_not, ev_cmp, ev_chain, ev_and, ev_or, ev_ite, ev_tup, ev_lst, ev_call, ev_callk, ev_bl, ev_len, ev_bits, ev_isi, ev_sub, ev_slc, ev_callb, ev_sset, ev_rev, rev_l, rev_o, ea_nil, ea_cons, ei_rng1, ei_rng2, ei_zip, ei_enum, ei_it, sq_skip, sq_seq, sq_asg, sq_tas, sq_par, sq_setix, sq_app, sq_ite, sq_ret, sq_retn, sq_pass, sq_cont, sq_brk, sq_aug_add, ex_skip, evP, setRs, evRet, pk, peek, rd, setAll, bindT, wipeE, unwipe, noOwn, condOf, isNo, RV.pd, RV.frz, canPut, entryE, List.length_cons, List.length_nil, List.map_cons, List.map_nil, List.cons_append, List.nil_append, List.append_nil, Nat.sub_self, Nat.reduceSub, Nat.reduceAdd, Nat.zero_add, List.replicate_succ, List.replicate_zero, List.getElem?_cons_zero, List.getElem?_cons_succ, List.set_cons_zero, List.set_cons_succ, List.getD_cons_zero, List.getD_cons_succ, mapM_pd_nil, mapM_pd_cons, permL_nil, permL_cons, Option.map_some, Option.map_none, Option.bind_some, Option.pure_def, Option.bind_eq_bind, Bool.false_eq_true, if_true, if_false, ite_true, ite_false, reduceIte, reduceCtorEq, cmp_lt, cmp_le, cmp_gt, cmp_ge, cmp_eq_i, cmp_ne_i, cmp_eq_b, cmp_ne_b, cmp_eq_s, cmp_ne_s, cmp_eq_nn, cmp_is, cmp_isnot, isNone_none, isNone_bool, isNone_int, isNone_str, isNone_list, isNone_tuple, bin_add, bin_sub, mulOk_n, mulOk_m, divOk_n, Nat.reduceLT, Int.reduceEq, Int.reduceNe, ne_eq, not_false_eq_true, decide_true, decide_false, bin_mul, bin_fdiv, bin_mod, bin_addl, bin_addt, bin_shl, bin_shr, bin_band, bin_bor, tru_b, tru_i, tru_l, tru_t, tru_o, tru_n, len_l, len_t, len_o, item_l, item_t, item_o, item_b0, item_b1, item_b2, at0, at1, at2, at3, at4, at5, atm1, blt_abs, blt_int, blt_intb, blt_tl, blt_tt, blt_ll, blt_lt, blt_sum, blt_all, blt_any, blt_min2, blt_max2, put_b0, put_b1, put_b2, szOk_0, szOk_1, szOk_n, Nat.reduceLeDiff, bin_mul2, bin_pow, Bool.not_true, Bool.not_false, wp_some, Nx_nx, Rt_rt, Option.toList_some, Option.toList_none, ev_lcR, lcR_nil, rangeD_map, zipW_map, enum_map, zip_tt, zip_tl, zip_lt, zip_ll, iter_t, iter_l, iter_o, lst_l, lst_o, seq_sq, iter_sq, len_sq, item_sq, list_sq, tuple_sq, zip_sq, pairD, step_no, stepC_eq, st_cmp, st_chain, st_and, st_or, st_not, st_isi, st_call, st_bl, st_var, setQ, m, and_self]]
      simp only [ev_var, ev_con, ev_bin, ev_neg, ev_not, ev_cmp, ev_chain, ev_and, ev_or, ev_ite, ev_tup, ev_lst, ev_call, ev_callk, ev_bl, ev_len, ev_bits, ev_isi, ev_sub, ev_slc, ev_callb, ev_sset, ev_rev, rev_l, rev_o, ea_nil, ea_cons, ei_rng1, ei_rng2, ei_zip, ei_enum, ei_it, sq_skip, sq_seq, sq_asg, sq_tas, sq_par, sq_setix, sq_app, sq_ite, sq_ret, sq_retn, sq_pass, sq_cont, sq_brk, sq_aug_add, ex_skip, evP, setRs, evRet, pk, peek, rd, setAll, bindT, wipeE, unwipe, noOwn, condOf, isNo, RV.pd, RV.frz, canPut, entryE, List.length_cons, List.length_nil, List.map_cons, List.map_nil, List.cons_append, List.nil_append, List.append_nil, Nat.sub_self, Nat.reduceSub, Nat.reduceAdd, Nat.zero_add, List.replicate_succ, List.replicate_zero, List.getElem?_cons_zero, List.getElem?_cons_succ, List.set_cons_zero, List.set_cons_succ, List.getD_cons_zero, List.getD_cons_succ, mapM_pd_nil, mapM_pd_cons, permL_nil, permL_cons, Option.map_some, Option.map_none, Option.bind_some, Option.pure_def, Option.bind_eq_bind, Bool.false_eq_true, if_true, if_false, ite_true, ite_false, reduceIte, reduceCtorEq, cmp_lt, cmp_le, cmp_gt, cmp_ge, cmp_eq_i, cmp_ne_i, cmp_eq_b, cmp_ne_b, cmp_eq_s, cmp_ne_s, cmp_eq_nn, cmp_is, cmp_isnot, isNone_none, isNone_bool, isNone_int, isNone_str, isNone_list, isNone_tuple, bin_add, bin_sub, mulOk_n, mulOk_m, divOk_n, Nat.reduceLT, Int.reduceEq, Int.reduceNe, ne_eq, not_false_eq_true, decide_true, decide_false, bin_mul, bin_fdiv, bin_mod, bin_addl, bin_addt, bin_shl, bin_shr, bin_band, bin_bor, tru_b, tru_i, tru_l, tru_t, tru_o, tru_n, len_l, len_t, len_o, item_l, item_t, item_o, item_b0, item_b1, item_b2, at0, at1, at2, at3, at4, at5, atm1, blt_abs, blt_int, blt_intb, blt_tl, blt_tt, blt_ll, blt_lt, blt_sum, blt_all, blt_any, blt_min2, blt_max2, put_b0, put_b1, put_b2, szOk_0, szOk_1, szOk_n, Nat.reduceLeDiff, bin_mul2, bin_pow, Bool.not_true, Bool.not_false, wp_some, Nx_nx, Rt_rt, Option.toList_some, Option.toList_none, ev_lcR, lcR_nil, rangeD_map, zipW_map, enum_map, zip_tt, zip_tl, zip_lt, zip_ll, iter_t, iter_l, iter_o, lst_l, lst_o, seq_sq, iter_sq, len_sq, item_sq, list_sq, tuple_sq, zip_sq, pairD, step_no, stepC_eq, st_cmp, st_chain, st_and, st_or, st_not, st_isi, st_call, st_bl, st_var, setQ, sz]
      exact .inl ⟨_, by rw [List.map_append]⟩
    · rintro g ⟨e6, rfl⟩
      rw [List.take_length]
      have fl : ∀ l : List Int, (l.flatMap fun x => (List.range (p.2.toNat + 1)).map fun k : Nat => x + p.1 * (k : Int)).length = l.length * (p.2.toNat + 1) := fun l => by
        induction l with
        | nil => simp
        | cons y l ih => rw [List.flatMap_cons, List.length_append, ih, List.length_map, List.length_range, List.length_cons, Nat.add_mul]; omega
      have l4 : ((sumsP ((cs.zip bs).take k)).flatMap fun x => (List.range (p.2.toNat + 1)).map fun k : Nat => x + p.1 * (k : Int)).length ≤ 4000 := by
        rw [fl]
        have h1 : ((sumsP ((cs.zip bs).take k)).length : Int) * ((p.2.toNat + 1 : Nat) : Int) ≤ (widP (cs.zip bs) + 1) * (M + 1) := Int.mul_le_mul (by omega) (by omega) (by omega) (by omega)
        rw [← Int.natCast_mul] at h1
        omega
      have sm := sums_more (p := p) nk p0
      have tk : (cs.zip bs).take (k + 1) = (cs.zip bs).take k ++ [p] := by rw [List.take_add_one, hk]; rfl
      rw [tk]
      generalize ((sumsP ((cs.zip bs).take k)).flatMap fun x => (List.range (p.2.toNat + 1)).map fun k : Nat => x + p.1 * (k : Int)) = acc at *
      simp only [ev_var, ev_con, ev_bin, ev_neg, ev_not, ev_cmp, ev_chain, ev_and, ev_or, ev_ite, ev_tup, ev_lst, ev_call, ev_callk, ev_bl, ev_len, ev_bits, ev_isi, ev_sub, ev_slc, ev_callb, ev_sset, ev_rev, rev_l, rev_o, ea_nil, ea_cons, ei_rng1, ei_rng2, ei_zip, ei_enum, ei_it, sq_skip, sq_seq, sq_asg, sq_tas, sq_par, sq_setix, sq_app, sq_ite, sq_ret, sq_retn, sq_pass, sq_cont, sq_brk, sq_aug_add, ex_skip, evP, setRs, evRet, pk, peek, rd, setAll, bindT, wipeE, unwipe, noOwn, condOf, isNo, RV.pd, RV.frz, canPut, entryE, List.length_cons, List.length_nil, List.map_cons, List.map_nil, List.cons_append, List.nil_append, List.append_nil, Nat.sub_self, Nat.reduceSub, Nat.reduceAdd, Nat.zero_add, List.replicate_succ, List.replicate_zero, List.getElem?_cons_zero, List.getElem?_cons_succ, List.set_cons_zero, List.set_cons_succ, List.getD_cons_zero, List.getD_cons_succ, mapM_pd_nil, mapM_pd_cons, permL_nil, permL_cons, Option.map_some, Option.map_none, Option.bind_some, Option.pure_def, Option.bind_eq_bind, Bool.false_eq_true, if_true, if_false, ite_true, ite_false, reduceIte, reduceCtorEq, cmp_lt, cmp_le, cmp_gt, cmp_ge, cmp_eq_i, cmp_ne_i, cmp_eq_b, cmp_ne_b, cmp_eq_s, cmp_ne_s, cmp_eq_nn, cmp_is, cmp_isnot, isNone_none, isNone_bool, isNone_int, isNone_str, isNone_list, isNone_tuple, bin_add, bin_sub, mulOk_n, mulOk_m, divOk_n, Nat.reduceLT, Int.reduceEq, Int.reduceNe, ne_eq, not_false_eq_true, decide_true, decide_false, bin_mul, bin_fdiv, bin_mod, bin_addl, bin_addt, bin_shl, bin_shr, bin_band, bin_bor, tru_b, tru_i, tru_l, tru_t, tru_o, tru_n, len_l, len_t, len_o, item_l, item_t, item_o, item_b0, item_b1, item_b2, at0, at1, at2, at3, at4, at5, atm1, blt_abs, blt_int, blt_intb, blt_tl, blt_tt, blt_ll, blt_lt, blt_sum, blt_all, blt_any, blt_min2, blt_max2, put_b0, put_b1, put_b2, szOk_0, szOk_1, szOk_n, Nat.reduceLeDiff, bin_mul2, bin_pow, Bool.not_true, Bool.not_false, wp_some, Nx_nx, Rt_rt, Option.toList_some, Option.toList_none, ev_lcR, lcR_nil, rangeD_map, zipW_map, enum_map, zip_tt, zip_tl, zip_lt, zip_ll, iter_t, iter_l, iter_o, lst_l, lst_o, seq_sq, iter_sq, len_sq, item_sq, list_sq, tuple_sq, zip_sq, pairD, step_no, stepC_eq, st_cmp, st_chain, st_and, st_or, st_not, st_isi, st_call, st_bl, st_var, setQ, sset_l l4, sset_o l4, sm]
      exact .inl ⟨_, _, _, _, rfl⟩
  · rintro g ⟨e3, e4, e5, e6, rfl⟩
    rw [List.take_length]
    simp only [ev_var, ev_con, ev_bin, ev_neg, ev_not, ev_cmp, ev_chain, ev_and, ev_or, ev_ite, ev_tup, ev_lst, ev_call, ev_callk, ev_bl, ev_len, ev_bits, ev_isi, ev_sub, ev_slc, ev_callb, ev_sset, ev_rev, rev_l, rev_o, ea_nil, ea_cons, ei_rng1, ei_rng2, ei_zip, ei_enum, ei_it, sq_skip, sq_seq, sq_asg, sq_tas, sq_par, sq_setix, sq_app, sq_ite, sq_ret, sq_retn, sq_pass, sq_cont, sq_brk, sq_aug_add, ex_skip, evP, setRs, evRet, pk, peek, rd, setAll, bindT, wipeE, unwipe, noOwn, condOf, isNo, RV.pd, RV.frz, canPut, entryE, List.length_cons, List.length_nil, List.map_cons, List.map_nil, List.cons_append, List.nil_append, List.append_nil, Nat.sub_self, Nat.reduceSub, Nat.reduceAdd, Nat.zero_add, List.replicate_succ, List.replicate_zero, List.getElem?_cons_zero, List.getElem?_cons_succ, List.set_cons_zero, List.set_cons_succ, List.getD_cons_zero, List.getD_cons_succ, mapM_pd_nil, mapM_pd_cons, permL_nil, permL_cons, Option.map_some, Option.map_none, Option.bind_some, Option.pure_def, Option.bind_eq_bind, Bool.false_eq_true, if_true, if_false, ite_true, ite_false, reduceIte, reduceCtorEq, cmp_lt, cmp_le, cmp_gt, cmp_ge, cmp_eq_i, cmp_ne_i, cmp_eq_b, cmp_ne_b, cmp_eq_s, cmp_ne_s, cmp_eq_nn, cmp_is, cmp_isnot, isNone_none, isNone_bool, isNone_int, isNone_str, isNone_list, isNone_tuple, bin_add, bin_sub, mulOk_n, mulOk_m, divOk_n, Nat.reduceLT, Int.reduceEq, Int.reduceNe, ne_eq, not_false_eq_true, decide_true, decide_false, bin_mul, bin_fdiv, bin_mod, bin_addl, bin_addt, bin_shl, bin_shr, bin_band, bin_bor, tru_b, tru_i, tru_l, tru_t, tru_o, tru_n, len_l, len_t, len_o, item_l, item_t, item_o, item_b0, item_b1, item_b2, at0, at1, at2, at3, at4, at5, atm1, blt_abs, blt_int, blt_intb, blt_tl, blt_tt, blt_ll, blt_lt, blt_sum, blt_all, blt_any, blt_min2, blt_max2, put_b0, put_b1, put_b2, szOk_0, szOk_1, szOk_n, Nat.reduceLeDiff, bin_mul2, bin_pow, Bool.not_true, Bool.not_false, wp_some, Nx_nx, Rt_rt, Option.toList_some, Option.toList_none, ev_lcR, lcR_nil, rangeD_map, zipW_map, enum_map, zip_tt, zip_tl, zip_lt, zip_ll, iter_t, iter_l, iter_o, lst_l, lst_o, seq_sq, iter_sq, len_sq, item_sq, list_sq, tuple_sq, zip_sq, pairD, step_no, stepC_eq, st_cmp, st_chain, st_and, st_or, st_not, st_isi, st_call, st_bl, st_var, setQ, and_self]
end
end PX
set_option Elab.async false
set_option autoImplicit false
set_option maxRecDepth 100000
set_option maxHeartbeats 8100000
/-! PXWD: what may be compared, members of lists; the ends of all sums; a law's end. -/
namespace PX
open PySem
structure Ok0 (k : Nat) (d : PyData) : Prop where
  c : d.canLay0 = true
  p : d.depth ≤ k
theorem Ok0.int {k : Nat} {i : Int} : Ok0 k (.int i) := ⟨rfl, Nat.zero_le _⟩
theorem Ok0.bool {k : Nat} {b : Bool} : Ok0 k (.bool b) := ⟨rfl, Nat.zero_le _⟩
theorem Ok0.none {k : Nat} : Ok0 k .none := ⟨rfl, Nat.zero_le _⟩
theorem ok_all {k : Nat} : ∀ {ds : List PyData}, (∀ d ∈ ds, Ok0 k d) → PyData.canLayAll0 ds = true ∧ PyData.depthAll ds ≤ k
  | [], _ => ⟨rfl, Nat.zero_le _⟩
  | d :: ds, h => by
    obtain ⟨h1, h2⟩ := ok_all (ds := ds) fun x hx => h x (List.mem_cons_of_mem _ hx)
    obtain ⟨g1, g2⟩ := h d List.mem_cons_self
    exact ⟨by simp only [PyData.canLayAll0, g1, h1, Bool.and_self], by simp only [PyData.depthAll]; omega⟩
theorem Ok0.list {k : Nat} {ds : List PyData} (h : ∀ d ∈ ds, Ok0 k d) : Ok0 (k + 1) (.list ds) := ⟨by simp only [PyData.canLay0]; exact (ok_all h).1, by simp only [PyData.depth]; have := (ok_all h).2; omega⟩
theorem Ok0.tuple {k : Nat} {ds : List PyData} (h : ∀ d ∈ ds, Ok0 k d) : Ok0 (k + 1) (.tuple ds) := ⟨by simp only [PyData.canLay0]; exact (ok_all h).1, by simp only [PyData.depth]; have := (ok_all h).2; omega⟩
theorem Ok0.mono {k m : Nat} {d : PyData} (h : Ok0 k d) (l : k ≤ m) : Ok0 m d := ⟨h.c, Nat.le_trans h.p l⟩
theorem okd_of {k : Nat} {d : PyData} (h : Ok0 k d) (hk : k ≤ 64) : okd d = true := by
  show (d.canLay0 && decide (d.depth ≤ 64)) = true
  rw [h.c, decide_eq_true (Nat.le_trans h.p hk)]; rfl
theorem ok_ints {k : Nat} {t : Bool} {ns : List Int} : Ok0 (k + 1) (sq t (ns.map .int)) := by
  have h : ∀ d ∈ ns.map PyData.int, Ok0 k d := fun d hd => by
    obtain ⟨x, _, rfl⟩ := List.mem_map.mp hd
    exact .int
  cases t
  · exact .list h
  · exact .tuple h
theorem any_int {x : Int} : ∀ ns : List Int, ((ns.map PyData.int).any fun z => PyData.eqv z (.int x)) = decide (x ∈ ns)
  | [] => by simp
  | n :: ns => by
    rw [List.map_cons, List.any_cons, any_int ns]
    simp only [PyData.eqv, List.mem_cons]
    by_cases h : n = x
    · subst h; simp
    · rw [beq_eq_false_iff_ne.mpr h, Bool.false_or]
      exact decide_eq_decide.mpr ⟨.inr, fun q => q.resolve_left fun z => h z.symm⟩
theorem in_ints {x : Int} {ns : List Int} : cmpop .in_ (.int x) (.list (ns.map .int)) = some (decide (x ∈ ns)) := by
  show (if (okd (.int x) && okd (.list (ns.map .int))) = true then some ((ns.map PyData.int).any fun z => PyData.eqv z (.int x)) else none) = _
  rw [okd_i, show okd (.list (ns.map PyData.int)) = true from okd_of (k := 1) (ok_ints (t := false)) (by omega), any_int]; rfl
theorem notin_ints {x : Int} {ns : List Int} : cmpop .notin (.int x) (.list (ns.map .int)) = some (!decide (x ∈ ns)) := by
  show (if (okd (.int x) && okd (.list (ns.map .int))) = true then some (!(ns.map PyData.int).any fun z => PyData.eqv z (.int x)) else none) = _
  rw [okd_i, show okd (.list (ns.map PyData.int)) = true from okd_of (k := 1) (ok_ints (t := false)) (by omega), any_int]; rfl
/-! ### the ends of all sums -/
theorem made_low : ∀ {l : List (Int × Int)}, Nn l → made l (lowP l) = true
  | [], _ => mk_nil.mpr rfl
  | p :: l, h => by
    rw [mk_cons h.head, lowP_cons]
    by_cases q : p.1 < 0
    · exact ⟨p.2, h.head, Int.le_refl _, by rw [if_pos q, show p.1 * p.2 + lowP l - p.1 * p.2 = lowP l by omega]; exact made_low h.tail⟩
    · exact ⟨0, Int.le_refl _, h.head, by rw [if_neg q, show 0 + lowP l - p.1 * 0 = lowP l by rw [Int.mul_zero]; omega]; exact made_low h.tail⟩
theorem made_top {l : List (Int × Int)} (h : Nn l) : made l (topP l) = true := by
  rw [← mk_mir h, show lowP l + topP l - topP l = lowP l by omega]
  exact made_low h
theorem head_of {l : List Int} {x : Int} (hp : l.Pairwise (· < ·)) (h : x ∈ l) (hx : ∀ y ∈ l, x ≤ y) : L2.atI (l.map PyData.int) 0 = some (.int x) := by
  cases l with
  | nil => simp at h
  | cons y l =>
    have h1 := List.pairwise_cons.mp hp
    have : x = y := by
      rcases List.mem_cons.mp h with e | e
      · exact e
      · have := h1.1 x e; have := hx y List.mem_cons_self; omega
    subst this
    exact at0
theorem last_of {l : List Int} {x : Int} (hp : l.Pairwise (· < ·)) (h : x ∈ l) (hx : ∀ y ∈ l, y ≤ x) : L2.atI (l.map PyData.int) (-1) = some (.int x) := by
  have hne : l ≠ [] := by intro z; rw [z] at h; simp at h
  have e := List.dropLast_concat_getLast hne
  have hm : l.getLast hne ∈ l := List.getLast_mem hne
  have : l.getLast hne = x := by
    rw [← e] at h hp
    rcases List.mem_append.mp h with q | q
    · have := (List.pairwise_append.mp hp).2.2 x q _ (List.mem_singleton.mpr rfl)
      have := hx _ hm; omega
    · exact (List.mem_singleton.mp q).symm
  rw [this] at e
  rw [← e, List.map_append]
  exact atm1
theorem sums_first {l : List (Int × Int)} (h : Nn l) : L2.atI ((sumsP l).map PyData.int) 0 = some (.int (lowP l)) := head_of (sumsP_pw l) ((sumsP_mem h).mpr (made_low h)) fun y hy => (mk_ends h ((sumsP_mem h).mp hy)).1
theorem sums_last {l : List (Int × Int)} (h : Nn l) : L2.atI ((sumsP l).map PyData.int) (-1) = some (.int (topP l)) := last_of (sumsP_pw l) ((sumsP_mem h).mpr (made_top h)) fun y hy => (mk_ends h ((sumsP_mem h).mp hy)).2
/-! ### data that is equal to itself -/
theorem fine_ints {k : Nat} {t : Bool} {ns : List Int} (h : ns.length ≤ 16777216) : Fine (k + 1) (sq t (ns.map .int)) := by
  have g : ∀ d ∈ ns.map PyData.int, Fine k d := fun d hd => by
    obtain ⟨x, _, rfl⟩ := List.mem_map.mp hd
    exact .int x
  cases t
  · exact .list (by rw [List.length_map]; exact h) g
  · exact .tuple (by rw [List.length_map]; exact h) g
theorem fine_plain {cs bs : List Int} {x : Int} (h : cs.length ≤ 1000000) (h2 : bs.length ≤ 1000000) : Fine 2 (plainD cs bs x) := by
  unfold plainD
  split
  · refine .tuple (by simp) fun d hd => ?_
    simp only [List.mem_cons, List.not_mem_nil, or_false] at hd
    rcases hd with rfl | rfl | rfl
    · exact fine_ints (t := true) (by rw [List.length_map]; omega)
    · exact fine_ints (t := true) (by omega)
    · exact .int _
  · exact .none
section
variable {T : List FdD} {fu n i : Nat}
/-- a law's last rows: a test of its own, then the cells -/
def lawC (c : E) (ic ir ib : Nat) : S := (.seq (.ite c (.seq (.ret (.con (.bool false))) .skip) .skip) (.seq (.asg 1 (.call ic (.cons (.var 0) (.cons (.con (.int 3)) .nil)))) (.seq (.ret (.bl .all (.cons (.lc [2] (.rng1 (.len (.var 1))) (.nm 2) .no (.callb ir (.call ib (.cons (.var 1) (.cons (.var 2) .nil))))) .nil))) .skip)))
theorem law_callC {ic ir ib : Nat} {c : Int} {ce : E} (hl : Is T i 1 3 (lawC ce ic ir ib)) (hc : Is T ic 2 6 cellsB) (hb : Is T ib 2 3 (boxB c)) (c0 : 0 ≤ c) (c1 : c < 1000000000)
    (hand : ∀ s, evE (callN T fu (n + 1)) ce ⟨[s, none, none], none⟩ = some (.dat (.bool false), ⟨[s, none, none], none⟩)) (right : ∀ b, BOk 0 b → ∃ b', callN T fu (n + 1) ir [.box] (some b) = some (.dat (.bool true), b')) {ns : List Int} (hn : ns.length ≤ 63) :
    callN T fu (n + 2) i [.dat (.list (ns.map .int))] none = some (.dat (.bool true), none) := by
  obtain ⟨cs, e1, l1, l2⟩ := cells_call (fu := fu) (n := n) hc hn
  have hr : inR (((cs.map PyData.int).length : Nat) : Int) = true := inR_ok (by omega) (by rw [List.length_map]; omega)
  obtain ⟨acc, env', bx', e2, e3, e4⟩ := ev_lcI (cal := callN T fu (n + 1)) (own := [2]) (src := .rng1 (.len (.var 1))) (c := .no) (elt := .callb ir (.call ib (.cons (.var 1) (.cons (.var 2) .nil)))) (tg := .nm 2)
    (g := ⟨[some (.dat (.list (ns.map .int))), some (.own (cs.map .int)), none], none⟩) (env := [some (.dat (.list (ns.map .int))), some (.own (cs.map .int)), none]) (bx := none) (ds := rangeD 0 (cs.map PyData.int).length)
    (fun k e bx acc => (e = [some (.dat (.list (ns.map .int))), some (.own (cs.map .int)), none] ∨ e = [some (.dat (.list (ns.map .int))), some (.dat (.list (cs.map .int))), none]) ∧ bx = none ∧ acc = (List.replicate k true).map .bool)
    (by simp only [ev_var, ev_con, ev_bin, ev_neg, ev_not, ev_cmp, ev_chain, ev_and, ev_or, ev_ite, ev_tup, ev_lst, ev_call, ev_callk, ev_bl, ev_len, ev_bits, ev_isi, ev_sub, ev_slc, ev_callb, ev_sset, ev_rev, rev_l, rev_o, ea_nil, ea_cons, ei_rng1, ei_rng2, ei_zip, ei_enum, ei_it, ex_asg, ex_tas, ex_par, ex_setix, ex_app, ex_ite, ex_skip, ex_seq, ex_ret, ex_retn, ex_pass, ex_cont, ex_brk, evP, setRs, evRet, pk, peek, rd, setAll, bindT, wipeE, unwipe, noOwn, condOf, isNo, RV.pd, RV.frz, canPut, entryE, List.length_cons, List.length_nil, List.map_cons, List.map_nil, List.cons_append, List.nil_append, List.append_nil, Nat.sub_self, Nat.reduceSub, Nat.reduceAdd, Nat.zero_add, List.replicate_succ, List.replicate_zero, List.getElem?_cons_zero, List.getElem?_cons_succ, List.set_cons_zero, List.set_cons_succ, List.getD_cons_zero, List.getD_cons_succ, mapM_pd_nil, mapM_pd_cons, permL_nil, permL_cons, Option.map_some, Option.map_none, Option.bind_some, Option.pure_def, Option.bind_eq_bind, Bool.false_eq_true, if_true, if_false, ite_true, ite_false, reduceIte, reduceCtorEq, cmp_lt, cmp_le, cmp_gt, cmp_ge, cmp_eq_i, cmp_ne_i, cmp_eq_b, cmp_ne_b, cmp_eq_s, cmp_ne_s, cmp_eq_nn, cmp_is, cmp_isnot, isNone_none, isNone_bool, isNone_int, isNone_str, isNone_list, isNone_tuple, bin_add, bin_sub, mulOk_n, mulOk_m, divOk_n, Nat.reduceLT, Int.reduceEq, Int.reduceNe, ne_eq, not_false_eq_true, decide_true, decide_false, bin_mul, bin_fdiv, bin_mod, bin_addl, bin_addt, bin_shl, bin_shr, bin_band, bin_bor, tru_b, tru_i, tru_l, tru_t, tru_o, tru_n, len_l, len_t, len_o, item_l, item_t, item_o, item_b0, item_b1, item_b2, at0, at1, at2, at3, at4, at5, atm1, blt_abs, blt_int, blt_intb, blt_tl, blt_tt, blt_ll, blt_lt, blt_sum, blt_all, blt_any, blt_min2, blt_max2, put_b0, put_b1, put_b2, szOk_0, szOk_1, szOk_n, Nat.reduceLeDiff, bin_mul2, bin_pow, Bool.not_true, Bool.not_false, wp_some, Nx_nx, Rt_rt, Option.toList_some, Option.toList_none, hr, Int.toNat_natCast]) (by rw [rangeD_len, List.length_map]; omega) ⟨.inl rfl, rfl, rfl⟩ fun k d e bx acc hd hI => by
      obtain ⟨he, rfl, rfl⟩ := hI
      obtain ⟨hk, rfl⟩ := rangeD_at hd
      rw [List.length_map] at hk
      obtain ⟨x, y, e3, ok⟩ := box_call (fu := fu) (n := n) hb c0 c1 hk l2
      obtain ⟨b', e4⟩ := right _ ok
      rw [show (0 : Int) + ((k : Nat) : Int) = (k : Int) by omega]
      generalize (k : Int) = z at e3
      have hrep : ∀ k : Nat, (List.replicate k true).map PyData.bool ++ [.bool true] = (List.replicate (k + 1) true).map .bool := fun k => by
        rw [List.replicate_succ', List.map_append]; rfl
      rcases he with rfl | rfl
      · simp only [lcStep, ev_var, ev_con, ev_bin, ev_neg, ev_not, ev_cmp, ev_chain, ev_and, ev_or, ev_ite, ev_tup, ev_lst, ev_call, ev_callk, ev_bl, ev_len, ev_bits, ev_isi, ev_sub, ev_slc, ev_callb, ev_sset, ev_rev, rev_l, rev_o, ea_nil, ea_cons, ei_rng1, ei_rng2, ei_zip, ei_enum, ei_it, ex_asg, ex_tas, ex_par, ex_setix, ex_app, ex_ite, ex_skip, ex_seq, ex_ret, ex_retn, ex_pass, ex_cont, ex_brk, evP, setRs, evRet, pk, peek, rd, setAll, bindT, wipeE, unwipe, noOwn, condOf, isNo, RV.pd, RV.frz, canPut, entryE, List.length_cons, List.length_nil, List.map_cons, List.map_nil, List.cons_append, List.nil_append, List.append_nil, Nat.sub_self, Nat.reduceSub, Nat.reduceAdd, Nat.zero_add, List.replicate_succ, List.replicate_zero, List.getElem?_cons_zero, List.getElem?_cons_succ, List.set_cons_zero, List.set_cons_succ, List.getD_cons_zero, List.getD_cons_succ, mapM_pd_nil, mapM_pd_cons, permL_nil, permL_cons, Option.map_some, Option.map_none, Option.bind_some, Option.pure_def, Option.bind_eq_bind, Bool.false_eq_true, if_true, if_false, ite_true, ite_false, reduceIte, reduceCtorEq, cmp_lt, cmp_le, cmp_gt, cmp_ge, cmp_eq_i, cmp_ne_i, cmp_eq_b, cmp_ne_b, cmp_eq_s, cmp_ne_s, cmp_eq_nn, cmp_is, cmp_isnot, isNone_none, isNone_bool, isNone_int, isNone_str, isNone_list, isNone_tuple, bin_add, bin_sub, mulOk_n, mulOk_m, divOk_n, Nat.reduceLT, Int.reduceEq, Int.reduceNe, ne_eq, not_false_eq_true, decide_true, decide_false, bin_mul, bin_fdiv, bin_mod, bin_addl, bin_addt, bin_shl, bin_shr, bin_band, bin_bor, tru_b, tru_i, tru_l, tru_t, tru_o, tru_n, len_l, len_t, len_o, item_l, item_t, item_o, item_b0, item_b1, item_b2, at0, at1, at2, at3, at4, at5, atm1, blt_abs, blt_int, blt_intb, blt_tl, blt_tt, blt_ll, blt_lt, blt_sum, blt_all, blt_any, blt_min2, blt_max2, put_b0, put_b1, put_b2, szOk_0, szOk_1, szOk_n, Nat.reduceLeDiff, bin_mul2, bin_pow, Bool.not_true, Bool.not_false, wp_some, Nx_nx, Rt_rt, Option.toList_some, Option.toList_none, e3, e4, hrep]
        exact ⟨.inr trivial, trivial, trivial⟩
      · simp only [lcStep, ev_var, ev_con, ev_bin, ev_neg, ev_not, ev_cmp, ev_chain, ev_and, ev_or, ev_ite, ev_tup, ev_lst, ev_call, ev_callk, ev_bl, ev_len, ev_bits, ev_isi, ev_sub, ev_slc, ev_callb, ev_sset, ev_rev, rev_l, rev_o, ea_nil, ea_cons, ei_rng1, ei_rng2, ei_zip, ei_enum, ei_it, ex_asg, ex_tas, ex_par, ex_setix, ex_app, ex_ite, ex_skip, ex_seq, ex_ret, ex_retn, ex_pass, ex_cont, ex_brk, evP, setRs, evRet, pk, peek, rd, setAll, bindT, wipeE, unwipe, noOwn, condOf, isNo, RV.pd, RV.frz, canPut, entryE, List.length_cons, List.length_nil, List.map_cons, List.map_nil, List.cons_append, List.nil_append, List.append_nil, Nat.sub_self, Nat.reduceSub, Nat.reduceAdd, Nat.zero_add, List.replicate_succ, List.replicate_zero, List.getElem?_cons_zero, List.getElem?_cons_succ, List.set_cons_zero, List.set_cons_succ, List.getD_cons_zero, List.getD_cons_succ, mapM_pd_nil, mapM_pd_cons, permL_nil, permL_cons, Option.map_some, Option.map_none, Option.bind_some, Option.pure_def, Option.bind_eq_bind, Bool.false_eq_true, if_true, if_false, ite_true, ite_false, reduceIte, reduceCtorEq, cmp_lt, cmp_le, cmp_gt, cmp_ge, cmp_eq_i, cmp_ne_i, cmp_eq_b, cmp_ne_b, cmp_eq_s, cmp_ne_s, cmp_eq_nn, cmp_is, cmp_isnot, isNone_none, isNone_bool, isNone_int, isNone_str, isNone_list, isNone_tuple, bin_add, bin_sub, mulOk_n, mulOk_m, divOk_n, Nat.reduceLT, Int.reduceEq, Int.reduceNe, ne_eq, not_false_eq_true, decide_true, decide_false, bin_mul, bin_fdiv, bin_mod, bin_addl, bin_addt, bin_shl, bin_shr, bin_band, bin_bor, tru_b, tru_i, tru_l, tru_t, tru_o, tru_n, len_l, len_t, len_o, item_l, item_t, item_o, item_b0, item_b1, item_b2, at0, at1, at2, at3, at4, at5, atm1, blt_abs, blt_int, blt_intb, blt_tl, blt_tt, blt_ll, blt_lt, blt_sum, blt_all, blt_any, blt_min2, blt_max2, put_b0, put_b1, put_b2, szOk_0, szOk_1, szOk_n, Nat.reduceLeDiff, bin_mul2, bin_pow, Bool.not_true, Bool.not_false, wp_some, Nx_nx, Rt_rt, Option.toList_some, Option.toList_none, e3, e4, hrep]
        exact ⟨.inr trivial, trivial, trivial⟩
  obtain ⟨rfl, rfl⟩ := e4
  refine run_is hl rfl ?_
  simp only [lawC, ent, ev_var, ev_con, ev_bin, ev_neg, ev_not, ev_cmp, ev_chain, ev_and, ev_or, ev_ite, ev_tup, ev_lst, ev_call, ev_callk, ev_bl, ev_len, ev_bits, ev_isi, ev_sub, ev_slc, ev_callb, ev_sset, ev_rev, rev_l, rev_o, ea_nil, ea_cons, ei_rng1, ei_rng2, ei_zip, ei_enum, ei_it, ex_asg, ex_tas, ex_par, ex_setix, ex_app, ex_ite, ex_skip, ex_seq, ex_ret, ex_retn, ex_pass, ex_cont, ex_brk, evP, setRs, evRet, pk, peek, rd, setAll, bindT, wipeE, unwipe, noOwn, condOf, isNo, RV.pd, RV.frz, canPut, entryE, List.length_cons, List.length_nil, List.map_cons, List.map_nil, List.cons_append, List.nil_append, List.append_nil, Nat.sub_self, Nat.reduceSub, Nat.reduceAdd, Nat.zero_add, List.replicate_succ, List.replicate_zero, List.getElem?_cons_zero, List.getElem?_cons_succ, List.set_cons_zero, List.set_cons_succ, List.getD_cons_zero, List.getD_cons_succ, mapM_pd_nil, mapM_pd_cons, permL_nil, permL_cons, Option.map_some, Option.map_none, Option.bind_some, Option.pure_def, Option.bind_eq_bind, Bool.false_eq_true, if_true, if_false, ite_true, ite_false, reduceIte, reduceCtorEq, cmp_lt, cmp_le, cmp_gt, cmp_ge, cmp_eq_i, cmp_ne_i, cmp_eq_b, cmp_ne_b, cmp_eq_s, cmp_ne_s, cmp_eq_nn, cmp_is, cmp_isnot, isNone_none, isNone_bool, isNone_int, isNone_str, isNone_list, isNone_tuple, bin_add, bin_sub, mulOk_n, mulOk_m, divOk_n, Nat.reduceLT, Int.reduceEq, Int.reduceNe, ne_eq, not_false_eq_true, decide_true, decide_false, bin_mul, bin_fdiv, bin_mod, bin_addl, bin_addt, bin_shl, bin_shr, bin_band, bin_bor, tru_b, tru_i, tru_l, tru_t, tru_o, tru_n, len_l, len_t, len_o, item_l, item_t, item_o, item_b0, item_b1, item_b2, at0, at1, at2, at3, at4, at5, atm1, blt_abs, blt_int, blt_intb, blt_tl, blt_tt, blt_ll, blt_lt, blt_sum, blt_all, blt_any, blt_min2, blt_max2, put_b0, put_b1, put_b2, szOk_0, szOk_1, szOk_n, Nat.reduceLeDiff, bin_mul2, bin_pow, Bool.not_true, Bool.not_false, wp_some, Nx_nx, Rt_rt, Option.toList_some, Option.toList_none, hand, e1, e2, all_rep]
def isTrue : Option (RV × Bx) → Bool
  | some (.dat (.bool true), none) => true
  | _ => false
theorem isTrue_ok {o : Option (RV × Bx)} (h : isTrue o = true) : o = some (.dat (.bool true), none) := by
  unfold isTrue at h
  split at h
  · rfl
  · cases h
end
end PX
set_option Elab.async false
set_option autoImplicit false
set_option maxRecDepth 100000
set_option maxHeartbeats 8100000
/-! PXWE: loops, places, rounds. -/
namespace PX
open PySem
abbrev Nest := List (Str × Int)
def rowD (t : Bool) (p : Str × Int) : PyData := sq t [.str p.1, .int p.2]
def nestD (t : Bool) (l : Nest) : PyData := sq t (l.map (rowD t))
def spotD (t : Bool) (row : List Int) (num : Int) : PyData := sq t [sq t (row.map .int), .int num]
/-- rows with their bounds -/
def rowsB (row : List Int) (l : Nest) : List (Int × Int) := (row.zip l).map fun p => (p.1, p.2.2)
def nz (l : List (Int × Int)) : List (Int × Int) := l.filter fun p => p.1 != 0
def pairZ (p : Int × Int) : PyData := .tuple [.int p.1, .int p.2]
def roundsZ (l : Nest) : Int := l.foldl (fun a p => a * (p.2 + 1)) 1
section
variable {T : List FdD} {fu n i : Nat} {bx : Bx} {t u v w : Bool} {l : Nest} {r1 r2 row ks : List Int} {n1 n2 num : Int}
theorem foldl_take {l : Nest} {k : Nat} {p : Str × Int} (h : l[k]? = some p) : roundsZ (l.take (k + 1)) = roundsZ (l.take k) * (p.2 + 1) := by
  unfold roundsZ
  rw [List.take_add_one, h, Option.toList_some, List.foldl_append]; rfl
theorem rounds_call (h : Is T i 1 4 B_how_many_rounds) (hb : ∀ p ∈ l, (p.2 + 1).natAbs < 2 ^ 64) : callN T fu (n + 1) i [.dat (nestD t l)] bx = some (.dat (.int (roundsZ l)), bx) := by
  refine run_wp h rfl ?_
  cases t
  all_goals
    simp only [B_how_many_rounds, ent, ev_var, ev_con, ev_bin, ev_neg, ev_not, ev_cmp, ev_chain, ev_and, ev_or, ev_ite, ev_tup, ev_lst, ev_call, ev_callk, ev_bl, ev_len, ev_bits, ev_isi, ev_sub, ev_slc, ev_callb, ev_sset, ev_rev, rev_l, rev_o, ea_nil, ea_cons, ei_rng1, ei_rng2, ei_zip, ei_enum, ei_it, sq_skip, sq_seq, sq_asg, sq_tas, sq_par, sq_setix, sq_app, sq_ite, sq_ret, sq_retn, sq_pass, sq_cont, sq_brk, sq_aug_add, ex_skip, evP, setRs, evRet, pk, peek, rd, setAll, bindT, wipeE, unwipe, noOwn, condOf, isNo, RV.pd, RV.frz, canPut, entryE, List.length_cons, List.length_nil, List.map_cons, List.map_nil, List.cons_append, List.nil_append, List.append_nil, Nat.sub_self, Nat.reduceSub, Nat.reduceAdd, Nat.zero_add, List.replicate_succ, List.replicate_zero, List.getElem?_cons_zero, List.getElem?_cons_succ, List.set_cons_zero, List.set_cons_succ, List.getD_cons_zero, List.getD_cons_succ, mapM_pd_nil, mapM_pd_cons, permL_nil, permL_cons, Option.map_some, Option.map_none, Option.bind_some, Option.pure_def, Option.bind_eq_bind, Bool.false_eq_true, if_true, if_false, ite_true, ite_false, reduceIte, reduceCtorEq, cmp_lt, cmp_le, cmp_gt, cmp_ge, cmp_eq_i, cmp_ne_i, cmp_eq_b, cmp_ne_b, cmp_eq_s, cmp_ne_s, cmp_eq_nn, cmp_is, cmp_isnot, isNone_none, isNone_bool, isNone_int, isNone_str, isNone_list, isNone_tuple, bin_add, bin_sub, mulOk_n, mulOk_m, divOk_n, Nat.reduceLT, Int.reduceEq, Int.reduceNe, ne_eq, not_false_eq_true, decide_true, decide_false, bin_mul, bin_fdiv, bin_mod, bin_addl, bin_addt, bin_shl, bin_shr, bin_band, bin_bor, tru_b, tru_i, tru_l, tru_t, tru_o, tru_n, len_l, len_t, len_o, item_l, item_t, item_o, item_b0, item_b1, item_b2, at0, at1, at2, at3, at4, at5, atm1, blt_abs, blt_int, blt_intb, blt_tl, blt_tt, blt_ll, blt_lt, blt_sum, blt_all, blt_any, blt_min2, blt_max2, put_b0, put_b1, put_b2, szOk_0, szOk_1, szOk_n, Nat.reduceLeDiff, bin_mul2, bin_pow, Bool.not_true, Bool.not_false, wp_some, Nx_nx, Rt_rt, Option.toList_some, Option.toList_none, ev_lcR, lcR_nil, rangeD_map, zipW_map, enum_map, zip_tt, zip_tl, zip_lt, zip_ll, iter_t, iter_l, iter_o, lst_l, lst_o, seq_sq, iter_sq, len_sq, item_sq, list_sq, tuple_sq, zip_sq, pairD, step_no, stepC_eq, st_cmp, st_chain, st_and, st_or, st_not, st_isi, st_call, st_bl, st_var, setQ, nestD, sq]
    refine wp_loop (l := l) (P := rowD _) (fun k g => ∃ s0 e2 e3, g = ⟨[s0, some (.dat (.int (roundsZ (l.take k)))), e2, e3], bx⟩) (by simp only [ev_var, ev_con, ev_bin, ev_neg, ev_not, ev_cmp, ev_chain, ev_and, ev_or, ev_ite, ev_tup, ev_lst, ev_call, ev_callk, ev_bl, ev_len, ev_bits, ev_isi, ev_sub, ev_slc, ev_callb, ev_sset, ev_rev, rev_l, rev_o, ea_nil, ea_cons, ei_rng1, ei_rng2, ei_zip, ei_enum, ei_it, sq_skip, sq_seq, sq_asg, sq_tas, sq_par, sq_setix, sq_app, sq_ite, sq_ret, sq_retn, sq_pass, sq_cont, sq_brk, sq_aug_add, ex_skip, evP, setRs, evRet, pk, peek, rd, setAll, bindT, wipeE, unwipe, noOwn, condOf, isNo, RV.pd, RV.frz, canPut, entryE, List.length_cons, List.length_nil, List.map_cons, List.map_nil, List.cons_append, List.nil_append, List.append_nil, Nat.sub_self, Nat.reduceSub, Nat.reduceAdd, Nat.zero_add, List.replicate_succ, List.replicate_zero, List.getElem?_cons_zero, List.getElem?_cons_succ, List.set_cons_zero, List.set_cons_succ, List.getD_cons_zero, List.getD_cons_succ, mapM_pd_nil, mapM_pd_cons, permL_nil, permL_cons, Option.map_some, Option.map_none, Option.bind_some, Option.pure_def, Option.bind_eq_bind, Bool.false_eq_true, if_true, if_false, ite_true, ite_false, reduceIte, reduceCtorEq, cmp_lt, cmp_le, cmp_gt, cmp_ge, cmp_eq_i, cmp_ne_i, cmp_eq_b, cmp_ne_b, cmp_eq_s, cmp_ne_s, cmp_eq_nn, cmp_is, cmp_isnot, isNone_none, isNone_bool, isNone_int, isNone_str, isNone_list, isNone_tuple, bin_add, bin_sub, mulOk_n, mulOk_m, divOk_n, Nat.reduceLT, Int.reduceEq, Int.reduceNe, ne_eq, not_false_eq_true, decide_true, decide_false, bin_mul, bin_fdiv, bin_mod, bin_addl, bin_addt, bin_shl, bin_shr, bin_band, bin_bor, tru_b, tru_i, tru_l, tru_t, tru_o, tru_n, len_l, len_t, len_o, item_l, item_t, item_o, item_b0, item_b1, item_b2, at0, at1, at2, at3, at4, at5, atm1, blt_abs, blt_int, blt_intb, blt_tl, blt_tt, blt_ll, blt_lt, blt_sum, blt_all, blt_any, blt_min2, blt_max2, put_b0, put_b1, put_b2, szOk_0, szOk_1, szOk_n, Nat.reduceLeDiff, bin_mul2, bin_pow, Bool.not_true, Bool.not_false, wp_some, Nx_nx, Rt_rt, Option.toList_some, Option.toList_none, ev_lcR, lcR_nil, rangeD_map, zipW_map, enum_map, zip_tt, zip_tl, zip_lt, zip_ll, iter_t, iter_l, iter_o, lst_l, lst_o, seq_sq, iter_sq, len_sq, item_sq, list_sq, tuple_sq, zip_sq, pairD, step_no, stepC_eq, st_cmp, st_chain, st_and, st_or, st_not, st_isi, st_call, st_bl, st_var, setQ]; rfl) ⟨_, none, none, rfl⟩ ?_ ?_
    · rintro k p g hk ⟨s0, e2, e3, rfl⟩
      have m := mulOk_r (i := roundsZ (l.take k)) (hb p (List.mem_of_getElem? hk))
      rw [foldl_take hk]
      simp only [rowD, sq, ev_var, ev_con, ev_bin, ev_neg, ev_not, ev_cmp, ev_chain, ev_and, ev_or, ev_ite, ev_tup, ev_lst, ev_call, ev_callk, ev_bl, ev_len, ev_bits, ev_isi, ev_sub, ev_slc, ev_callb, ev_sset, ev_rev, rev_l, rev_o, ea_nil, ea_cons, ei_rng1, ei_rng2, ei_zip, ei_enum, ei_it, sq_skip, sq_seq, sq_asg, sq_tas, sq_par, sq_setix, sq_app, sq_ite, sq_ret, sq_retn, sq_pass, sq_cont, sq_brk, sq_aug_add, ex_skip, evP, setRs, evRet, pk, peek, rd, setAll, bindT, wipeE, unwipe, noOwn, condOf, isNo, RV.pd, RV.frz, canPut, entryE, List.length_cons, List.length_nil, List.map_cons, List.map_nil, List.cons_append, List.nil_append, List.append_nil, Nat.sub_self, Nat.reduceSub, Nat.reduceAdd, Nat.zero_add, List.replicate_succ, List.replicate_zero, List.getElem?_cons_zero, List.getElem?_cons_succ, List.set_cons_zero, List.set_cons_succ, List.getD_cons_zero, List.getD_cons_succ, mapM_pd_nil, mapM_pd_cons, permL_nil, permL_cons, Option.map_some, Option.map_none, Option.bind_some, Option.pure_def, Option.bind_eq_bind, Bool.false_eq_true, if_true, if_false, ite_true, ite_false, reduceIte, reduceCtorEq, cmp_lt, cmp_le, cmp_gt, cmp_ge, cmp_eq_i, cmp_ne_i, cmp_eq_b, cmp_ne_b, cmp_eq_s, cmp_ne_s, cmp_eq_nn, cmp_is, cmp_isnot, isNone_none, isNone_bool, isNone_int, isNone_str, isNone_list, isNone_tuple, bin_add, bin_sub, mulOk_n, mulOk_m, divOk_n, Nat.reduceLT, Int.reduceEq, Int.reduceNe, ne_eq, not_false_eq_true, decide_true, decide_false, bin_mul, bin_fdiv, bin_mod, bin_addl, bin_addt, bin_shl, bin_shr, bin_band, bin_bor, tru_b, tru_i, tru_l, tru_t, tru_o, tru_n, len_l, len_t, len_o, item_l, item_t, item_o, item_b0, item_b1, item_b2, at0, at1, at2, at3, at4, at5, atm1, blt_abs, blt_int, blt_intb, blt_tl, blt_tt, blt_ll, blt_lt, blt_sum, blt_all, blt_any, blt_min2, blt_max2, put_b0, put_b1, put_b2, szOk_0, szOk_1, szOk_n, Nat.reduceLeDiff, bin_mul2, bin_pow, Bool.not_true, Bool.not_false, wp_some, Nx_nx, Rt_rt, Option.toList_some, Option.toList_none, ev_lcR, lcR_nil, rangeD_map, zipW_map, enum_map, zip_tt, zip_tl, zip_lt, zip_ll, iter_t, iter_l, iter_o, lst_l, lst_o, seq_sq, iter_sq, len_sq, item_sq, list_sq, tuple_sq, zip_sq, pairD, step_no, stepC_eq, st_cmp, st_chain, st_and, st_or, st_not, st_isi, st_call, st_bl, st_var, setQ, m]
      exact .inl ⟨_, _, _, rfl⟩
    · rintro g ⟨s0, e2, e3, rfl⟩
      rw [List.take_length]
      simp only [ev_var, ev_con, ev_bin, ev_neg, ev_not, ev_cmp, ev_chain, ev_and, ev_or, ev_ite, ev_tup, ev_lst, ev_call, ev_callk, ev_bl, ev_len, ev_bits, ev_isi, ev_sub, ev_slc, ev_callb, ev_sset, ev_rev, rev_l, rev_o, ea_nil, ea_cons, ei_rng1, ei_rng2, ei_zip, ei_enum, ei_it, sq_skip, sq_seq, sq_asg, sq_tas, sq_par, sq_setix, sq_app, sq_ite, sq_ret, sq_retn, sq_pass, sq_cont, sq_brk, sq_aug_add, ex_skip, evP, setRs, evRet, pk, peek, rd, setAll, bindT, wipeE, unwipe, noOwn, condOf, isNo, RV.pd, RV.frz, canPut, entryE, List.length_cons, List.length_nil, List.map_cons, List.map_nil, List.cons_append, List.nil_append, List.append_nil, Nat.sub_self, Nat.reduceSub, Nat.reduceAdd, Nat.zero_add, List.replicate_succ, List.replicate_zero, List.getElem?_cons_zero, List.getElem?_cons_succ, List.set_cons_zero, List.set_cons_succ, List.getD_cons_zero, List.getD_cons_succ, mapM_pd_nil, mapM_pd_cons, permL_nil, permL_cons, Option.map_some, Option.map_none, Option.bind_some, Option.pure_def, Option.bind_eq_bind, Bool.false_eq_true, if_true, if_false, ite_true, ite_false, reduceIte, reduceCtorEq, cmp_lt, cmp_le, cmp_gt, cmp_ge, cmp_eq_i, cmp_ne_i, cmp_eq_b, cmp_ne_b, cmp_eq_s, cmp_ne_s, cmp_eq_nn, cmp_is, cmp_isnot, isNone_none, isNone_bool, isNone_int, isNone_str, isNone_list, isNone_tuple, bin_add, bin_sub, mulOk_n, mulOk_m, divOk_n, Nat.reduceLT, Int.reduceEq, Int.reduceNe, ne_eq, not_false_eq_true, decide_true, decide_false, bin_mul, bin_fdiv, bin_mod, bin_addl, bin_addt, bin_shl, bin_shr, bin_band, bin_bor, tru_b, tru_i, tru_l, tru_t, tru_o, tru_n, len_l, len_t, len_o, item_l, item_t, item_o, item_b0, item_b1, item_b2, at0, at1, at2, at3, at4, at5, atm1, blt_abs, blt_int, blt_intb, blt_tl, blt_tt, blt_ll, blt_lt, blt_sum, blt_all, blt_any, blt_min2, blt_max2, put_b0, put_b1, put_b2, szOk_0, szOk_1, szOk_n, Nat.reduceLeDiff, bin_mul2, bin_pow, Bool.not_true, Bool.not_false, wp_some, Nx_nx, Rt_rt, Option.toList_some, Option.toList_none, ev_lcR, lcR_nil, rangeD_map, zipW_map, enum_map, zip_tt, zip_tl, zip_lt, zip_ll, iter_t, iter_l, iter_o, lst_l, lst_o, seq_sq, iter_sq, len_sq, item_sq, list_sq, tuple_sq, zip_sq, pairD, step_no, stepC_eq, st_cmp, st_chain, st_and, st_or, st_not, st_isi, st_call, st_bl, st_var, setQ, and_self]
theorem cell_call {sm : Nat} (h : Is T i 2 2 (B_cell_at sm)) (h1 : Is T sm 2 4 B_sum_of) (hc : Sh row) (hl : row.length ≤ 1000000) : callN T fu (n + 2) i [.dat (spotD t row num), Zs u ks] bx = some (.dat (.int (sumZ row ks + num)), bx) := by
  refine run_wp h rfl ?_
  have a : callN T fu (n + 1) sm [Zs t row, Zs u ks] bx = _ := sum_call (n := n) h1 hc hl
  cases t
  · have a : callN T fu (n + 1) sm [.dat (.list (row.map .int)), Zs u ks] bx = _ := a
    simp only [B_cell_at, ent, ev_var, ev_con, ev_bin, ev_neg, ev_not, ev_cmp, ev_chain, ev_and, ev_or, ev_ite, ev_tup, ev_lst, ev_call, ev_callk, ev_bl, ev_len, ev_bits, ev_isi, ev_sub, ev_slc, ev_callb, ev_sset, ev_rev, rev_l, rev_o, ea_nil, ea_cons, ei_rng1, ei_rng2, ei_zip, ei_enum, ei_it, sq_skip, sq_seq, sq_asg, sq_tas, sq_par, sq_setix, sq_app, sq_ite, sq_ret, sq_retn, sq_pass, sq_cont, sq_brk, sq_aug_add, ex_skip, evP, setRs, evRet, pk, peek, rd, setAll, bindT, wipeE, unwipe, noOwn, condOf, isNo, RV.pd, RV.frz, canPut, entryE, List.length_cons, List.length_nil, List.map_cons, List.map_nil, List.cons_append, List.nil_append, List.append_nil, Nat.sub_self, Nat.reduceSub, Nat.reduceAdd, Nat.zero_add, List.replicate_succ, List.replicate_zero, List.getElem?_cons_zero, List.getElem?_cons_succ, List.set_cons_zero, List.set_cons_succ, List.getD_cons_zero, List.getD_cons_succ, mapM_pd_nil, mapM_pd_cons, permL_nil, permL_cons, Option.map_some, Option.map_none, Option.bind_some, Option.pure_def, Option.bind_eq_bind, Bool.false_eq_true, if_true, if_false, ite_true, ite_false, reduceIte, reduceCtorEq, cmp_lt, cmp_le, cmp_gt, cmp_ge, cmp_eq_i, cmp_ne_i, cmp_eq_b, cmp_ne_b, cmp_eq_s, cmp_ne_s, cmp_eq_nn, cmp_is, cmp_isnot, isNone_none, isNone_bool, isNone_int, isNone_str, isNone_list, isNone_tuple, bin_add, bin_sub, mulOk_n, mulOk_m, divOk_n, Nat.reduceLT, Int.reduceEq, Int.reduceNe, ne_eq, not_false_eq_true, decide_true, decide_false, bin_mul, bin_fdiv, bin_mod, bin_addl, bin_addt, bin_shl, bin_shr, bin_band, bin_bor, tru_b, tru_i, tru_l, tru_t, tru_o, tru_n, len_l, len_t, len_o, item_l, item_t, item_o, item_b0, item_b1, item_b2, at0, at1, at2, at3, at4, at5, atm1, blt_abs, blt_int, blt_intb, blt_tl, blt_tt, blt_ll, blt_lt, blt_sum, blt_all, blt_any, blt_min2, blt_max2, put_b0, put_b1, put_b2, szOk_0, szOk_1, szOk_n, Nat.reduceLeDiff, bin_mul2, bin_pow, Bool.not_true, Bool.not_false, wp_some, Nx_nx, Rt_rt, Option.toList_some, Option.toList_none, ev_lcR, lcR_nil, rangeD_map, zipW_map, enum_map, zip_tt, zip_tl, zip_lt, zip_ll, iter_t, iter_l, iter_o, lst_l, lst_o, seq_sq, iter_sq, len_sq, item_sq, list_sq, tuple_sq, zip_sq, pairD, step_no, stepC_eq, st_cmp, st_chain, st_and, st_or, st_not, st_isi, st_call, st_bl, st_var, setQ, spotD, sq, a, and_self]
  · have a : callN T fu (n + 1) sm [.dat (.tuple (row.map .int)), Zs u ks] bx = _ := a
    simp only [B_cell_at, ent, ev_var, ev_con, ev_bin, ev_neg, ev_not, ev_cmp, ev_chain, ev_and, ev_or, ev_ite, ev_tup, ev_lst, ev_call, ev_callk, ev_bl, ev_len, ev_bits, ev_isi, ev_sub, ev_slc, ev_callb, ev_sset, ev_rev, rev_l, rev_o, ea_nil, ea_cons, ei_rng1, ei_rng2, ei_zip, ei_enum, ei_it, sq_skip, sq_seq, sq_asg, sq_tas, sq_par, sq_setix, sq_app, sq_ite, sq_ret, sq_retn, sq_pass, sq_cont, sq_brk, sq_aug_add, ex_skip, evP, setRs, evRet, pk, peek, rd, setAll, bindT, wipeE, unwipe, noOwn, condOf, isNo, RV.pd, RV.frz, canPut, entryE, List.length_cons, List.length_nil, List.map_cons, List.map_nil, List.cons_append, List.nil_append, List.append_nil, Nat.sub_self, Nat.reduceSub, Nat.reduceAdd, Nat.zero_add, List.replicate_succ, List.replicate_zero, List.getElem?_cons_zero, List.getElem?_cons_succ, List.set_cons_zero, List.set_cons_succ, List.getD_cons_zero, List.getD_cons_succ, mapM_pd_nil, mapM_pd_cons, permL_nil, permL_cons, Option.map_some, Option.map_none, Option.bind_some, Option.pure_def, Option.bind_eq_bind, Bool.false_eq_true, if_true, if_false, ite_true, ite_false, reduceIte, reduceCtorEq, cmp_lt, cmp_le, cmp_gt, cmp_ge, cmp_eq_i, cmp_ne_i, cmp_eq_b, cmp_ne_b, cmp_eq_s, cmp_ne_s, cmp_eq_nn, cmp_is, cmp_isnot, isNone_none, isNone_bool, isNone_int, isNone_str, isNone_list, isNone_tuple, bin_add, bin_sub, mulOk_n, mulOk_m, divOk_n, Nat.reduceLT, Int.reduceEq, Int.reduceNe, ne_eq, not_false_eq_true, decide_true, decide_false, bin_mul, bin_fdiv, bin_mod, bin_addl, bin_addt, bin_shl, bin_shr, bin_band, bin_bor, tru_b, tru_i, tru_l, tru_t, tru_o, tru_n, len_l, len_t, len_o, item_l, item_t, item_o, item_b0, item_b1, item_b2, at0, at1, at2, at3, at4, at5, atm1, blt_abs, blt_int, blt_intb, blt_tl, blt_tt, blt_ll, blt_lt, blt_sum, blt_all, blt_any, blt_min2, blt_max2, put_b0, put_b1, put_b2, szOk_0, szOk_1, szOk_n, Nat.reduceLeDiff, bin_mul2, bin_pow, Bool.not_true, Bool.not_false, wp_some, Nx_nx, Rt_rt, Option.toList_some, Option.toList_none, ev_lcR, lcR_nil, rangeD_map, zipW_map, enum_map, zip_tt, zip_tl, zip_lt, zip_ll, iter_t, iter_l, iter_o, lst_l, lst_o, seq_sq, iter_sq, len_sq, item_sq, list_sq, tuple_sq, zip_sq, pairD, step_no, stepC_eq, st_cmp, st_chain, st_and, st_or, st_not, st_isi, st_call, st_bl, st_var, setQ, spotD, sq, a, and_self]
def rowsZ (l : Nest) (r1 r2 : List Int) : List (Int × Int) := rowsB r1 l ++ (rowsB r2 l).map fun p => (-p.1, p.2)
theorem rows_call (h : Is T i 3 7 B_all_rows) (hl : l.length ≤ 1000000) : callN T fu (n + 1) i [.dat (nestD t l), .dat (spotD u r1 n1), .dat (spotD v r2 n2)] bx = some (.own ((rowsZ l r1 r2).map pairZ), bx) := by
  refine run_wp h rfl ?_
  have z1 : (r1.zip l).length ≤ 16777216 := by rw [List.length_zip]; omega
  have z2 : (r2.zip l).length ≤ 16777216 := by rw [List.length_zip]; omega
  have sz : szOk ((r1.zip l).length + (r2.zip l).length) = true := szOk_of (by rw [List.length_zip, List.length_zip]; omega)
  have fin : ((r1.zip l).map fun p => (p.1, p.2.2)).map pairZ ++ ((r2.zip l).map fun p => (-p.1, p.2.2)).map pairZ = (rowsZ l r1 r2).map pairZ := by
    unfold rowsZ rowsB
    rw [List.map_append, List.map_map, List.map_map, List.map_map, List.map_map]; rfl
  cases t <;> cases u <;> cases v
  all_goals
    simp only [B_all_rows, ent, ev_var, ev_con, ev_bin, ev_neg, ev_not, ev_cmp, ev_chain, ev_and, ev_or, ev_ite, ev_tup, ev_lst, ev_call, ev_callk, ev_bl, ev_len, ev_bits, ev_isi, ev_sub, ev_slc, ev_callb, ev_sset, ev_rev, rev_l, rev_o, ea_nil, ea_cons, ei_rng1, ei_rng2, ei_zip, ei_enum, ei_it, sq_skip, sq_seq, sq_asg, sq_tas, sq_par, sq_setix, sq_app, sq_ite, sq_ret, sq_retn, sq_pass, sq_cont, sq_brk, sq_aug_add, ex_skip, evP, setRs, evRet, pk, peek, rd, setAll, bindT, wipeE, unwipe, noOwn, condOf, isNo, RV.pd, RV.frz, canPut, entryE, List.length_cons, List.length_nil, List.map_cons, List.map_nil, List.cons_append, List.nil_append, List.append_nil, Nat.sub_self, Nat.reduceSub, Nat.reduceAdd, Nat.zero_add, List.replicate_succ, List.replicate_zero, List.getElem?_cons_zero, List.getElem?_cons_succ, List.set_cons_zero, List.set_cons_succ, List.getD_cons_zero, List.getD_cons_succ, mapM_pd_nil, mapM_pd_cons, permL_nil, permL_cons, Option.map_some, Option.map_none, Option.bind_some, Option.pure_def, Option.bind_eq_bind, Bool.false_eq_true, if_true, if_false, ite_true, ite_false, reduceIte, reduceCtorEq, cmp_lt, cmp_le, cmp_gt, cmp_ge, cmp_eq_i, cmp_ne_i, cmp_eq_b, cmp_ne_b, cmp_eq_s, cmp_ne_s, cmp_eq_nn, cmp_is, cmp_isnot, isNone_none, isNone_bool, isNone_int, isNone_str, isNone_list, isNone_tuple, bin_add, bin_sub, mulOk_n, mulOk_m, divOk_n, Nat.reduceLT, Int.reduceEq, Int.reduceNe, ne_eq, not_false_eq_true, decide_true, decide_false, bin_mul, bin_fdiv, bin_mod, bin_addl, bin_addt, bin_shl, bin_shr, bin_band, bin_bor, tru_b, tru_i, tru_l, tru_t, tru_o, tru_n, len_l, len_t, len_o, item_l, item_t, item_o, item_b0, item_b1, item_b2, at0, at1, at2, at3, at4, at5, atm1, blt_abs, blt_int, blt_intb, blt_tl, blt_tt, blt_ll, blt_lt, blt_sum, blt_all, blt_any, blt_min2, blt_max2, put_b0, put_b1, put_b2, szOk_0, szOk_1, szOk_n, Nat.reduceLeDiff, bin_mul2, bin_pow, Bool.not_true, Bool.not_false, wp_some, Nx_nx, Rt_rt, Option.toList_some, Option.toList_none, ev_lcR, lcR_nil, rangeD_map, zipW_map, enum_map, zip_tt, zip_tl, zip_lt, zip_ll, iter_t, iter_l, iter_o, lst_l, lst_o, seq_sq, iter_sq, len_sq, item_sq, list_sq, tuple_sq, zip_sq, pairD, step_no, stepC_eq, st_cmp, st_chain, st_and, st_or, st_not, st_isi, st_call, st_bl, st_var, setQ, nestD, spotD, sq]
    rw [lcR_A (fun p : Int × (Str × Int) => (p.1, p.2.2)) pairZ z1 fun p hp => by simp only [rowD, sq, pairZ, ev_var, ev_con, ev_bin, ev_neg, ev_not, ev_cmp, ev_chain, ev_and, ev_or, ev_ite, ev_tup, ev_lst, ev_call, ev_callk, ev_bl, ev_len, ev_bits, ev_isi, ev_sub, ev_slc, ev_callb, ev_sset, ev_rev, rev_l, rev_o, ea_nil, ea_cons, ei_rng1, ei_rng2, ei_zip, ei_enum, ei_it, sq_skip, sq_seq, sq_asg, sq_tas, sq_par, sq_setix, sq_app, sq_ite, sq_ret, sq_retn, sq_pass, sq_cont, sq_brk, sq_aug_add, ex_skip, evP, setRs, evRet, pk, peek, rd, setAll, bindT, wipeE, unwipe, noOwn, condOf, isNo, RV.pd, RV.frz, canPut, entryE, List.length_cons, List.length_nil, List.map_cons, List.map_nil, List.cons_append, List.nil_append, List.append_nil, Nat.sub_self, Nat.reduceSub, Nat.reduceAdd, Nat.zero_add, List.replicate_succ, List.replicate_zero, List.getElem?_cons_zero, List.getElem?_cons_succ, List.set_cons_zero, List.set_cons_succ, List.getD_cons_zero, List.getD_cons_succ, mapM_pd_nil, mapM_pd_cons, permL_nil, permL_cons, Option.map_some, Option.map_none, Option.bind_some, Option.pure_def, Option.bind_eq_bind, Bool.false_eq_true, if_true, if_false, ite_true, ite_false, reduceIte, reduceCtorEq, cmp_lt, cmp_le, cmp_gt, cmp_ge, cmp_eq_i, cmp_ne_i, cmp_eq_b, cmp_ne_b, cmp_eq_s, cmp_ne_s, cmp_eq_nn, cmp_is, cmp_isnot, isNone_none, isNone_bool, isNone_int, isNone_str, isNone_list, isNone_tuple, bin_add, bin_sub, mulOk_n, mulOk_m, divOk_n, Nat.reduceLT, Int.reduceEq, Int.reduceNe, ne_eq, not_false_eq_true, decide_true, decide_false, bin_mul, bin_fdiv, bin_mod, bin_addl, bin_addt, bin_shl, bin_shr, bin_band, bin_bor, tru_b, tru_i, tru_l, tru_t, tru_o, tru_n, len_l, len_t, len_o, item_l, item_t, item_o, item_b0, item_b1, item_b2, at0, at1, at2, at3, at4, at5, atm1, blt_abs, blt_int, blt_intb, blt_tl, blt_tt, blt_ll, blt_lt, blt_sum, blt_all, blt_any, blt_min2, blt_max2, put_b0, put_b1, put_b2, szOk_0, szOk_1, szOk_n, Nat.reduceLeDiff, bin_mul2, bin_pow, Bool.not_true, Bool.not_false, wp_some, Nx_nx, Rt_rt, Option.toList_some, Option.toList_none, ev_lcR, lcR_nil, rangeD_map, zipW_map, enum_map, zip_tt, zip_tl, zip_lt, zip_ll, iter_t, iter_l, iter_o, lst_l, lst_o, seq_sq, iter_sq, len_sq, item_sq, list_sq, tuple_sq, zip_sq, pairD, step_no, stepC_eq, st_cmp, st_chain, st_and, st_or, st_not, st_isi, st_call, st_bl, st_var, setQ, and_self]]
    simp only [ev_var, ev_con, ev_bin, ev_neg, ev_not, ev_cmp, ev_chain, ev_and, ev_or, ev_ite, ev_tup, ev_lst, ev_call, ev_callk, ev_bl, ev_len, ev_bits, ev_isi, ev_sub, ev_slc, ev_callb, ev_sset, ev_rev, rev_l, rev_o, ea_nil, ea_cons, ei_rng1, ei_rng2, ei_zip, ei_enum, ei_it, sq_skip, sq_seq, sq_asg, sq_tas, sq_par, sq_setix, sq_app, sq_ite, sq_ret, sq_retn, sq_pass, sq_cont, sq_brk, sq_aug_add, ex_skip, evP, setRs, evRet, pk, peek, rd, setAll, bindT, wipeE, unwipe, noOwn, condOf, isNo, RV.pd, RV.frz, canPut, entryE, List.length_cons, List.length_nil, List.map_cons, List.map_nil, List.cons_append, List.nil_append, List.append_nil, Nat.sub_self, Nat.reduceSub, Nat.reduceAdd, Nat.zero_add, List.replicate_succ, List.replicate_zero, List.getElem?_cons_zero, List.getElem?_cons_succ, List.set_cons_zero, List.set_cons_succ, List.getD_cons_zero, List.getD_cons_succ, mapM_pd_nil, mapM_pd_cons, permL_nil, permL_cons, Option.map_some, Option.map_none, Option.bind_some, Option.pure_def, Option.bind_eq_bind, Bool.false_eq_true, if_true, if_false, ite_true, ite_false, reduceIte, reduceCtorEq, cmp_lt, cmp_le, cmp_gt, cmp_ge, cmp_eq_i, cmp_ne_i, cmp_eq_b, cmp_ne_b, cmp_eq_s, cmp_ne_s, cmp_eq_nn, cmp_is, cmp_isnot, isNone_none, isNone_bool, isNone_int, isNone_str, isNone_list, isNone_tuple, bin_add, bin_sub, mulOk_n, mulOk_m, divOk_n, Nat.reduceLT, Int.reduceEq, Int.reduceNe, ne_eq, not_false_eq_true, decide_true, decide_false, bin_mul, bin_fdiv, bin_mod, bin_addl, bin_addt, bin_shl, bin_shr, bin_band, bin_bor, tru_b, tru_i, tru_l, tru_t, tru_o, tru_n, len_l, len_t, len_o, item_l, item_t, item_o, item_b0, item_b1, item_b2, at0, at1, at2, at3, at4, at5, atm1, blt_abs, blt_int, blt_intb, blt_tl, blt_tt, blt_ll, blt_lt, blt_sum, blt_all, blt_any, blt_min2, blt_max2, put_b0, put_b1, put_b2, szOk_0, szOk_1, szOk_n, Nat.reduceLeDiff, bin_mul2, bin_pow, Bool.not_true, Bool.not_false, wp_some, Nx_nx, Rt_rt, Option.toList_some, Option.toList_none, ev_lcR, lcR_nil, rangeD_map, zipW_map, enum_map, zip_tt, zip_tl, zip_lt, zip_ll, iter_t, iter_l, iter_o, lst_l, lst_o, seq_sq, iter_sq, len_sq, item_sq, list_sq, tuple_sq, zip_sq, pairD, step_no, stepC_eq, st_cmp, st_chain, st_and, st_or, st_not, st_isi, st_call, st_bl, st_var, setQ]
    rw [lcR_A (fun p : Int × (Str × Int) => (-p.1, p.2.2)) pairZ z2 fun p hp => by simp only [rowD, sq, pairZ, ev_var, ev_con, ev_bin, ev_neg, ev_not, ev_cmp, ev_chain, ev_and, ev_or, ev_ite, ev_tup, ev_lst, ev_call, ev_callk, ev_bl, ev_len, ev_bits, ev_isi, ev_sub, ev_slc, ev_callb, ev_sset, ev_rev, rev_l, rev_o, ea_nil, ea_cons, ei_rng1, ei_rng2, ei_zip, ei_enum, ei_it, sq_skip, sq_seq, sq_asg, sq_tas, sq_par, sq_setix, sq_app, sq_ite, sq_ret, sq_retn, sq_pass, sq_cont, sq_brk, sq_aug_add, ex_skip, evP, setRs, evRet, pk, peek, rd, setAll, bindT, wipeE, unwipe, noOwn, condOf, isNo, RV.pd, RV.frz, canPut, entryE, List.length_cons, List.length_nil, List.map_cons, List.map_nil, List.cons_append, List.nil_append, List.append_nil, Nat.sub_self, Nat.reduceSub, Nat.reduceAdd, Nat.zero_add, List.replicate_succ, List.replicate_zero, List.getElem?_cons_zero, List.getElem?_cons_succ, List.set_cons_zero, List.set_cons_succ, List.getD_cons_zero, List.getD_cons_succ, mapM_pd_nil, mapM_pd_cons, permL_nil, permL_cons, Option.map_some, Option.map_none, Option.bind_some, Option.pure_def, Option.bind_eq_bind, Bool.false_eq_true, if_true, if_false, ite_true, ite_false, reduceIte, reduceCtorEq, cmp_lt, cmp_le, cmp_gt, cmp_ge, cmp_eq_i, cmp_ne_i, cmp_eq_b, cmp_ne_b, cmp_eq_s, cmp_ne_s, cmp_eq_nn, cmp_is, cmp_isnot, isNone_none, isNone_bool, isNone_int, isNone_str, isNone_list, isNone_tuple, bin_add, bin_sub, mulOk_n, mulOk_m, divOk_n, Nat.reduceLT, Int.reduceEq, Int.reduceNe, ne_eq, not_false_eq_true, decide_true, decide_false, bin_mul, bin_fdiv, bin_mod, bin_addl, bin_addt, bin_shl, bin_shr, bin_band, bin_bor, tru_b, tru_i, tru_l, tru_t, tru_o, tru_n, len_l, len_t, len_o, item_l, item_t, item_o, item_b0, item_b1, item_b2, at0, at1, at2, at3, at4, at5, atm1, blt_abs, blt_int, blt_intb, blt_tl, blt_tt, blt_ll, blt_lt, blt_sum, blt_all, blt_any, blt_min2, blt_max2, put_b0, put_b1, put_b2, szOk_0, szOk_1, szOk_n, Nat.reduceLeDiff, bin_mul2, bin_pow, Bool.not_true, Bool.not_false, wp_some, Nx_nx, Rt_rt, Option.toList_some, Option.toList_none, ev_lcR, lcR_nil, rangeD_map, zipW_map, enum_map, zip_tt, zip_tl, zip_lt, zip_ll, iter_t, iter_l, iter_o, lst_l, lst_o, seq_sq, iter_sq, len_sq, item_sq, list_sq, tuple_sq, zip_sq, pairD, step_no, stepC_eq, st_cmp, st_chain, st_and, st_or, st_not, st_isi, st_call, st_bl, st_var, setQ, and_self]]
    simp only [ev_var, ev_con, ev_bin, ev_neg, ev_not, ev_cmp, ev_chain, ev_and, ev_or, ev_ite, ev_tup, ev_lst, ev_call, ev_callk, ev_bl, ev_len, ev_bits, ev_isi, ev_sub, ev_slc, ev_callb, ev_sset, ev_rev, rev_l, rev_o, ea_nil, ea_cons, ei_rng1, ei_rng2, ei_zip, ei_enum, ei_it, sq_skip, sq_seq, sq_asg, sq_tas, sq_par, sq_setix, sq_app, sq_ite, sq_ret, sq_retn, sq_pass, sq_cont, sq_brk, sq_aug_add, ex_skip, evP, setRs, evRet, pk, peek, rd, setAll, bindT, wipeE, unwipe, noOwn, condOf, isNo, RV.pd, RV.frz, canPut, entryE, List.length_cons, List.length_nil, List.map_cons, List.map_nil, List.cons_append, List.nil_append, List.append_nil, Nat.sub_self, Nat.reduceSub, Nat.reduceAdd, Nat.zero_add, List.replicate_succ, List.replicate_zero, List.getElem?_cons_zero, List.getElem?_cons_succ, List.set_cons_zero, List.set_cons_succ, List.getD_cons_zero, List.getD_cons_succ, mapM_pd_nil, mapM_pd_cons, permL_nil, permL_cons, Option.map_some, Option.map_none, Option.bind_some, Option.pure_def, Option.bind_eq_bind, Bool.false_eq_true, if_true, if_false, ite_true, ite_false, reduceIte, reduceCtorEq, cmp_lt, cmp_le, cmp_gt, cmp_ge, cmp_eq_i, cmp_ne_i, cmp_eq_b, cmp_ne_b, cmp_eq_s, cmp_ne_s, cmp_eq_nn, cmp_is, cmp_isnot, isNone_none, isNone_bool, isNone_int, isNone_str, isNone_list, isNone_tuple, bin_add, bin_sub, mulOk_n, mulOk_m, divOk_n, Nat.reduceLT, Int.reduceEq, Int.reduceNe, ne_eq, not_false_eq_true, decide_true, decide_false, bin_mul, bin_fdiv, bin_mod, bin_addl, bin_addt, bin_shl, bin_shr, bin_band, bin_bor, tru_b, tru_i, tru_l, tru_t, tru_o, tru_n, len_l, len_t, len_o, item_l, item_t, item_o, item_b0, item_b1, item_b2, at0, at1, at2, at3, at4, at5, atm1, blt_abs, blt_int, blt_intb, blt_tl, blt_tt, blt_ll, blt_lt, blt_sum, blt_all, blt_any, blt_min2, blt_max2, put_b0, put_b1, put_b2, szOk_0, szOk_1, szOk_n, Nat.reduceLeDiff, bin_mul2, bin_pow, Bool.not_true, Bool.not_false, wp_some, Nx_nx, Rt_rt, Option.toList_some, Option.toList_none, ev_lcR, lcR_nil, rangeD_map, zipW_map, enum_map, zip_tt, zip_tl, zip_lt, zip_ll, iter_t, iter_l, iter_o, lst_l, lst_o, seq_sq, iter_sq, len_sq, item_sq, list_sq, tuple_sq, zip_sq, pairD, step_no, stepC_eq, st_cmp, st_chain, st_and, st_or, st_not, st_isi, st_call, st_bl, st_var, setQ, List.length_map, sz, fin, and_self]
/-- the equation of two places -/
def eqD (l : Nest) (r1 : List Int) (n1 : Int) (r2 : List Int) (n2 : Int) : PyData :=
  .tuple [.tuple (((nz (rowsZ l r1 r2)).map (·.1)).map .int), .tuple (((nz (rowsZ l r1 r2)).map (·.2)).map .int), .int (n2 - n1)]
theorem rowsZ_len (hl : l.length ≤ 1000000) : (rowsZ l r1 r2).length ≤ 16777216 := by
  unfold rowsZ rowsB
  rw [List.length_append, List.length_map, List.length_map, List.length_map, List.length_zip, List.length_zip]; omega
theorem nz_len {l : List (Int × Int)} : (nz l).length ≤ l.length := List.length_filter_le ..
theorem eq_call {ar : Nat} (h : Is T i 3 6 (B_equation_of ar)) (h1 : Is T ar 3 7 B_all_rows) (hl : l.length ≤ 1000000) : callN T fu (n + 2) i [.dat (nestD t l), .dat (spotD u r1 n1), .dat (spotD v r2 n2)] bx = some (.dat (eqD l r1 n1 r2 n2), bx) := by
  refine run_wp h rfl ?_
  have rl := rowsZ_len (r1 := r1) (r2 := r2) hl
  have nl : (nz (rowsZ l r1 r2)).length ≤ 16777216 := Nat.le_trans nz_len rl
  have a := rows_call (n := n) (fu := fu) (bx := bx) (t := t) (u := u) (v := v) (r1 := r1) (n1 := n1) (r2 := r2) (n2 := n2) h1 hl
  unfold eqD
  have fl : ∀ l : List (Int × Int), (l.filter fun p => p.1 != 0).map (fun p => p) = nz l := fun l => List.map_id _
  simp only [B_equation_of, ent, ev_var, ev_con, ev_bin, ev_neg, ev_not, ev_cmp, ev_chain, ev_and, ev_or, ev_ite, ev_tup, ev_lst, ev_call, ev_callk, ev_bl, ev_len, ev_bits, ev_isi, ev_sub, ev_slc, ev_callb, ev_sset, ev_rev, rev_l, rev_o, ea_nil, ea_cons, ei_rng1, ei_rng2, ei_zip, ei_enum, ei_it, sq_skip, sq_seq, sq_asg, sq_tas, sq_par, sq_setix, sq_app, sq_ite, sq_ret, sq_retn, sq_pass, sq_cont, sq_brk, sq_aug_add, ex_skip, evP, setRs, evRet, pk, peek, rd, setAll, bindT, wipeE, unwipe, noOwn, condOf, isNo, RV.pd, RV.frz, canPut, entryE, List.length_cons, List.length_nil, List.map_cons, List.map_nil, List.cons_append, List.nil_append, List.append_nil, Nat.sub_self, Nat.reduceSub, Nat.reduceAdd, Nat.zero_add, List.replicate_succ, List.replicate_zero, List.getElem?_cons_zero, List.getElem?_cons_succ, List.set_cons_zero, List.set_cons_succ, List.getD_cons_zero, List.getD_cons_succ, mapM_pd_nil, mapM_pd_cons, permL_nil, permL_cons, Option.map_some, Option.map_none, Option.bind_some, Option.pure_def, Option.bind_eq_bind, Bool.false_eq_true, if_true, if_false, ite_true, ite_false, reduceIte, reduceCtorEq, cmp_lt, cmp_le, cmp_gt, cmp_ge, cmp_eq_i, cmp_ne_i, cmp_eq_b, cmp_ne_b, cmp_eq_s, cmp_ne_s, cmp_eq_nn, cmp_is, cmp_isnot, isNone_none, isNone_bool, isNone_int, isNone_str, isNone_list, isNone_tuple, bin_add, bin_sub, mulOk_n, mulOk_m, divOk_n, Nat.reduceLT, Int.reduceEq, Int.reduceNe, ne_eq, not_false_eq_true, decide_true, decide_false, bin_mul, bin_fdiv, bin_mod, bin_addl, bin_addt, bin_shl, bin_shr, bin_band, bin_bor, tru_b, tru_i, tru_l, tru_t, tru_o, tru_n, len_l, len_t, len_o, item_l, item_t, item_o, item_b0, item_b1, item_b2, at0, at1, at2, at3, at4, at5, atm1, blt_abs, blt_int, blt_intb, blt_tl, blt_tt, blt_ll, blt_lt, blt_sum, blt_all, blt_any, blt_min2, blt_max2, put_b0, put_b1, put_b2, szOk_0, szOk_1, szOk_n, Nat.reduceLeDiff, bin_mul2, bin_pow, Bool.not_true, Bool.not_false, wp_some, Nx_nx, Rt_rt, Option.toList_some, Option.toList_none, ev_lcR, lcR_nil, rangeD_map, zipW_map, enum_map, zip_tt, zip_tl, zip_lt, zip_ll, iter_t, iter_l, iter_o, lst_l, lst_o, seq_sq, iter_sq, len_sq, item_sq, list_sq, tuple_sq, zip_sq, pairD, step_no, stepC_eq, st_cmp, st_chain, st_and, st_or, st_not, st_isi, st_call, st_bl, st_var, setQ, a]
  rw [lcR_F (fun p : Int × Int => p.1 != 0) (fun p => p) pairZ rl fun p hp => by
    by_cases q : p.1 = 0
    · simp only [pairZ, q, ev_var, ev_con, ev_bin, ev_neg, ev_not, ev_cmp, ev_chain, ev_and, ev_or, ev_ite, ev_tup, ev_lst, ev_call, ev_callk, ev_bl, ev_len, ev_bits, ev_isi, ev_sub, ev_slc, ev_callb, ev_sset, ev_rev, rev_l, rev_o, ea_nil, ea_cons, ei_rng1, ei_rng2, ei_zip, ei_enum, ei_it, sq_skip, sq_seq, sq_asg, sq_tas, sq_par, sq_setix, sq_app, sq_ite, sq_ret, sq_retn, sq_pass, sq_cont, sq_brk, sq_aug_add, ex_skip, evP, setRs, evRet, pk, peek, rd, setAll, bindT, wipeE, unwipe, noOwn, condOf, isNo, RV.pd, RV.frz, canPut, entryE, List.length_cons, List.length_nil, List.map_cons, List.map_nil, List.cons_append, List.nil_append, List.append_nil, Nat.sub_self, Nat.reduceSub, Nat.reduceAdd, Nat.zero_add, List.replicate_succ, List.replicate_zero, List.getElem?_cons_zero, List.getElem?_cons_succ, List.set_cons_zero, List.set_cons_succ, List.getD_cons_zero, List.getD_cons_succ, mapM_pd_nil, mapM_pd_cons, permL_nil, permL_cons, Option.map_some, Option.map_none, Option.bind_some, Option.pure_def, Option.bind_eq_bind, Bool.false_eq_true, if_true, if_false, ite_true, ite_false, reduceIte, reduceCtorEq, cmp_lt, cmp_le, cmp_gt, cmp_ge, cmp_eq_i, cmp_ne_i, cmp_eq_b, cmp_ne_b, cmp_eq_s, cmp_ne_s, cmp_eq_nn, cmp_is, cmp_isnot, isNone_none, isNone_bool, isNone_int, isNone_str, isNone_list, isNone_tuple, bin_add, bin_sub, mulOk_n, mulOk_m, divOk_n, Nat.reduceLT, Int.reduceEq, Int.reduceNe, ne_eq, not_false_eq_true, decide_true, decide_false, bin_mul, bin_fdiv, bin_mod, bin_addl, bin_addt, bin_shl, bin_shr, bin_band, bin_bor, tru_b, tru_i, tru_l, tru_t, tru_o, tru_n, len_l, len_t, len_o, item_l, item_t, item_o, item_b0, item_b1, item_b2, at0, at1, at2, at3, at4, at5, atm1, blt_abs, blt_int, blt_intb, blt_tl, blt_tt, blt_ll, blt_lt, blt_sum, blt_all, blt_any, blt_min2, blt_max2, put_b0, put_b1, put_b2, szOk_0, szOk_1, szOk_n, Nat.reduceLeDiff, bin_mul2, bin_pow, Bool.not_true, Bool.not_false, wp_some, Nx_nx, Rt_rt, Option.toList_some, Option.toList_none, ev_lcR, lcR_nil, rangeD_map, zipW_map, enum_map, zip_tt, zip_tl, zip_lt, zip_ll, iter_t, iter_l, iter_o, lst_l, lst_o, seq_sq, iter_sq, len_sq, item_sq, list_sq, tuple_sq, zip_sq, pairD, step_no, stepC_eq, st_cmp, st_chain, st_and, st_or, st_not, st_isi, st_call, st_bl, st_var, setQ, bne_self_eq_false, and_self]
    · simp only [pairZ, ev_var, ev_con, ev_bin, ev_neg, ev_not, ev_cmp, ev_chain, ev_and, ev_or, ev_ite, ev_tup, ev_lst, ev_call, ev_callk, ev_bl, ev_len, ev_bits, ev_isi, ev_sub, ev_slc, ev_callb, ev_sset, ev_rev, rev_l, rev_o, ea_nil, ea_cons, ei_rng1, ei_rng2, ei_zip, ei_enum, ei_it, sq_skip, sq_seq, sq_asg, sq_tas, sq_par, sq_setix, sq_app, sq_ite, sq_ret, sq_retn, sq_pass, sq_cont, sq_brk, sq_aug_add, ex_skip, evP, setRs, evRet, pk, peek, rd, setAll, bindT, wipeE, unwipe, noOwn, condOf, isNo, RV.pd, RV.frz, canPut, entryE, List.length_cons, List.length_nil, List.map_cons, List.map_nil, List.cons_append, List.nil_append, List.append_nil, Nat.sub_self, Nat.reduceSub, Nat.reduceAdd, Nat.zero_add, List.replicate_succ, List.replicate_zero, List.getElem?_cons_zero, List.getElem?_cons_succ, List.set_cons_zero, List.set_cons_succ, List.getD_cons_zero, List.getD_cons_succ, mapM_pd_nil, mapM_pd_cons, permL_nil, permL_cons, Option.map_some, Option.map_none, Option.bind_some, Option.pure_def, Option.bind_eq_bind, Bool.false_eq_true, if_true, if_false, ite_true, ite_false, reduceIte, reduceCtorEq, cmp_lt, cmp_le, cmp_gt, cmp_ge, cmp_eq_i, cmp_ne_i, cmp_eq_b, cmp_ne_b, cmp_eq_s, cmp_ne_s, cmp_eq_nn, cmp_is, cmp_isnot, isNone_none, isNone_bool, isNone_int, isNone_str, isNone_list, isNone_tuple, bin_add, bin_sub, mulOk_n, mulOk_m, divOk_n, Nat.reduceLT, Int.reduceEq, Int.reduceNe, ne_eq, not_false_eq_true, decide_true, decide_false, bin_mul, bin_fdiv, bin_mod, bin_addl, bin_addt, bin_shl, bin_shr, bin_band, bin_bor, tru_b, tru_i, tru_l, tru_t, tru_o, tru_n, len_l, len_t, len_o, item_l, item_t, item_o, item_b0, item_b1, item_b2, at0, at1, at2, at3, at4, at5, atm1, blt_abs, blt_int, blt_intb, blt_tl, blt_tt, blt_ll, blt_lt, blt_sum, blt_all, blt_any, blt_min2, blt_max2, put_b0, put_b1, put_b2, szOk_0, szOk_1, szOk_n, Nat.reduceLeDiff, bin_mul2, bin_pow, Bool.not_true, Bool.not_false, wp_some, Nx_nx, Rt_rt, Option.toList_some, Option.toList_none, ev_lcR, lcR_nil, rangeD_map, zipW_map, enum_map, zip_tt, zip_tl, zip_lt, zip_ll, iter_t, iter_l, iter_o, lst_l, lst_o, seq_sq, iter_sq, len_sq, item_sq, list_sq, tuple_sq, zip_sq, pairD, step_no, stepC_eq, st_cmp, st_chain, st_and, st_or, st_not, st_isi, st_call, st_bl, st_var, setQ, q, bne_iff_ne, and_self]]
  rw [fl]
  simp only [ev_var, ev_con, ev_bin, ev_neg, ev_not, ev_cmp, ev_chain, ev_and, ev_or, ev_ite, ev_tup, ev_lst, ev_call, ev_callk, ev_bl, ev_len, ev_bits, ev_isi, ev_sub, ev_slc, ev_callb, ev_sset, ev_rev, rev_l, rev_o, ea_nil, ea_cons, ei_rng1, ei_rng2, ei_zip, ei_enum, ei_it, sq_skip, sq_seq, sq_asg, sq_tas, sq_par, sq_setix, sq_app, sq_ite, sq_ret, sq_retn, sq_pass, sq_cont, sq_brk, sq_aug_add, ex_skip, evP, setRs, evRet, pk, peek, rd, setAll, bindT, wipeE, unwipe, noOwn, condOf, isNo, RV.pd, RV.frz, canPut, entryE, List.length_cons, List.length_nil, List.map_cons, List.map_nil, List.cons_append, List.nil_append, List.append_nil, Nat.sub_self, Nat.reduceSub, Nat.reduceAdd, Nat.zero_add, List.replicate_succ, List.replicate_zero, List.getElem?_cons_zero, List.getElem?_cons_succ, List.set_cons_zero, List.set_cons_succ, List.getD_cons_zero, List.getD_cons_succ, mapM_pd_nil, mapM_pd_cons, permL_nil, permL_cons, Option.map_some, Option.map_none, Option.bind_some, Option.pure_def, Option.bind_eq_bind, Bool.false_eq_true, if_true, if_false, ite_true, ite_false, reduceIte, reduceCtorEq, cmp_lt, cmp_le, cmp_gt, cmp_ge, cmp_eq_i, cmp_ne_i, cmp_eq_b, cmp_ne_b, cmp_eq_s, cmp_ne_s, cmp_eq_nn, cmp_is, cmp_isnot, isNone_none, isNone_bool, isNone_int, isNone_str, isNone_list, isNone_tuple, bin_add, bin_sub, mulOk_n, mulOk_m, divOk_n, Nat.reduceLT, Int.reduceEq, Int.reduceNe, ne_eq, not_false_eq_true, decide_true, decide_false, bin_mul, bin_fdiv, bin_mod, bin_addl, bin_addt, bin_shl, bin_shr, bin_band, bin_bor, tru_b, tru_i, tru_l, tru_t, tru_o, tru_n, len_l, len_t, len_o, item_l, item_t, item_o, item_b0, item_b1, item_b2, at0, at1, at2, at3, at4, at5, atm1, blt_abs, blt_int, blt_intb, blt_tl, blt_tt, blt_ll, blt_lt, blt_sum, blt_all, blt_any, blt_min2, blt_max2, put_b0, put_b1, put_b2, szOk_0, szOk_1, szOk_n, Nat.reduceLeDiff, bin_mul2, bin_pow, Bool.not_true, Bool.not_false, wp_some, Nx_nx, Rt_rt, Option.toList_some, Option.toList_none, ev_lcR, lcR_nil, rangeD_map, zipW_map, enum_map, zip_tt, zip_tl, zip_lt, zip_ll, iter_t, iter_l, iter_o, lst_l, lst_o, seq_sq, iter_sq, len_sq, item_sq, list_sq, tuple_sq, zip_sq, pairD, step_no, stepC_eq, st_cmp, st_chain, st_and, st_or, st_not, st_isi, st_call, st_bl, st_var, setQ]
  rw [lcR_A (fun p : Int × Int => p.1) PyData.int nl fun p hp => by simp only [pairZ, ev_var, ev_con, ev_bin, ev_neg, ev_not, ev_cmp, ev_chain, ev_and, ev_or, ev_ite, ev_tup, ev_lst, ev_call, ev_callk, ev_bl, ev_len, ev_bits, ev_isi, ev_sub, ev_slc, ev_callb, ev_sset, ev_rev, rev_l, rev_o, ea_nil, ea_cons, ei_rng1, ei_rng2, ei_zip, ei_enum, ei_it, sq_skip, sq_seq, sq_asg, sq_tas, sq_par, sq_setix, sq_app, sq_ite, sq_ret, sq_retn, sq_pass, sq_cont, sq_brk, sq_aug_add, ex_skip, evP, setRs, evRet, pk, peek, rd, setAll, bindT, wipeE, unwipe, noOwn, condOf, isNo, RV.pd, RV.frz, canPut, entryE, List.length_cons, List.length_nil, List.map_cons, List.map_nil, List.cons_append, List.nil_append, List.append_nil, Nat.sub_self, Nat.reduceSub, Nat.reduceAdd, Nat.zero_add, List.replicate_succ, List.replicate_zero, List.getElem?_cons_zero, List.getElem?_cons_succ, List.set_cons_zero, List.set_cons_succ, List.getD_cons_zero, List.getD_cons_succ, mapM_pd_nil, mapM_pd_cons, permL_nil, permL_cons, Option.map_some, Option.map_none, Option.bind_some, Option.pure_def, Option.bind_eq_bind, Bool.false_eq_true, if_true, if_false, ite_true, ite_false, reduceIte, reduceCtorEq, cmp_lt, cmp_le, cmp_gt, cmp_ge, cmp_eq_i, cmp_ne_i, cmp_eq_b, cmp_ne_b, cmp_eq_s, cmp_ne_s, cmp_eq_nn, cmp_is, cmp_isnot, isNone_none, isNone_bool, isNone_int, isNone_str, isNone_list, isNone_tuple, bin_add, bin_sub, mulOk_n, mulOk_m, divOk_n, Nat.reduceLT, Int.reduceEq, Int.reduceNe, ne_eq, not_false_eq_true, decide_true, decide_false, bin_mul, bin_fdiv, bin_mod, bin_addl, bin_addt, bin_shl, bin_shr, bin_band, bin_bor, tru_b, tru_i, tru_l, tru_t, tru_o, tru_n, len_l, len_t, len_o, item_l, item_t, item_o, item_b0, item_b1, item_b2, at0, at1, at2, at3, at4, at5, atm1, blt_abs, blt_int, blt_intb, blt_tl, blt_tt, blt_ll, blt_lt, blt_sum, blt_all, blt_any, blt_min2, blt_max2, put_b0, put_b1, put_b2, szOk_0, szOk_1, szOk_n, Nat.reduceLeDiff, bin_mul2, bin_pow, Bool.not_true, Bool.not_false, wp_some, Nx_nx, Rt_rt, Option.toList_some, Option.toList_none, ev_lcR, lcR_nil, rangeD_map, zipW_map, enum_map, zip_tt, zip_tl, zip_lt, zip_ll, iter_t, iter_l, iter_o, lst_l, lst_o, seq_sq, iter_sq, len_sq, item_sq, list_sq, tuple_sq, zip_sq, pairD, step_no, stepC_eq, st_cmp, st_chain, st_and, st_or, st_not, st_isi, st_call, st_bl, st_var, setQ, and_self]]
  simp only [ev_var, ev_con, ev_bin, ev_neg, ev_not, ev_cmp, ev_chain, ev_and, ev_or, ev_ite, ev_tup, ev_lst, ev_call, ev_callk, ev_bl, ev_len, ev_bits, ev_isi, ev_sub, ev_slc, ev_callb, ev_sset, ev_rev, rev_l, rev_o, ea_nil, ea_cons, ei_rng1, ei_rng2, ei_zip, ei_enum, ei_it, sq_skip, sq_seq, sq_asg, sq_tas, sq_par, sq_setix, sq_app, sq_ite, sq_ret, sq_retn, sq_pass, sq_cont, sq_brk, sq_aug_add, ex_skip, evP, setRs, evRet, pk, peek, rd, setAll, bindT, wipeE, unwipe, noOwn, condOf, isNo, RV.pd, RV.frz, canPut, entryE, List.length_cons, List.length_nil, List.map_cons, List.map_nil, List.cons_append, List.nil_append, List.append_nil, Nat.sub_self, Nat.reduceSub, Nat.reduceAdd, Nat.zero_add, List.replicate_succ, List.replicate_zero, List.getElem?_cons_zero, List.getElem?_cons_succ, List.set_cons_zero, List.set_cons_succ, List.getD_cons_zero, List.getD_cons_succ, mapM_pd_nil, mapM_pd_cons, permL_nil, permL_cons, Option.map_some, Option.map_none, Option.bind_some, Option.pure_def, Option.bind_eq_bind, Bool.false_eq_true, if_true, if_false, ite_true, ite_false, reduceIte, reduceCtorEq, cmp_lt, cmp_le, cmp_gt, cmp_ge, cmp_eq_i, cmp_ne_i, cmp_eq_b, cmp_ne_b, cmp_eq_s, cmp_ne_s, cmp_eq_nn, cmp_is, cmp_isnot, isNone_none, isNone_bool, isNone_int, isNone_str, isNone_list, isNone_tuple, bin_add, bin_sub, mulOk_n, mulOk_m, divOk_n, Nat.reduceLT, Int.reduceEq, Int.reduceNe, ne_eq, not_false_eq_true, decide_true, decide_false, bin_mul, bin_fdiv, bin_mod, bin_addl, bin_addt, bin_shl, bin_shr, bin_band, bin_bor, tru_b, tru_i, tru_l, tru_t, tru_o, tru_n, len_l, len_t, len_o, item_l, item_t, item_o, item_b0, item_b1, item_b2, at0, at1, at2, at3, at4, at5, atm1, blt_abs, blt_int, blt_intb, blt_tl, blt_tt, blt_ll, blt_lt, blt_sum, blt_all, blt_any, blt_min2, blt_max2, put_b0, put_b1, put_b2, szOk_0, szOk_1, szOk_n, Nat.reduceLeDiff, bin_mul2, bin_pow, Bool.not_true, Bool.not_false, wp_some, Nx_nx, Rt_rt, Option.toList_some, Option.toList_none, ev_lcR, lcR_nil, rangeD_map, zipW_map, enum_map, zip_tt, zip_tl, zip_lt, zip_ll, iter_t, iter_l, iter_o, lst_l, lst_o, seq_sq, iter_sq, len_sq, item_sq, list_sq, tuple_sq, zip_sq, pairD, step_no, stepC_eq, st_cmp, st_chain, st_and, st_or, st_not, st_isi, st_call, st_bl, st_var, setQ]
  rw [lcR_A (fun p : Int × Int => p.2) PyData.int nl fun p hp => by simp only [pairZ, ev_var, ev_con, ev_bin, ev_neg, ev_not, ev_cmp, ev_chain, ev_and, ev_or, ev_ite, ev_tup, ev_lst, ev_call, ev_callk, ev_bl, ev_len, ev_bits, ev_isi, ev_sub, ev_slc, ev_callb, ev_sset, ev_rev, rev_l, rev_o, ea_nil, ea_cons, ei_rng1, ei_rng2, ei_zip, ei_enum, ei_it, sq_skip, sq_seq, sq_asg, sq_tas, sq_par, sq_setix, sq_app, sq_ite, sq_ret, sq_retn, sq_pass, sq_cont, sq_brk, sq_aug_add, ex_skip, evP, setRs, evRet, pk, peek, rd, setAll, bindT, wipeE, unwipe, noOwn, condOf, isNo, RV.pd, RV.frz, canPut, entryE, List.length_cons, List.length_nil, List.map_cons, List.map_nil, List.cons_append, List.nil_append, List.append_nil, Nat.sub_self, Nat.reduceSub, Nat.reduceAdd, Nat.zero_add, List.replicate_succ, List.replicate_zero, List.getElem?_cons_zero, List.getElem?_cons_succ, List.set_cons_zero, List.set_cons_succ, List.getD_cons_zero, List.getD_cons_succ, mapM_pd_nil, mapM_pd_cons, permL_nil, permL_cons, Option.map_some, Option.map_none, Option.bind_some, Option.pure_def, Option.bind_eq_bind, Bool.false_eq_true, if_true, if_false, ite_true, ite_false, reduceIte, reduceCtorEq, cmp_lt, cmp_le, cmp_gt, cmp_ge, cmp_eq_i, cmp_ne_i, cmp_eq_b, cmp_ne_b, cmp_eq_s, cmp_ne_s, cmp_eq_nn, cmp_is, cmp_isnot, isNone_none, isNone_bool, isNone_int, isNone_str, isNone_list, isNone_tuple, bin_add, bin_sub, mulOk_n, mulOk_m, divOk_n, Nat.reduceLT, Int.reduceEq, Int.reduceNe, ne_eq, not_false_eq_true, decide_true, decide_false, bin_mul, bin_fdiv, bin_mod, bin_addl, bin_addt, bin_shl, bin_shr, bin_band, bin_bor, tru_b, tru_i, tru_l, tru_t, tru_o, tru_n, len_l, len_t, len_o, item_l, item_t, item_o, item_b0, item_b1, item_b2, at0, at1, at2, at3, at4, at5, atm1, blt_abs, blt_int, blt_intb, blt_tl, blt_tt, blt_ll, blt_lt, blt_sum, blt_all, blt_any, blt_min2, blt_max2, put_b0, put_b1, put_b2, szOk_0, szOk_1, szOk_n, Nat.reduceLeDiff, bin_mul2, bin_pow, Bool.not_true, Bool.not_false, wp_some, Nx_nx, Rt_rt, Option.toList_some, Option.toList_none, ev_lcR, lcR_nil, rangeD_map, zipW_map, enum_map, zip_tt, zip_tl, zip_lt, zip_ll, iter_t, iter_l, iter_o, lst_l, lst_o, seq_sq, iter_sq, len_sq, item_sq, list_sq, tuple_sq, zip_sq, pairD, step_no, stepC_eq, st_cmp, st_chain, st_and, st_or, st_not, st_isi, st_call, st_bl, st_var, setQ, and_self]]
  simp only [ev_var, ev_con, ev_bin, ev_neg, ev_not, ev_cmp, ev_chain, ev_and, ev_or, ev_ite, ev_tup, ev_lst, ev_call, ev_callk, ev_bl, ev_len, ev_bits, ev_isi, ev_sub, ev_slc, ev_callb, ev_sset, ev_rev, rev_l, rev_o, ea_nil, ea_cons, ei_rng1, ei_rng2, ei_zip, ei_enum, ei_it, sq_skip, sq_seq, sq_asg, sq_tas, sq_par, sq_setix, sq_app, sq_ite, sq_ret, sq_retn, sq_pass, sq_cont, sq_brk, sq_aug_add, ex_skip, evP, setRs, evRet, pk, peek, rd, setAll, bindT, wipeE, unwipe, noOwn, condOf, isNo, RV.pd, RV.frz, canPut, entryE, List.length_cons, List.length_nil, List.map_cons, List.map_nil, List.cons_append, List.nil_append, List.append_nil, Nat.sub_self, Nat.reduceSub, Nat.reduceAdd, Nat.zero_add, List.replicate_succ, List.replicate_zero, List.getElem?_cons_zero, List.getElem?_cons_succ, List.set_cons_zero, List.set_cons_succ, List.getD_cons_zero, List.getD_cons_succ, mapM_pd_nil, mapM_pd_cons, permL_nil, permL_cons, Option.map_some, Option.map_none, Option.bind_some, Option.pure_def, Option.bind_eq_bind, Bool.false_eq_true, if_true, if_false, ite_true, ite_false, reduceIte, reduceCtorEq, cmp_lt, cmp_le, cmp_gt, cmp_ge, cmp_eq_i, cmp_ne_i, cmp_eq_b, cmp_ne_b, cmp_eq_s, cmp_ne_s, cmp_eq_nn, cmp_is, cmp_isnot, isNone_none, isNone_bool, isNone_int, isNone_str, isNone_list, isNone_tuple, bin_add, bin_sub, mulOk_n, mulOk_m, divOk_n, Nat.reduceLT, Int.reduceEq, Int.reduceNe, ne_eq, not_false_eq_true, decide_true, decide_false, bin_mul, bin_fdiv, bin_mod, bin_addl, bin_addt, bin_shl, bin_shr, bin_band, bin_bor, tru_b, tru_i, tru_l, tru_t, tru_o, tru_n, len_l, len_t, len_o, item_l, item_t, item_o, item_b0, item_b1, item_b2, at0, at1, at2, at3, at4, at5, atm1, blt_abs, blt_int, blt_intb, blt_tl, blt_tt, blt_ll, blt_lt, blt_sum, blt_all, blt_any, blt_min2, blt_max2, put_b0, put_b1, put_b2, szOk_0, szOk_1, szOk_n, Nat.reduceLeDiff, bin_mul2, bin_pow, Bool.not_true, Bool.not_false, wp_some, Nx_nx, Rt_rt, Option.toList_some, Option.toList_none, ev_lcR, lcR_nil, rangeD_map, zipW_map, enum_map, zip_tt, zip_tl, zip_lt, zip_ll, iter_t, iter_l, iter_o, lst_l, lst_o, seq_sq, iter_sq, len_sq, item_sq, list_sq, tuple_sq, zip_sq, pairD, step_no, stepC_eq, st_cmp, st_chain, st_and, st_or, st_not, st_isi, st_call, st_bl, st_var, setQ]
  cases u <;> cases v <;> simp only [ev_var, ev_con, ev_bin, ev_neg, ev_not, ev_cmp, ev_chain, ev_and, ev_or, ev_ite, ev_tup, ev_lst, ev_call, ev_callk, ev_bl, ev_len, ev_bits, ev_isi, ev_sub, ev_slc, ev_callb, ev_sset, ev_rev, rev_l, rev_o, ea_nil, ea_cons, ei_rng1, ei_rng2, ei_zip, ei_enum, ei_it, sq_skip, sq_seq, sq_asg, sq_tas, sq_par, sq_setix, sq_app, sq_ite, sq_ret, sq_retn, sq_pass, sq_cont, sq_brk, sq_aug_add, ex_skip, evP, setRs, evRet, pk, peek, rd, setAll, bindT, wipeE, unwipe, noOwn, condOf, isNo, RV.pd, RV.frz, canPut, entryE, List.length_cons, List.length_nil, List.map_cons, List.map_nil, List.cons_append, List.nil_append, List.append_nil, Nat.sub_self, Nat.reduceSub, Nat.reduceAdd, Nat.zero_add, List.replicate_succ, List.replicate_zero, List.getElem?_cons_zero, List.getElem?_cons_succ, List.set_cons_zero, List.set_cons_succ, List.getD_cons_zero, List.getD_cons_succ, mapM_pd_nil, mapM_pd_cons, permL_nil, permL_cons, Option.map_some, Option.map_none, Option.bind_some, Option.pure_def, Option.bind_eq_bind, Bool.false_eq_true, if_true, if_false, ite_true, ite_false, reduceIte, reduceCtorEq, cmp_lt, cmp_le, cmp_gt, cmp_ge, cmp_eq_i, cmp_ne_i, cmp_eq_b, cmp_ne_b, cmp_eq_s, cmp_ne_s, cmp_eq_nn, cmp_is, cmp_isnot, isNone_none, isNone_bool, isNone_int, isNone_str, isNone_list, isNone_tuple, bin_add, bin_sub, mulOk_n, mulOk_m, divOk_n, Nat.reduceLT, Int.reduceEq, Int.reduceNe, ne_eq, not_false_eq_true, decide_true, decide_false, bin_mul, bin_fdiv, bin_mod, bin_addl, bin_addt, bin_shl, bin_shr, bin_band, bin_bor, tru_b, tru_i, tru_l, tru_t, tru_o, tru_n, len_l, len_t, len_o, item_l, item_t, item_o, item_b0, item_b1, item_b2, at0, at1, at2, at3, at4, at5, atm1, blt_abs, blt_int, blt_intb, blt_tl, blt_tt, blt_ll, blt_lt, blt_sum, blt_all, blt_any, blt_min2, blt_max2, put_b0, put_b1, put_b2, szOk_0, szOk_1, szOk_n, Nat.reduceLeDiff, bin_mul2, bin_pow, Bool.not_true, Bool.not_false, wp_some, Nx_nx, Rt_rt, Option.toList_some, Option.toList_none, ev_lcR, lcR_nil, rangeD_map, zipW_map, enum_map, zip_tt, zip_tl, zip_lt, zip_ll, iter_t, iter_l, iter_o, lst_l, lst_o, seq_sq, iter_sq, len_sq, item_sq, list_sq, tuple_sq, zip_sq, pairD, step_no, stepC_eq, st_cmp, st_chain, st_and, st_or, st_not, st_isi, st_call, st_bl, st_var, setQ, spotD, sq, and_self]
/-! ### cells of a place -/
def cellsZ (l : Nest) (row : List Int) (num : Int) : List Int := (sumsP (nz (rowsB row l))).map fun x => x + num
theorem rowsB_len (hl : l.length ≤ 1000000) : (rowsB row l).length ≤ 1000000 := by unfold rowsB; rw [List.length_map, List.length_zip]; omega
theorem zip_split : ∀ m : List (Int × Int), (m.map (·.1)).zip (m.map (·.2)) = m
  | [] => rfl
  | p :: m => by rw [List.map_cons, List.map_cons, List.zip_cons_cons, zip_split m]
theorem cells_call2 {sm mk_ ma ls : Nat} (h : Is T i 2 6 (B_cells_of sm)) (h0 : Is T sm 2 5 (B_sums mk_ ma ls)) (h1 : Is T ls 2 4 B_least_sum) (h2 : Is T mk_ 2 2 B_is_marked) (h3 : Is T ma 2 9 B_marks_along) (hf : 1000 ≤ fu) (hl : l.length ≤ 100)
    (hs : Sm (nz (rowsB row l))) (hw : widP (nz (rowsB row l)) ≤ 1000000) : callN T fu (n + 3) i [.dat (nestD t l), .dat (spotD u row num)] bx = some (.own ((cellsZ l row num).map .int), bx) := by
  refine run_wp h rfl ?_
  have zl : (row.zip l).length ≤ 16777216 := by rw [List.length_zip]; omega
  have nl : (nz (rowsB row l)).length ≤ 100 := Nat.le_trans nz_len (by unfold rowsB; rw [List.length_map, List.length_zip]; omega)
  have a := sums_call (n := n) (fu := fu) (bx := bx) (t := false) (u := false) (cs := (nz (rowsB row l)).map (·.1)) (bs := (nz (rowsB row l)).map (·.2)) h0 h1 h2 h3 hf (by rw [zip_split]; exact hs) (fun c hc => by
    obtain ⟨p, hp, rfl⟩ := List.mem_map.mp hc
    have := hs p hp; omega) (by rw [List.length_map]; exact nl) (by rw [zip_split]; exact hw)
  rw [zip_split] at a
  have a : callN T fu (n + 2) sm [.dat (.list (((nz (rowsB row l)).map (·.1)).map .int)), .dat (.list (((nz (rowsB row l)).map (·.2)).map .int))] bx = _ := a
  have lenS : (sumsP (nz (rowsB row l))).length ≤ 16777216 := by have := sumsP_len hs.nn; omega
  have fl : (((row.zip l).filter fun p => p.1 != 0).map fun p => (p.1, p.2.2)) = nz (rowsB row l) := by
    unfold nz rowsB
    rw [List.filter_map]; rfl
  cases t <;> cases u
  all_goals
    simp only [B_cells_of, ent, ev_var, ev_con, ev_bin, ev_neg, ev_not, ev_cmp, ev_chain, ev_and, ev_or, ev_ite, ev_tup, ev_lst, ev_call, ev_callk, ev_bl, ev_len, ev_bits, ev_isi, ev_sub, ev_slc, ev_callb, ev_sset, ev_rev, rev_l, rev_o, ea_nil, ea_cons, ei_rng1, ei_rng2, ei_zip, ei_enum, ei_it, sq_skip, sq_seq, sq_asg, sq_tas, sq_par, sq_setix, sq_app, sq_ite, sq_ret, sq_retn, sq_pass, sq_cont, sq_brk, sq_aug_add, ex_skip, evP, setRs, evRet, pk, peek, rd, setAll, bindT, wipeE, unwipe, noOwn, condOf, isNo, RV.pd, RV.frz, canPut, entryE, List.length_cons, List.length_nil, List.map_cons, List.map_nil, List.cons_append, List.nil_append, List.append_nil, Nat.sub_self, Nat.reduceSub, Nat.reduceAdd, Nat.zero_add, List.replicate_succ, List.replicate_zero, List.getElem?_cons_zero, List.getElem?_cons_succ, List.set_cons_zero, List.set_cons_succ, List.getD_cons_zero, List.getD_cons_succ, mapM_pd_nil, mapM_pd_cons, permL_nil, permL_cons, Option.map_some, Option.map_none, Option.bind_some, Option.pure_def, Option.bind_eq_bind, Bool.false_eq_true, if_true, if_false, ite_true, ite_false, reduceIte, reduceCtorEq, cmp_lt, cmp_le, cmp_gt, cmp_ge, cmp_eq_i, cmp_ne_i, cmp_eq_b, cmp_ne_b, cmp_eq_s, cmp_ne_s, cmp_eq_nn, cmp_is, cmp_isnot, isNone_none, isNone_bool, isNone_int, isNone_str, isNone_list, isNone_tuple, bin_add, bin_sub, mulOk_n, mulOk_m, divOk_n, Nat.reduceLT, Int.reduceEq, Int.reduceNe, ne_eq, not_false_eq_true, decide_true, decide_false, bin_mul, bin_fdiv, bin_mod, bin_addl, bin_addt, bin_shl, bin_shr, bin_band, bin_bor, tru_b, tru_i, tru_l, tru_t, tru_o, tru_n, len_l, len_t, len_o, item_l, item_t, item_o, item_b0, item_b1, item_b2, at0, at1, at2, at3, at4, at5, atm1, blt_abs, blt_int, blt_intb, blt_tl, blt_tt, blt_ll, blt_lt, blt_sum, blt_all, blt_any, blt_min2, blt_max2, put_b0, put_b1, put_b2, szOk_0, szOk_1, szOk_n, Nat.reduceLeDiff, bin_mul2, bin_pow, Bool.not_true, Bool.not_false, wp_some, Nx_nx, Rt_rt, Option.toList_some, Option.toList_none, ev_lcR, lcR_nil, rangeD_map, zipW_map, enum_map, zip_tt, zip_tl, zip_lt, zip_ll, iter_t, iter_l, iter_o, lst_l, lst_o, seq_sq, iter_sq, len_sq, item_sq, list_sq, tuple_sq, zip_sq, pairD, step_no, stepC_eq, st_cmp, st_chain, st_and, st_or, st_not, st_isi, st_call, st_bl, st_var, setQ, nestD, spotD, sq]
    rw [lcR_F (fun p : Int × (Str × Int) => p.1 != 0) (fun p => (p.1, p.2.2)) pairZ zl fun p hp => by
      by_cases q : p.1 = 0
      · simp only [rowD, sq, pairZ, q, ev_var, ev_con, ev_bin, ev_neg, ev_not, ev_cmp, ev_chain, ev_and, ev_or, ev_ite, ev_tup, ev_lst, ev_call, ev_callk, ev_bl, ev_len, ev_bits, ev_isi, ev_sub, ev_slc, ev_callb, ev_sset, ev_rev, rev_l, rev_o, ea_nil, ea_cons, ei_rng1, ei_rng2, ei_zip, ei_enum, ei_it, sq_skip, sq_seq, sq_asg, sq_tas, sq_par, sq_setix, sq_app, sq_ite, sq_ret, sq_retn, sq_pass, sq_cont, sq_brk, sq_aug_add, ex_skip, evP, setRs, evRet, pk, peek, rd, setAll, bindT, wipeE, unwipe, noOwn, condOf, isNo, RV.pd, RV.frz, canPut, entryE, List.length_cons, List.length_nil, List.map_cons, List.map_nil, List.cons_append, List.nil_append, List.append_nil, Nat.sub_self, Nat.reduceSub, Nat.reduceAdd, Nat.zero_add, List.replicate_succ, List.replicate_zero, List.getElem?_cons_zero, List.getElem?_cons_succ, List.set_cons_zero, List.set_cons_succ, List.getD_cons_zero, List.getD_cons_succ, mapM_pd_nil, mapM_pd_cons, permL_nil, permL_cons, Option.map_some, Option.map_none, Option.bind_some, Option.pure_def, Option.bind_eq_bind, Bool.false_eq_true, if_true, if_false, ite_true, ite_false, reduceIte, reduceCtorEq, cmp_lt, cmp_le, cmp_gt, cmp_ge, cmp_eq_i, cmp_ne_i, cmp_eq_b, cmp_ne_b, cmp_eq_s, cmp_ne_s, cmp_eq_nn, cmp_is, cmp_isnot, isNone_none, isNone_bool, isNone_int, isNone_str, isNone_list, isNone_tuple, bin_add, bin_sub, mulOk_n, mulOk_m, divOk_n, Nat.reduceLT, Int.reduceEq, Int.reduceNe, ne_eq, not_false_eq_true, decide_true, decide_false, bin_mul, bin_fdiv, bin_mod, bin_addl, bin_addt, bin_shl, bin_shr, bin_band, bin_bor, tru_b, tru_i, tru_l, tru_t, tru_o, tru_n, len_l, len_t, len_o, item_l, item_t, item_o, item_b0, item_b1, item_b2, at0, at1, at2, at3, at4, at5, atm1, blt_abs, blt_int, blt_intb, blt_tl, blt_tt, blt_ll, blt_lt, blt_sum, blt_all, blt_any, blt_min2, blt_max2, put_b0, put_b1, put_b2, szOk_0, szOk_1, szOk_n, Nat.reduceLeDiff, bin_mul2, bin_pow, Bool.not_true, Bool.not_false, wp_some, Nx_nx, Rt_rt, Option.toList_some, Option.toList_none, ev_lcR, lcR_nil, rangeD_map, zipW_map, enum_map, zip_tt, zip_tl, zip_lt, zip_ll, iter_t, iter_l, iter_o, lst_l, lst_o, seq_sq, iter_sq, len_sq, item_sq, list_sq, tuple_sq, zip_sq, pairD, step_no, stepC_eq, st_cmp, st_chain, st_and, st_or, st_not, st_isi, st_call, st_bl, st_var, setQ, bne_self_eq_false, and_self]
      · simp only [rowD, sq, pairZ, ev_var, ev_con, ev_bin, ev_neg, ev_not, ev_cmp, ev_chain, ev_and, ev_or, ev_ite, ev_tup, ev_lst, ev_call, ev_callk, ev_bl, ev_len, ev_bits, ev_isi, ev_sub, ev_slc, ev_callb, ev_sset, ev_rev, rev_l, rev_o, ea_nil, ea_cons, ei_rng1, ei_rng2, ei_zip, ei_enum, ei_it, sq_skip, sq_seq, sq_asg, sq_tas, sq_par, sq_setix, sq_app, sq_ite, sq_ret, sq_retn, sq_pass, sq_cont, sq_brk, sq_aug_add, ex_skip, evP, setRs, evRet, pk, peek, rd, setAll, bindT, wipeE, unwipe, noOwn, condOf, isNo, RV.pd, RV.frz, canPut, entryE, List.length_cons, List.length_nil, List.map_cons, List.map_nil, List.cons_append, List.nil_append, List.append_nil, Nat.sub_self, Nat.reduceSub, Nat.reduceAdd, Nat.zero_add, List.replicate_succ, List.replicate_zero, List.getElem?_cons_zero, List.getElem?_cons_succ, List.set_cons_zero, List.set_cons_succ, List.getD_cons_zero, List.getD_cons_succ, mapM_pd_nil, mapM_pd_cons, permL_nil, permL_cons, Option.map_some, Option.map_none, Option.bind_some, Option.pure_def, Option.bind_eq_bind, Bool.false_eq_true, if_true, if_false, ite_true, ite_false, reduceIte, reduceCtorEq, cmp_lt, cmp_le, cmp_gt, cmp_ge, cmp_eq_i, cmp_ne_i, cmp_eq_b, cmp_ne_b, cmp_eq_s, cmp_ne_s, cmp_eq_nn, cmp_is, cmp_isnot, isNone_none, isNone_bool, isNone_int, isNone_str, isNone_list, isNone_tuple, bin_add, bin_sub, mulOk_n, mulOk_m, divOk_n, Nat.reduceLT, Int.reduceEq, Int.reduceNe, ne_eq, not_false_eq_true, decide_true, decide_false, bin_mul, bin_fdiv, bin_mod, bin_addl, bin_addt, bin_shl, bin_shr, bin_band, bin_bor, tru_b, tru_i, tru_l, tru_t, tru_o, tru_n, len_l, len_t, len_o, item_l, item_t, item_o, item_b0, item_b1, item_b2, at0, at1, at2, at3, at4, at5, atm1, blt_abs, blt_int, blt_intb, blt_tl, blt_tt, blt_ll, blt_lt, blt_sum, blt_all, blt_any, blt_min2, blt_max2, put_b0, put_b1, put_b2, szOk_0, szOk_1, szOk_n, Nat.reduceLeDiff, bin_mul2, bin_pow, Bool.not_true, Bool.not_false, wp_some, Nx_nx, Rt_rt, Option.toList_some, Option.toList_none, ev_lcR, lcR_nil, rangeD_map, zipW_map, enum_map, zip_tt, zip_tl, zip_lt, zip_ll, iter_t, iter_l, iter_o, lst_l, lst_o, seq_sq, iter_sq, len_sq, item_sq, list_sq, tuple_sq, zip_sq, pairD, step_no, stepC_eq, st_cmp, st_chain, st_and, st_or, st_not, st_isi, st_call, st_bl, st_var, setQ, q, bne_iff_ne, and_self]]
    rw [fl]
    simp only [ev_var, ev_con, ev_bin, ev_neg, ev_not, ev_cmp, ev_chain, ev_and, ev_or, ev_ite, ev_tup, ev_lst, ev_call, ev_callk, ev_bl, ev_len, ev_bits, ev_isi, ev_sub, ev_slc, ev_callb, ev_sset, ev_rev, rev_l, rev_o, ea_nil, ea_cons, ei_rng1, ei_rng2, ei_zip, ei_enum, ei_it, sq_skip, sq_seq, sq_asg, sq_tas, sq_par, sq_setix, sq_app, sq_ite, sq_ret, sq_retn, sq_pass, sq_cont, sq_brk, sq_aug_add, ex_skip, evP, setRs, evRet, pk, peek, rd, setAll, bindT, wipeE, unwipe, noOwn, condOf, isNo, RV.pd, RV.frz, canPut, entryE, List.length_cons, List.length_nil, List.map_cons, List.map_nil, List.cons_append, List.nil_append, List.append_nil, Nat.sub_self, Nat.reduceSub, Nat.reduceAdd, Nat.zero_add, List.replicate_succ, List.replicate_zero, List.getElem?_cons_zero, List.getElem?_cons_succ, List.set_cons_zero, List.set_cons_succ, List.getD_cons_zero, List.getD_cons_succ, mapM_pd_nil, mapM_pd_cons, permL_nil, permL_cons, Option.map_some, Option.map_none, Option.bind_some, Option.pure_def, Option.bind_eq_bind, Bool.false_eq_true, if_true, if_false, ite_true, ite_false, reduceIte, reduceCtorEq, cmp_lt, cmp_le, cmp_gt, cmp_ge, cmp_eq_i, cmp_ne_i, cmp_eq_b, cmp_ne_b, cmp_eq_s, cmp_ne_s, cmp_eq_nn, cmp_is, cmp_isnot, isNone_none, isNone_bool, isNone_int, isNone_str, isNone_list, isNone_tuple, bin_add, bin_sub, mulOk_n, mulOk_m, divOk_n, Nat.reduceLT, Int.reduceEq, Int.reduceNe, ne_eq, not_false_eq_true, decide_true, decide_false, bin_mul, bin_fdiv, bin_mod, bin_addl, bin_addt, bin_shl, bin_shr, bin_band, bin_bor, tru_b, tru_i, tru_l, tru_t, tru_o, tru_n, len_l, len_t, len_o, item_l, item_t, item_o, item_b0, item_b1, item_b2, at0, at1, at2, at3, at4, at5, atm1, blt_abs, blt_int, blt_intb, blt_tl, blt_tt, blt_ll, blt_lt, blt_sum, blt_all, blt_any, blt_min2, blt_max2, put_b0, put_b1, put_b2, szOk_0, szOk_1, szOk_n, Nat.reduceLeDiff, bin_mul2, bin_pow, Bool.not_true, Bool.not_false, wp_some, Nx_nx, Rt_rt, Option.toList_some, Option.toList_none, ev_lcR, lcR_nil, rangeD_map, zipW_map, enum_map, zip_tt, zip_tl, zip_lt, zip_ll, iter_t, iter_l, iter_o, lst_l, lst_o, seq_sq, iter_sq, len_sq, item_sq, list_sq, tuple_sq, zip_sq, pairD, step_no, stepC_eq, st_cmp, st_chain, st_and, st_or, st_not, st_isi, st_call, st_bl, st_var, setQ]
    rw [lcR_A (fun p : Int × Int => p.1) PyData.int (by omega) fun p hp => by simp only [pairZ, ev_var, ev_con, ev_bin, ev_neg, ev_not, ev_cmp, ev_chain, ev_and, ev_or, ev_ite, ev_tup, ev_lst, ev_call, ev_callk, ev_bl, ev_len, ev_bits, ev_isi, ev_sub, ev_slc, ev_callb, ev_sset, ev_rev, rev_l, rev_o, ea_nil, ea_cons, ei_rng1, ei_rng2, ei_zip, ei_enum, ei_it, sq_skip, sq_seq, sq_asg, sq_tas, sq_par, sq_setix, sq_app, sq_ite, sq_ret, sq_retn, sq_pass, sq_cont, sq_brk, sq_aug_add, ex_skip, evP, setRs, evRet, pk, peek, rd, setAll, bindT, wipeE, unwipe, noOwn, condOf, isNo, RV.pd, RV.frz, canPut, entryE, List.length_cons, List.length_nil, List.map_cons, List.map_nil, List.cons_append, List.nil_append, List.append_nil, Nat.sub_self, Nat.reduceSub, Nat.reduceAdd, Nat.zero_add, List.replicate_succ, List.replicate_zero, List.getElem?_cons_zero, List.getElem?_cons_succ, List.set_cons_zero, List.set_cons_succ, List.getD_cons_zero, List.getD_cons_succ, mapM_pd_nil, mapM_pd_cons, permL_nil, permL_cons, Option.map_some, Option.map_none, Option.bind_some, Option.pure_def, Option.bind_eq_bind, Bool.false_eq_true, if_true, if_false, ite_true, ite_false, reduceIte, reduceCtorEq, cmp_lt, cmp_le, cmp_gt, cmp_ge, cmp_eq_i, cmp_ne_i, cmp_eq_b, cmp_ne_b, cmp_eq_s, cmp_ne_s, cmp_eq_nn, cmp_is, cmp_isnot, isNone_none, isNone_bool, isNone_int, isNone_str, isNone_list, isNone_tuple, bin_add, bin_sub, mulOk_n, mulOk_m, divOk_n, Nat.reduceLT, Int.reduceEq, Int.reduceNe, ne_eq, not_false_eq_true, decide_true, decide_false, bin_mul, bin_fdiv, bin_mod, bin_addl, bin_addt, bin_shl, bin_shr, bin_band, bin_bor, tru_b, tru_i, tru_l, tru_t, tru_o, tru_n, len_l, len_t, len_o, item_l, item_t, item_o, item_b0, item_b1, item_b2, at0, at1, at2, at3, at4, at5, atm1, blt_abs, blt_int, blt_intb, blt_tl, blt_tt, blt_ll, blt_lt, blt_sum, blt_all, blt_any, blt_min2, blt_max2, put_b0, put_b1, put_b2, szOk_0, szOk_1, szOk_n, Nat.reduceLeDiff, bin_mul2, bin_pow, Bool.not_true, Bool.not_false, wp_some, Nx_nx, Rt_rt, Option.toList_some, Option.toList_none, ev_lcR, lcR_nil, rangeD_map, zipW_map, enum_map, zip_tt, zip_tl, zip_lt, zip_ll, iter_t, iter_l, iter_o, lst_l, lst_o, seq_sq, iter_sq, len_sq, item_sq, list_sq, tuple_sq, zip_sq, pairD, step_no, stepC_eq, st_cmp, st_chain, st_and, st_or, st_not, st_isi, st_call, st_bl, st_var, setQ, and_self]]
    simp only [ev_var, ev_con, ev_bin, ev_neg, ev_not, ev_cmp, ev_chain, ev_and, ev_or, ev_ite, ev_tup, ev_lst, ev_call, ev_callk, ev_bl, ev_len, ev_bits, ev_isi, ev_sub, ev_slc, ev_callb, ev_sset, ev_rev, rev_l, rev_o, ea_nil, ea_cons, ei_rng1, ei_rng2, ei_zip, ei_enum, ei_it, sq_skip, sq_seq, sq_asg, sq_tas, sq_par, sq_setix, sq_app, sq_ite, sq_ret, sq_retn, sq_pass, sq_cont, sq_brk, sq_aug_add, ex_skip, evP, setRs, evRet, pk, peek, rd, setAll, bindT, wipeE, unwipe, noOwn, condOf, isNo, RV.pd, RV.frz, canPut, entryE, List.length_cons, List.length_nil, List.map_cons, List.map_nil, List.cons_append, List.nil_append, List.append_nil, Nat.sub_self, Nat.reduceSub, Nat.reduceAdd, Nat.zero_add, List.replicate_succ, List.replicate_zero, List.getElem?_cons_zero, List.getElem?_cons_succ, List.set_cons_zero, List.set_cons_succ, List.getD_cons_zero, List.getD_cons_succ, mapM_pd_nil, mapM_pd_cons, permL_nil, permL_cons, Option.map_some, Option.map_none, Option.bind_some, Option.pure_def, Option.bind_eq_bind, Bool.false_eq_true, if_true, if_false, ite_true, ite_false, reduceIte, reduceCtorEq, cmp_lt, cmp_le, cmp_gt, cmp_ge, cmp_eq_i, cmp_ne_i, cmp_eq_b, cmp_ne_b, cmp_eq_s, cmp_ne_s, cmp_eq_nn, cmp_is, cmp_isnot, isNone_none, isNone_bool, isNone_int, isNone_str, isNone_list, isNone_tuple, bin_add, bin_sub, mulOk_n, mulOk_m, divOk_n, Nat.reduceLT, Int.reduceEq, Int.reduceNe, ne_eq, not_false_eq_true, decide_true, decide_false, bin_mul, bin_fdiv, bin_mod, bin_addl, bin_addt, bin_shl, bin_shr, bin_band, bin_bor, tru_b, tru_i, tru_l, tru_t, tru_o, tru_n, len_l, len_t, len_o, item_l, item_t, item_o, item_b0, item_b1, item_b2, at0, at1, at2, at3, at4, at5, atm1, blt_abs, blt_int, blt_intb, blt_tl, blt_tt, blt_ll, blt_lt, blt_sum, blt_all, blt_any, blt_min2, blt_max2, put_b0, put_b1, put_b2, szOk_0, szOk_1, szOk_n, Nat.reduceLeDiff, bin_mul2, bin_pow, Bool.not_true, Bool.not_false, wp_some, Nx_nx, Rt_rt, Option.toList_some, Option.toList_none, ev_lcR, lcR_nil, rangeD_map, zipW_map, enum_map, zip_tt, zip_tl, zip_lt, zip_ll, iter_t, iter_l, iter_o, lst_l, lst_o, seq_sq, iter_sq, len_sq, item_sq, list_sq, tuple_sq, zip_sq, pairD, step_no, stepC_eq, st_cmp, st_chain, st_and, st_or, st_not, st_isi, st_call, st_bl, st_var, setQ]
    rw [lcR_A (fun p : Int × Int => p.2) PyData.int (by omega) fun p hp => by simp only [pairZ, ev_var, ev_con, ev_bin, ev_neg, ev_not, ev_cmp, ev_chain, ev_and, ev_or, ev_ite, ev_tup, ev_lst, ev_call, ev_callk, ev_bl, ev_len, ev_bits, ev_isi, ev_sub, ev_slc, ev_callb, ev_sset, ev_rev, rev_l, rev_o, ea_nil, ea_cons, ei_rng1, ei_rng2, ei_zip, ei_enum, ei_it, sq_skip, sq_seq, sq_asg, sq_tas, sq_par, sq_setix, sq_app, sq_ite, sq_ret, sq_retn, sq_pass, sq_cont, sq_brk, sq_aug_add, ex_skip, evP, setRs, evRet, pk, peek, rd, setAll, bindT, wipeE, unwipe, noOwn, condOf, isNo, RV.pd, RV.frz, canPut, entryE, List.length_cons, List.length_nil, List.map_cons, List.map_nil, List.cons_append, List.nil_append, List.append_nil, Nat.sub_self, Nat.reduceSub, Nat.reduceAdd, Nat.zero_add, List.replicate_succ, List.replicate_zero, List.getElem?_cons_zero, List.getElem?_cons_succ, List.set_cons_zero, List.set_cons_succ, List.getD_cons_zero, List.getD_cons_succ, mapM_pd_nil, mapM_pd_cons, permL_nil, permL_cons, Option.map_some, Option.map_none, Option.bind_some, Option.pure_def, Option.bind_eq_bind, Bool.false_eq_true, if_true, if_false, ite_true, ite_false, reduceIte, reduceCtorEq, cmp_lt, cmp_le, cmp_gt, cmp_ge, cmp_eq_i, cmp_ne_i, cmp_eq_b, cmp_ne_b, cmp_eq_s, cmp_ne_s, cmp_eq_nn, cmp_is, cmp_isnot, isNone_none, isNone_bool, isNone_int, isNone_str, isNone_list, isNone_tuple, bin_add, bin_sub, mulOk_n, mulOk_m, divOk_n, Nat.reduceLT, Int.reduceEq, Int.reduceNe, ne_eq, not_false_eq_true, decide_true, decide_false, bin_mul, bin_fdiv, bin_mod, bin_addl, bin_addt, bin_shl, bin_shr, bin_band, bin_bor, tru_b, tru_i, tru_l, tru_t, tru_o, tru_n, len_l, len_t, len_o, item_l, item_t, item_o, item_b0, item_b1, item_b2, at0, at1, at2, at3, at4, at5, atm1, blt_abs, blt_int, blt_intb, blt_tl, blt_tt, blt_ll, blt_lt, blt_sum, blt_all, blt_any, blt_min2, blt_max2, put_b0, put_b1, put_b2, szOk_0, szOk_1, szOk_n, Nat.reduceLeDiff, bin_mul2, bin_pow, Bool.not_true, Bool.not_false, wp_some, Nx_nx, Rt_rt, Option.toList_some, Option.toList_none, ev_lcR, lcR_nil, rangeD_map, zipW_map, enum_map, zip_tt, zip_tl, zip_lt, zip_ll, iter_t, iter_l, iter_o, lst_l, lst_o, seq_sq, iter_sq, len_sq, item_sq, list_sq, tuple_sq, zip_sq, pairD, step_no, stepC_eq, st_cmp, st_chain, st_and, st_or, st_not, st_isi, st_call, st_bl, st_var, setQ, and_self]]
    simp only [ev_var, ev_con, ev_bin, ev_neg, ev_not, ev_cmp, ev_chain, ev_and, ev_or, ev_ite, ev_tup, ev_lst, ev_call, ev_callk, ev_bl, ev_len, ev_bits, ev_isi, ev_sub, ev_slc, ev_callb, ev_sset, ev_rev, rev_l, rev_o, ea_nil, ea_cons, ei_rng1, ei_rng2, ei_zip, ei_enum, ei_it, sq_skip, sq_seq, sq_asg, sq_tas, sq_par, sq_setix, sq_app, sq_ite, sq_ret, sq_retn, sq_pass, sq_cont, sq_brk, sq_aug_add, ex_skip, evP, setRs, evRet, pk, peek, rd, setAll, bindT, wipeE, unwipe, noOwn, condOf, isNo, RV.pd, RV.frz, canPut, entryE, List.length_cons, List.length_nil, List.map_cons, List.map_nil, List.cons_append, List.nil_append, List.append_nil, Nat.sub_self, Nat.reduceSub, Nat.reduceAdd, Nat.zero_add, List.replicate_succ, List.replicate_zero, List.getElem?_cons_zero, List.getElem?_cons_succ, List.set_cons_zero, List.set_cons_succ, List.getD_cons_zero, List.getD_cons_succ, mapM_pd_nil, mapM_pd_cons, permL_nil, permL_cons, Option.map_some, Option.map_none, Option.bind_some, Option.pure_def, Option.bind_eq_bind, Bool.false_eq_true, if_true, if_false, ite_true, ite_false, reduceIte, reduceCtorEq, cmp_lt, cmp_le, cmp_gt, cmp_ge, cmp_eq_i, cmp_ne_i, cmp_eq_b, cmp_ne_b, cmp_eq_s, cmp_ne_s, cmp_eq_nn, cmp_is, cmp_isnot, isNone_none, isNone_bool, isNone_int, isNone_str, isNone_list, isNone_tuple, bin_add, bin_sub, mulOk_n, mulOk_m, divOk_n, Nat.reduceLT, Int.reduceEq, Int.reduceNe, ne_eq, not_false_eq_true, decide_true, decide_false, bin_mul, bin_fdiv, bin_mod, bin_addl, bin_addt, bin_shl, bin_shr, bin_band, bin_bor, tru_b, tru_i, tru_l, tru_t, tru_o, tru_n, len_l, len_t, len_o, item_l, item_t, item_o, item_b0, item_b1, item_b2, at0, at1, at2, at3, at4, at5, atm1, blt_abs, blt_int, blt_intb, blt_tl, blt_tt, blt_ll, blt_lt, blt_sum, blt_all, blt_any, blt_min2, blt_max2, put_b0, put_b1, put_b2, szOk_0, szOk_1, szOk_n, Nat.reduceLeDiff, bin_mul2, bin_pow, Bool.not_true, Bool.not_false, wp_some, Nx_nx, Rt_rt, Option.toList_some, Option.toList_none, ev_lcR, lcR_nil, rangeD_map, zipW_map, enum_map, zip_tt, zip_tl, zip_lt, zip_ll, iter_t, iter_l, iter_o, lst_l, lst_o, seq_sq, iter_sq, len_sq, item_sq, list_sq, tuple_sq, zip_sq, pairD, step_no, stepC_eq, st_cmp, st_chain, st_and, st_or, st_not, st_isi, st_call, st_bl, st_var, setQ, a]
    rw [lcR_A (fun x : Int => x + num) PyData.int lenS fun p hp => by simp only [ev_var, ev_con, ev_bin, ev_neg, ev_not, ev_cmp, ev_chain, ev_and, ev_or, ev_ite, ev_tup, ev_lst, ev_call, ev_callk, ev_bl, ev_len, ev_bits, ev_isi, ev_sub, ev_slc, ev_callb, ev_sset, ev_rev, rev_l, rev_o, ea_nil, ea_cons, ei_rng1, ei_rng2, ei_zip, ei_enum, ei_it, sq_skip, sq_seq, sq_asg, sq_tas, sq_par, sq_setix, sq_app, sq_ite, sq_ret, sq_retn, sq_pass, sq_cont, sq_brk, sq_aug_add, ex_skip, evP, setRs, evRet, pk, peek, rd, setAll, bindT, wipeE, unwipe, noOwn, condOf, isNo, RV.pd, RV.frz, canPut, entryE, List.length_cons, List.length_nil, List.map_cons, List.map_nil, List.cons_append, List.nil_append, List.append_nil, Nat.sub_self, Nat.reduceSub, Nat.reduceAdd, Nat.zero_add, List.replicate_succ, List.replicate_zero, List.getElem?_cons_zero, List.getElem?_cons_succ, List.set_cons_zero, List.set_cons_succ, List.getD_cons_zero, List.getD_cons_succ, mapM_pd_nil, mapM_pd_cons, permL_nil, permL_cons, Option.map_some, Option.map_none, Option.bind_some, Option.pure_def, Option.bind_eq_bind, Bool.false_eq_true, if_true, if_false, ite_true, ite_false, reduceIte, reduceCtorEq, cmp_lt, cmp_le, cmp_gt, cmp_ge, cmp_eq_i, cmp_ne_i, cmp_eq_b, cmp_ne_b, cmp_eq_s, cmp_ne_s, cmp_eq_nn, cmp_is, cmp_isnot, isNone_none, isNone_bool, isNone_int, isNone_str, isNone_list, isNone_tuple, bin_add, bin_sub, mulOk_n, mulOk_m, divOk_n, Nat.reduceLT, Int.reduceEq, Int.reduceNe, ne_eq, not_false_eq_true, decide_true, decide_false, bin_mul, bin_fdiv, bin_mod, bin_addl, bin_addt, bin_shl, bin_shr, bin_band, bin_bor, tru_b, tru_i, tru_l, tru_t, tru_o, tru_n, len_l, len_t, len_o, item_l, item_t, item_o, item_b0, item_b1, item_b2, at0, at1, at2, at3, at4, at5, atm1, blt_abs, blt_int, blt_intb, blt_tl, blt_tt, blt_ll, blt_lt, blt_sum, blt_all, blt_any, blt_min2, blt_max2, put_b0, put_b1, put_b2, szOk_0, szOk_1, szOk_n, Nat.reduceLeDiff, bin_mul2, bin_pow, Bool.not_true, Bool.not_false, wp_some, Nx_nx, Rt_rt, Option.toList_some, Option.toList_none, ev_lcR, lcR_nil, rangeD_map, zipW_map, enum_map, zip_tt, zip_tl, zip_lt, zip_ll, iter_t, iter_l, iter_o, lst_l, lst_o, seq_sq, iter_sq, len_sq, item_sq, list_sq, tuple_sq, zip_sq, pairD, step_no, stepC_eq, st_cmp, st_chain, st_and, st_or, st_not, st_isi, st_call, st_bl, st_var, setQ, and_self]]
    simp only [ev_var, ev_con, ev_bin, ev_neg, ev_not, ev_cmp, ev_chain, ev_and, ev_or, ev_ite, ev_tup, ev_lst, ev_call, ev_callk, ev_bl, ev_len, ev_bits, ev_isi, ev_sub, ev_slc, ev_callb, ev_sset, ev_rev, rev_l, rev_o, ea_nil, ea_cons, ei_rng1, ei_rng2, ei_zip, ei_enum, ei_it, sq_skip, sq_seq, sq_asg, sq_tas, sq_par, sq_setix, sq_app, sq_ite, sq_ret, sq_retn, sq_pass, sq_cont, sq_brk, sq_aug_add, ex_skip, evP, setRs, evRet, pk, peek, rd, setAll, bindT, wipeE, unwipe, noOwn, condOf, isNo, RV.pd, RV.frz, canPut, entryE, List.length_cons, List.length_nil, List.map_cons, List.map_nil, List.cons_append, List.nil_append, List.append_nil, Nat.sub_self, Nat.reduceSub, Nat.reduceAdd, Nat.zero_add, List.replicate_succ, List.replicate_zero, List.getElem?_cons_zero, List.getElem?_cons_succ, List.set_cons_zero, List.set_cons_succ, List.getD_cons_zero, List.getD_cons_succ, mapM_pd_nil, mapM_pd_cons, permL_nil, permL_cons, Option.map_some, Option.map_none, Option.bind_some, Option.pure_def, Option.bind_eq_bind, Bool.false_eq_true, if_true, if_false, ite_true, ite_false, reduceIte, reduceCtorEq, cmp_lt, cmp_le, cmp_gt, cmp_ge, cmp_eq_i, cmp_ne_i, cmp_eq_b, cmp_ne_b, cmp_eq_s, cmp_ne_s, cmp_eq_nn, cmp_is, cmp_isnot, isNone_none, isNone_bool, isNone_int, isNone_str, isNone_list, isNone_tuple, bin_add, bin_sub, mulOk_n, mulOk_m, divOk_n, Nat.reduceLT, Int.reduceEq, Int.reduceNe, ne_eq, not_false_eq_true, decide_true, decide_false, bin_mul, bin_fdiv, bin_mod, bin_addl, bin_addt, bin_shl, bin_shr, bin_band, bin_bor, tru_b, tru_i, tru_l, tru_t, tru_o, tru_n, len_l, len_t, len_o, item_l, item_t, item_o, item_b0, item_b1, item_b2, at0, at1, at2, at3, at4, at5, atm1, blt_abs, blt_int, blt_intb, blt_tl, blt_tt, blt_ll, blt_lt, blt_sum, blt_all, blt_any, blt_min2, blt_max2, put_b0, put_b1, put_b2, szOk_0, szOk_1, szOk_n, Nat.reduceLeDiff, bin_mul2, bin_pow, Bool.not_true, Bool.not_false, wp_some, Nx_nx, Rt_rt, Option.toList_some, Option.toList_none, ev_lcR, lcR_nil, rangeD_map, zipW_map, enum_map, zip_tt, zip_tl, zip_lt, zip_ll, iter_t, iter_l, iter_o, lst_l, lst_o, seq_sq, iter_sq, len_sq, item_sq, list_sq, tuple_sq, zip_sq, pairD, step_no, stepC_eq, st_cmp, st_chain, st_and, st_or, st_not, st_isi, st_call, st_bl, st_var, setQ, cellsZ, and_self]
theorem cells_len : (cellsZ l row num).length = (sumsP (nz (rowsB row l))).length := List.length_map ..
theorem self_call {co hr sm mk_ ma ls : Nat} (h : Is T i 2 2 (B_touches_itself co hr)) (hh : Is T hr 1 4 B_how_many_rounds) (hcc : Is T co 2 6 (B_cells_of sm)) (h0 : Is T sm 2 5 (B_sums mk_ ma ls)) (h1 : Is T ls 2 4 B_least_sum) (h2 : Is T mk_ 2 2 B_is_marked) (h3 : Is T ma 2 9 B_marks_along) (hf : 1000 ≤ fu) (hl : l.length ≤ 100)
    (hs : Sm (nz (rowsB row l))) (hw : widP (nz (rowsB row l)) ≤ 1000000) (hb : ∀ p ∈ l, (p.2 + 1).natAbs < 2 ^ 64) : callN T fu (n + 4) i [.dat (nestD t l), .dat (spotD u row num)] bx = some (.dat (.bool (decide (((cellsZ l row num).length : Int) < roundsZ l))), bx) := by
  refine run_wp h rfl ?_
  have a := cells_call2 (n := n) (fu := fu) (bx := bx) (t := t) (u := u) (num := num) hcc h0 h1 h2 h3 hf hl hs hw
  have b := rounds_call (n := n + 2) (fu := fu) (bx := bx) (t := t) hh hb
  simp only [B_touches_itself, ent, ev_var, ev_con, ev_bin, ev_neg, ev_not, ev_cmp, ev_chain, ev_and, ev_or, ev_ite, ev_tup, ev_lst, ev_call, ev_callk, ev_bl, ev_len, ev_bits, ev_isi, ev_sub, ev_slc, ev_callb, ev_sset, ev_rev, rev_l, rev_o, ea_nil, ea_cons, ei_rng1, ei_rng2, ei_zip, ei_enum, ei_it, sq_skip, sq_seq, sq_asg, sq_tas, sq_par, sq_setix, sq_app, sq_ite, sq_ret, sq_retn, sq_pass, sq_cont, sq_brk, sq_aug_add, ex_skip, evP, setRs, evRet, pk, peek, rd, setAll, bindT, wipeE, unwipe, noOwn, condOf, isNo, RV.pd, RV.frz, canPut, entryE, List.length_cons, List.length_nil, List.map_cons, List.map_nil, List.cons_append, List.nil_append, List.append_nil, Nat.sub_self, Nat.reduceSub, Nat.reduceAdd, Nat.zero_add, List.replicate_succ, List.replicate_zero, List.getElem?_cons_zero, List.getElem?_cons_succ, List.set_cons_zero, List.set_cons_succ, List.getD_cons_zero, List.getD_cons_succ, mapM_pd_nil, mapM_pd_cons, permL_nil, permL_cons, Option.map_some, Option.map_none, Option.bind_some, Option.pure_def, Option.bind_eq_bind, Bool.false_eq_true, if_true, if_false, ite_true, ite_false, reduceIte, reduceCtorEq, cmp_lt, cmp_le, cmp_gt, cmp_ge, cmp_eq_i, cmp_ne_i, cmp_eq_b, cmp_ne_b, cmp_eq_s, cmp_ne_s, cmp_eq_nn, cmp_is, cmp_isnot, isNone_none, isNone_bool, isNone_int, isNone_str, isNone_list, isNone_tuple, bin_add, bin_sub, mulOk_n, mulOk_m, divOk_n, Nat.reduceLT, Int.reduceEq, Int.reduceNe, ne_eq, not_false_eq_true, decide_true, decide_false, bin_mul, bin_fdiv, bin_mod, bin_addl, bin_addt, bin_shl, bin_shr, bin_band, bin_bor, tru_b, tru_i, tru_l, tru_t, tru_o, tru_n, len_l, len_t, len_o, item_l, item_t, item_o, item_b0, item_b1, item_b2, at0, at1, at2, at3, at4, at5, atm1, blt_abs, blt_int, blt_intb, blt_tl, blt_tt, blt_ll, blt_lt, blt_sum, blt_all, blt_any, blt_min2, blt_max2, put_b0, put_b1, put_b2, szOk_0, szOk_1, szOk_n, Nat.reduceLeDiff, bin_mul2, bin_pow, Bool.not_true, Bool.not_false, wp_some, Nx_nx, Rt_rt, Option.toList_some, Option.toList_none, ev_lcR, lcR_nil, rangeD_map, zipW_map, enum_map, zip_tt, zip_tl, zip_lt, zip_ll, iter_t, iter_l, iter_o, lst_l, lst_o, seq_sq, iter_sq, len_sq, item_sq, list_sq, tuple_sq, zip_sq, pairD, step_no, stepC_eq, st_cmp, st_chain, st_and, st_or, st_not, st_isi, st_call, st_bl, st_var, setQ, a, b, List.length_map, and_self]
/-! ### the same with lists -/
def Lst : Nat → PyData → PyData → Prop
  | 0, d, e => (∃ i : Int, d = .int i ∧ e = .int i) ∨ ∃ x : Str, d = .str x ∧ e = .str x
  | n + 1, d, e => ((∃ i : Int, d = .int i ∧ e = .int i) ∨ ∃ x : Str, d = .str x ∧ e = .str x) ∨ ∃ (t : Bool) (ds es : List PyData), d = sq t ds ∧ e = .list es ∧ ds.length ≤ 16777216 ∧ All2 (Lst n) ds es
theorem Lst.int : ∀ {n : Nat} (i : Int), Lst n (.int i) (.int i)
  | 0, i => .inl ⟨i, rfl, rfl⟩
  | _ + 1, i => .inl (.inl ⟨i, rfl, rfl⟩)
theorem Lst.str : ∀ {n : Nat} (x : Str), Lst n (.str x) (.str x)
  | 0, i => .inr ⟨i, rfl, rfl⟩
  | _ + 1, i => .inl (.inr ⟨i, rfl, rfl⟩)
theorem Lst.seq {n : Nat} {t : Bool} {ds es : List PyData} (hz : ds.length ≤ 16777216) (a : All2 (Lst n) ds es) : Lst (n + 1) (sq t ds) (.list es) := .inr ⟨t, ds, es, rfl, rfl, hz, a⟩
def ownR : PyData → RV
  | .list es => .own es
  | d => .dat d
theorem ownR_pd {d : PyData} : (ownR d).pd = some d := by cases d <;> rfl
theorem all2_get {α β : Type} {R : α → β → Prop} : ∀ {as : List α} {bs : List β}, All2 R as bs → ∀ {k : Nat} {a : α}, as[k]? = some a → ∃ b, bs[k]? = some b ∧ R a b
  | _, _, .nil, k, a, h => by simp at h
  | _, _, .cons r _, 0, a, h => by simp at h; subst h; exact ⟨_, rfl, r⟩
  | _, _, .cons _ t, k + 1, a, h => by
    obtain ⟨b, h1, h2⟩ := all2_get (k := k) t (by simpa using h)
    exact ⟨b, by simpa using h1, h2⟩
theorem lists_call (h : Is T i 1 2 (B_Llists i)) : ∀ (m : Nat) (d e : PyData), Lst m d e → ∀ k, m ≤ k → ∀ bx, callN T fu (k + 1) i [.dat d] bx = some (ownR e, bx) := by
  intro m
  induction m with
  | zero =>
    intro d e hd k hk bx
    rcases hd with ⟨x, rfl, rfl⟩ | ⟨x, rfl, rfl⟩
    · exact run_wp h rfl (by simp only [B_Llists, ent, ev_var, ev_con, ev_bin, ev_neg, ev_not, ev_cmp, ev_chain, ev_and, ev_or, ev_ite, ev_tup, ev_lst, ev_call, ev_callk, ev_bl, ev_len, ev_bits, ev_isi, ev_sub, ev_slc, ev_callb, ev_sset, ev_rev, rev_l, rev_o, ea_nil, ea_cons, ei_rng1, ei_rng2, ei_zip, ei_enum, ei_it, sq_skip, sq_seq, sq_asg, sq_tas, sq_par, sq_setix, sq_app, sq_ite, sq_ret, sq_retn, sq_pass, sq_cont, sq_brk, sq_aug_add, ex_skip, evP, setRs, evRet, pk, peek, rd, setAll, bindT, wipeE, unwipe, noOwn, condOf, isNo, RV.pd, RV.frz, canPut, entryE, List.length_cons, List.length_nil, List.map_cons, List.map_nil, List.cons_append, List.nil_append, List.append_nil, Nat.sub_self, Nat.reduceSub, Nat.reduceAdd, Nat.zero_add, List.replicate_succ, List.replicate_zero, List.getElem?_cons_zero, List.getElem?_cons_succ, List.set_cons_zero, List.set_cons_succ, List.getD_cons_zero, List.getD_cons_succ, mapM_pd_nil, mapM_pd_cons, permL_nil, permL_cons, Option.map_some, Option.map_none, Option.bind_some, Option.pure_def, Option.bind_eq_bind, Bool.false_eq_true, if_true, if_false, ite_true, ite_false, reduceIte, reduceCtorEq, cmp_lt, cmp_le, cmp_gt, cmp_ge, cmp_eq_i, cmp_ne_i, cmp_eq_b, cmp_ne_b, cmp_eq_s, cmp_ne_s, cmp_eq_nn, cmp_is, cmp_isnot, isNone_none, isNone_bool, isNone_int, isNone_str, isNone_list, isNone_tuple, bin_add, bin_sub, mulOk_n, mulOk_m, divOk_n, Nat.reduceLT, Int.reduceEq, Int.reduceNe, ne_eq, not_false_eq_true, decide_true, decide_false, bin_mul, bin_fdiv, bin_mod, bin_addl, bin_addt, bin_shl, bin_shr, bin_band, bin_bor, tru_b, tru_i, tru_l, tru_t, tru_o, tru_n, len_l, len_t, len_o, item_l, item_t, item_o, item_b0, item_b1, item_b2, at0, at1, at2, at3, at4, at5, atm1, blt_abs, blt_int, blt_intb, blt_tl, blt_tt, blt_ll, blt_lt, blt_sum, blt_all, blt_any, blt_min2, blt_max2, put_b0, put_b1, put_b2, szOk_0, szOk_1, szOk_n, Nat.reduceLeDiff, bin_mul2, bin_pow, Bool.not_true, Bool.not_false, wp_some, Nx_nx, Rt_rt, Option.toList_some, Option.toList_none, ev_lcR, lcR_nil, rangeD_map, zipW_map, enum_map, zip_tt, zip_tl, zip_lt, zip_ll, iter_t, iter_l, iter_o, lst_l, lst_o, seq_sq, iter_sq, len_sq, item_sq, list_sq, tuple_sq, zip_sq, pairD, step_no, stepC_eq, st_cmp, st_chain, st_and, st_or, st_not, st_isi, st_call, st_bl, st_var, setQ, isData, tyOf, List.any_cons, List.any_nil, Bool.or_self, ownR, and_self])
    · exact run_wp h rfl (by simp only [B_Llists, ent, ev_var, ev_con, ev_bin, ev_neg, ev_not, ev_cmp, ev_chain, ev_and, ev_or, ev_ite, ev_tup, ev_lst, ev_call, ev_callk, ev_bl, ev_len, ev_bits, ev_isi, ev_sub, ev_slc, ev_callb, ev_sset, ev_rev, rev_l, rev_o, ea_nil, ea_cons, ei_rng1, ei_rng2, ei_zip, ei_enum, ei_it, sq_skip, sq_seq, sq_asg, sq_tas, sq_par, sq_setix, sq_app, sq_ite, sq_ret, sq_retn, sq_pass, sq_cont, sq_brk, sq_aug_add, ex_skip, evP, setRs, evRet, pk, peek, rd, setAll, bindT, wipeE, unwipe, noOwn, condOf, isNo, RV.pd, RV.frz, canPut, entryE, List.length_cons, List.length_nil, List.map_cons, List.map_nil, List.cons_append, List.nil_append, List.append_nil, Nat.sub_self, Nat.reduceSub, Nat.reduceAdd, Nat.zero_add, List.replicate_succ, List.replicate_zero, List.getElem?_cons_zero, List.getElem?_cons_succ, List.set_cons_zero, List.set_cons_succ, List.getD_cons_zero, List.getD_cons_succ, mapM_pd_nil, mapM_pd_cons, permL_nil, permL_cons, Option.map_some, Option.map_none, Option.bind_some, Option.pure_def, Option.bind_eq_bind, Bool.false_eq_true, if_true, if_false, ite_true, ite_false, reduceIte, reduceCtorEq, cmp_lt, cmp_le, cmp_gt, cmp_ge, cmp_eq_i, cmp_ne_i, cmp_eq_b, cmp_ne_b, cmp_eq_s, cmp_ne_s, cmp_eq_nn, cmp_is, cmp_isnot, isNone_none, isNone_bool, isNone_int, isNone_str, isNone_list, isNone_tuple, bin_add, bin_sub, mulOk_n, mulOk_m, divOk_n, Nat.reduceLT, Int.reduceEq, Int.reduceNe, ne_eq, not_false_eq_true, decide_true, decide_false, bin_mul, bin_fdiv, bin_mod, bin_addl, bin_addt, bin_shl, bin_shr, bin_band, bin_bor, tru_b, tru_i, tru_l, tru_t, tru_o, tru_n, len_l, len_t, len_o, item_l, item_t, item_o, item_b0, item_b1, item_b2, at0, at1, at2, at3, at4, at5, atm1, blt_abs, blt_int, blt_intb, blt_tl, blt_tt, blt_ll, blt_lt, blt_sum, blt_all, blt_any, blt_min2, blt_max2, put_b0, put_b1, put_b2, szOk_0, szOk_1, szOk_n, Nat.reduceLeDiff, bin_mul2, bin_pow, Bool.not_true, Bool.not_false, wp_some, Nx_nx, Rt_rt, Option.toList_some, Option.toList_none, ev_lcR, lcR_nil, rangeD_map, zipW_map, enum_map, zip_tt, zip_tl, zip_lt, zip_ll, iter_t, iter_l, iter_o, lst_l, lst_o, seq_sq, iter_sq, len_sq, item_sq, list_sq, tuple_sq, zip_sq, pairD, step_no, stepC_eq, st_cmp, st_chain, st_and, st_or, st_not, st_isi, st_call, st_bl, st_var, setQ, isData, tyOf, List.any_cons, List.any_nil, Bool.or_self, ownR, and_self])
  | succ m ih =>
    intro d e hd k hk bx
    rcases hd with (⟨x, rfl, rfl⟩ | ⟨x, rfl, rfl⟩) | ⟨t, ds, es, rfl, rfl, hz, a⟩
    · exact run_wp h rfl (by simp only [B_Llists, ent, ev_var, ev_con, ev_bin, ev_neg, ev_not, ev_cmp, ev_chain, ev_and, ev_or, ev_ite, ev_tup, ev_lst, ev_call, ev_callk, ev_bl, ev_len, ev_bits, ev_isi, ev_sub, ev_slc, ev_callb, ev_sset, ev_rev, rev_l, rev_o, ea_nil, ea_cons, ei_rng1, ei_rng2, ei_zip, ei_enum, ei_it, sq_skip, sq_seq, sq_asg, sq_tas, sq_par, sq_setix, sq_app, sq_ite, sq_ret, sq_retn, sq_pass, sq_cont, sq_brk, sq_aug_add, ex_skip, evP, setRs, evRet, pk, peek, rd, setAll, bindT, wipeE, unwipe, noOwn, condOf, isNo, RV.pd, RV.frz, canPut, entryE, List.length_cons, List.length_nil, List.map_cons, List.map_nil, List.cons_append, List.nil_append, List.append_nil, Nat.sub_self, Nat.reduceSub, Nat.reduceAdd, Nat.zero_add, List.replicate_succ, List.replicate_zero, List.getElem?_cons_zero, List.getElem?_cons_succ, List.set_cons_zero, List.set_cons_succ, List.getD_cons_zero, List.getD_cons_succ, mapM_pd_nil, mapM_pd_cons, permL_nil, permL_cons, Option.map_some, Option.map_none, Option.bind_some, Option.pure_def, Option.bind_eq_bind, Bool.false_eq_true, if_true, if_false, ite_true, ite_false, reduceIte, reduceCtorEq, cmp_lt, cmp_le, cmp_gt, cmp_ge, cmp_eq_i, cmp_ne_i, cmp_eq_b, cmp_ne_b, cmp_eq_s, cmp_ne_s, cmp_eq_nn, cmp_is, cmp_isnot, isNone_none, isNone_bool, isNone_int, isNone_str, isNone_list, isNone_tuple, bin_add, bin_sub, mulOk_n, mulOk_m, divOk_n, Nat.reduceLT, Int.reduceEq, Int.reduceNe, ne_eq, not_false_eq_true, decide_true, decide_false, bin_mul, bin_fdiv, bin_mod, bin_addl, bin_addt, bin_shl, bin_shr, bin_band, bin_bor, tru_b, tru_i, tru_l, tru_t, tru_o, tru_n, len_l, len_t, len_o, item_l, item_t, item_o, item_b0, item_b1, item_b2, at0, at1, at2, at3, at4, at5, atm1, blt_abs, blt_int, blt_intb, blt_tl, blt_tt, blt_ll, blt_lt, blt_sum, blt_all, blt_any, blt_min2, blt_max2, put_b0, put_b1, put_b2, szOk_0, szOk_1, szOk_n, Nat.reduceLeDiff, bin_mul2, bin_pow, Bool.not_true, Bool.not_false, wp_some, Nx_nx, Rt_rt, Option.toList_some, Option.toList_none, ev_lcR, lcR_nil, rangeD_map, zipW_map, enum_map, zip_tt, zip_tl, zip_lt, zip_ll, iter_t, iter_l, iter_o, lst_l, lst_o, seq_sq, iter_sq, len_sq, item_sq, list_sq, tuple_sq, zip_sq, pairD, step_no, stepC_eq, st_cmp, st_chain, st_and, st_or, st_not, st_isi, st_call, st_bl, st_var, setQ, isData, tyOf, List.any_cons, List.any_nil, Bool.or_self, ownR, and_self])
    · exact run_wp h rfl (by simp only [B_Llists, ent, ev_var, ev_con, ev_bin, ev_neg, ev_not, ev_cmp, ev_chain, ev_and, ev_or, ev_ite, ev_tup, ev_lst, ev_call, ev_callk, ev_bl, ev_len, ev_bits, ev_isi, ev_sub, ev_slc, ev_callb, ev_sset, ev_rev, rev_l, rev_o, ea_nil, ea_cons, ei_rng1, ei_rng2, ei_zip, ei_enum, ei_it, sq_skip, sq_seq, sq_asg, sq_tas, sq_par, sq_setix, sq_app, sq_ite, sq_ret, sq_retn, sq_pass, sq_cont, sq_brk, sq_aug_add, ex_skip, evP, setRs, evRet, pk, peek, rd, setAll, bindT, wipeE, unwipe, noOwn, condOf, isNo, RV.pd, RV.frz, canPut, entryE, List.length_cons, List.length_nil, List.map_cons, List.map_nil, List.cons_append, List.nil_append, List.append_nil, Nat.sub_self, Nat.reduceSub, Nat.reduceAdd, Nat.zero_add, List.replicate_succ, List.replicate_zero, List.getElem?_cons_zero, List.getElem?_cons_succ, List.set_cons_zero, List.set_cons_succ, List.getD_cons_zero, List.getD_cons_succ, mapM_pd_nil, mapM_pd_cons, permL_nil, permL_cons, Option.map_some, Option.map_none, Option.bind_some, Option.pure_def, Option.bind_eq_bind, Bool.false_eq_true, if_true, if_false, ite_true, ite_false, reduceIte, reduceCtorEq, cmp_lt, cmp_le, cmp_gt, cmp_ge, cmp_eq_i, cmp_ne_i, cmp_eq_b, cmp_ne_b, cmp_eq_s, cmp_ne_s, cmp_eq_nn, cmp_is, cmp_isnot, isNone_none, isNone_bool, isNone_int, isNone_str, isNone_list, isNone_tuple, bin_add, bin_sub, mulOk_n, mulOk_m, divOk_n, Nat.reduceLT, Int.reduceEq, Int.reduceNe, ne_eq, not_false_eq_true, decide_true, decide_false, bin_mul, bin_fdiv, bin_mod, bin_addl, bin_addt, bin_shl, bin_shr, bin_band, bin_bor, tru_b, tru_i, tru_l, tru_t, tru_o, tru_n, len_l, len_t, len_o, item_l, item_t, item_o, item_b0, item_b1, item_b2, at0, at1, at2, at3, at4, at5, atm1, blt_abs, blt_int, blt_intb, blt_tl, blt_tt, blt_ll, blt_lt, blt_sum, blt_all, blt_any, blt_min2, blt_max2, put_b0, put_b1, put_b2, szOk_0, szOk_1, szOk_n, Nat.reduceLeDiff, bin_mul2, bin_pow, Bool.not_true, Bool.not_false, wp_some, Nx_nx, Rt_rt, Option.toList_some, Option.toList_none, ev_lcR, lcR_nil, rangeD_map, zipW_map, enum_map, zip_tt, zip_tl, zip_lt, zip_ll, iter_t, iter_l, iter_o, lst_l, lst_o, seq_sq, iter_sq, len_sq, item_sq, list_sq, tuple_sq, zip_sq, pairD, step_no, stepC_eq, st_cmp, st_chain, st_and, st_or, st_not, st_isi, st_call, st_bl, st_var, setQ, isData, tyOf, List.any_cons, List.any_nil, Bool.or_self, ownR, and_self])
    · obtain ⟨k, rfl⟩ : ∃ j, k = j + 1 := ⟨k - 1, by omega⟩
      refine run_wp h rfl ?_
      simp only [B_Llists, ent, ev_var, ev_con, ev_bin, ev_neg, ev_not, ev_cmp, ev_chain, ev_and, ev_or, ev_ite, ev_tup, ev_lst, ev_call, ev_callk, ev_bl, ev_len, ev_bits, ev_isi, ev_sub, ev_slc, ev_callb, ev_sset, ev_rev, rev_l, rev_o, ea_nil, ea_cons, ei_rng1, ei_rng2, ei_zip, ei_enum, ei_it, sq_skip, sq_seq, sq_asg, sq_tas, sq_par, sq_setix, sq_app, sq_ite, sq_ret, sq_retn, sq_pass, sq_cont, sq_brk, sq_aug_add, ex_skip, evP, setRs, evRet, pk, peek, rd, setAll, bindT, wipeE, unwipe, noOwn, condOf, isNo, RV.pd, RV.frz, canPut, entryE, List.length_cons, List.length_nil, List.map_cons, List.map_nil, List.cons_append, List.nil_append, List.append_nil, Nat.sub_self, Nat.reduceSub, Nat.reduceAdd, Nat.zero_add, List.replicate_succ, List.replicate_zero, List.getElem?_cons_zero, List.getElem?_cons_succ, List.set_cons_zero, List.set_cons_succ, List.getD_cons_zero, List.getD_cons_succ, mapM_pd_nil, mapM_pd_cons, permL_nil, permL_cons, Option.map_some, Option.map_none, Option.bind_some, Option.pure_def, Option.bind_eq_bind, Bool.false_eq_true, if_true, if_false, ite_true, ite_false, reduceIte, reduceCtorEq, cmp_lt, cmp_le, cmp_gt, cmp_ge, cmp_eq_i, cmp_ne_i, cmp_eq_b, cmp_ne_b, cmp_eq_s, cmp_ne_s, cmp_eq_nn, cmp_is, cmp_isnot, isNone_none, isNone_bool, isNone_int, isNone_str, isNone_list, isNone_tuple, bin_add, bin_sub, mulOk_n, mulOk_m, divOk_n, Nat.reduceLT, Int.reduceEq, Int.reduceNe, ne_eq, not_false_eq_true, decide_true, decide_false, bin_mul, bin_fdiv, bin_mod, bin_addl, bin_addt, bin_shl, bin_shr, bin_band, bin_bor, tru_b, tru_i, tru_l, tru_t, tru_o, tru_n, len_l, len_t, len_o, item_l, item_t, item_o, item_b0, item_b1, item_b2, at0, at1, at2, at3, at4, at5, atm1, blt_abs, blt_int, blt_intb, blt_tl, blt_tt, blt_ll, blt_lt, blt_sum, blt_all, blt_any, blt_min2, blt_max2, put_b0, put_b1, put_b2, szOk_0, szOk_1, szOk_n, Nat.reduceLeDiff, bin_mul2, bin_pow, Bool.not_true, Bool.not_false, wp_some, Nx_nx, Rt_rt, Option.toList_some, Option.toList_none, ev_lcR, lcR_nil, rangeD_map, zipW_map, enum_map, zip_tt, zip_tl, zip_lt, zip_ll, iter_t, iter_l, iter_o, lst_l, lst_o, seq_sq, iter_sq, len_sq, item_sq, list_sq, tuple_sq, zip_sq, pairD, step_no, stepC_eq, st_cmp, st_chain, st_and, st_or, st_not, st_isi, st_call, st_bl, st_var, setQ, isi_sq, data_sq]
      obtain ⟨acc, env', bx', e1, e2, rfl, rfl⟩ := lcR_I (cal := callN T fu (k + 1)) (own := [1]) (tg := .nm 1) (c := .no) (elt := .call i (.cons (.var 1) .nil)) (env := [some (.dat (sq t ds)), none]) (bx := bx) (ds := ds) (fun j e b acc => e = [some (.dat (sq t ds)), none] ∧ b = bx ∧ acc = es.take j) hz ⟨rfl, rfl, rfl⟩
        fun j d e b acc hd hI => by
          obtain ⟨rfl, rfl, rfl⟩ := hI
          obtain ⟨x, hx, lx⟩ := all2_get a hd
          obtain ⟨r, c, pr⟩ : ∃ r, callN T fu (k + 1) i [RV.dat d] b = some (r, b) ∧ r.pd = some x := ⟨_, ih d x lx k (by omega) b, ownR_pd⟩
          have tk : es.take (j + 1) = es.take j ++ [x] := by rw [List.take_add_one, hx]; rfl
          cases r <;> cases pr
          all_goals
            simp only [ev_var, ev_con, ev_bin, ev_neg, ev_not, ev_cmp, ev_chain, ev_and, ev_or, ev_ite, ev_tup, ev_lst, ev_call, ev_callk, ev_bl, ev_len, ev_bits, ev_isi, ev_sub, ev_slc, ev_callb, ev_sset, ev_rev, rev_l, rev_o, ea_nil, ea_cons, ei_rng1, ei_rng2, ei_zip, ei_enum, ei_it, sq_skip, sq_seq, sq_asg, sq_tas, sq_par, sq_setix, sq_app, sq_ite, sq_ret, sq_retn, sq_pass, sq_cont, sq_brk, sq_aug_add, ex_skip, evP, setRs, evRet, pk, peek, rd, setAll, bindT, wipeE, unwipe, noOwn, condOf, isNo, RV.pd, RV.frz, canPut, entryE, List.length_cons, List.length_nil, List.map_cons, List.map_nil, List.cons_append, List.nil_append, List.append_nil, Nat.sub_self, Nat.reduceSub, Nat.reduceAdd, Nat.zero_add, List.replicate_succ, List.replicate_zero, List.getElem?_cons_zero, List.getElem?_cons_succ, List.set_cons_zero, List.set_cons_succ, List.getD_cons_zero, List.getD_cons_succ, mapM_pd_nil, mapM_pd_cons, permL_nil, permL_cons, Option.map_some, Option.map_none, Option.bind_some, Option.pure_def, Option.bind_eq_bind, Bool.false_eq_true, if_true, if_false, ite_true, ite_false, reduceIte, reduceCtorEq, cmp_lt, cmp_le, cmp_gt, cmp_ge, cmp_eq_i, cmp_ne_i, cmp_eq_b, cmp_ne_b, cmp_eq_s, cmp_ne_s, cmp_eq_nn, cmp_is, cmp_isnot, isNone_none, isNone_bool, isNone_int, isNone_str, isNone_list, isNone_tuple, bin_add, bin_sub, mulOk_n, mulOk_m, divOk_n, Nat.reduceLT, Int.reduceEq, Int.reduceNe, ne_eq, not_false_eq_true, decide_true, decide_false, bin_mul, bin_fdiv, bin_mod, bin_addl, bin_addt, bin_shl, bin_shr, bin_band, bin_bor, tru_b, tru_i, tru_l, tru_t, tru_o, tru_n, len_l, len_t, len_o, item_l, item_t, item_o, item_b0, item_b1, item_b2, at0, at1, at2, at3, at4, at5, atm1, blt_abs, blt_int, blt_intb, blt_tl, blt_tt, blt_ll, blt_lt, blt_sum, blt_all, blt_any, blt_min2, blt_max2, put_b0, put_b1, put_b2, szOk_0, szOk_1, szOk_n, Nat.reduceLeDiff, bin_mul2, bin_pow, Bool.not_true, Bool.not_false, wp_some, Nx_nx, Rt_rt, Option.toList_some, Option.toList_none, ev_lcR, lcR_nil, rangeD_map, zipW_map, enum_map, zip_tt, zip_tl, zip_lt, zip_ll, iter_t, iter_l, iter_o, lst_l, lst_o, seq_sq, iter_sq, len_sq, item_sq, list_sq, tuple_sq, zip_sq, pairD, step_no, stepC_eq, st_cmp, st_chain, st_and, st_or, st_not, st_isi, st_call, st_bl, st_var, setQ, c]
            exact ⟨trivial, trivial, tk.symm⟩
      have el : ds.length = es.length := a.len
      rw [e1, el, List.take_length, unwipe_eq (own := [1]) (env' := [some (.dat (sq t ds)), none]) e2]
      simp only [ev_var, ev_con, ev_bin, ev_neg, ev_not, ev_cmp, ev_chain, ev_and, ev_or, ev_ite, ev_tup, ev_lst, ev_call, ev_callk, ev_bl, ev_len, ev_bits, ev_isi, ev_sub, ev_slc, ev_callb, ev_sset, ev_rev, rev_l, rev_o, ea_nil, ea_cons, ei_rng1, ei_rng2, ei_zip, ei_enum, ei_it, sq_skip, sq_seq, sq_asg, sq_tas, sq_par, sq_setix, sq_app, sq_ite, sq_ret, sq_retn, sq_pass, sq_cont, sq_brk, sq_aug_add, ex_skip, evP, setRs, evRet, pk, peek, rd, setAll, bindT, wipeE, unwipe, noOwn, condOf, isNo, RV.pd, RV.frz, canPut, entryE, List.length_cons, List.length_nil, List.map_cons, List.map_nil, List.cons_append, List.nil_append, List.append_nil, Nat.sub_self, Nat.reduceSub, Nat.reduceAdd, Nat.zero_add, List.replicate_succ, List.replicate_zero, List.getElem?_cons_zero, List.getElem?_cons_succ, List.set_cons_zero, List.set_cons_succ, List.getD_cons_zero, List.getD_cons_succ, mapM_pd_nil, mapM_pd_cons, permL_nil, permL_cons, Option.map_some, Option.map_none, Option.bind_some, Option.pure_def, Option.bind_eq_bind, Bool.false_eq_true, if_true, if_false, ite_true, ite_false, reduceIte, reduceCtorEq, cmp_lt, cmp_le, cmp_gt, cmp_ge, cmp_eq_i, cmp_ne_i, cmp_eq_b, cmp_ne_b, cmp_eq_s, cmp_ne_s, cmp_eq_nn, cmp_is, cmp_isnot, isNone_none, isNone_bool, isNone_int, isNone_str, isNone_list, isNone_tuple, bin_add, bin_sub, mulOk_n, mulOk_m, divOk_n, Nat.reduceLT, Int.reduceEq, Int.reduceNe, ne_eq, not_false_eq_true, decide_true, decide_false, bin_mul, bin_fdiv, bin_mod, bin_addl, bin_addt, bin_shl, bin_shr, bin_band, bin_bor, tru_b, tru_i, tru_l, tru_t, tru_o, tru_n, len_l, len_t, len_o, item_l, item_t, item_o, item_b0, item_b1, item_b2, at0, at1, at2, at3, at4, at5, atm1, blt_abs, blt_int, blt_intb, blt_tl, blt_tt, blt_ll, blt_lt, blt_sum, blt_all, blt_any, blt_min2, blt_max2, put_b0, put_b1, put_b2, szOk_0, szOk_1, szOk_n, Nat.reduceLeDiff, bin_mul2, bin_pow, Bool.not_true, Bool.not_false, wp_some, Nx_nx, Rt_rt, Option.toList_some, Option.toList_none, ev_lcR, lcR_nil, rangeD_map, zipW_map, enum_map, zip_tt, zip_tl, zip_lt, zip_ll, iter_t, iter_l, iter_o, lst_l, lst_o, seq_sq, iter_sq, len_sq, item_sq, list_sq, tuple_sq, zip_sq, pairD, step_no, stepC_eq, st_cmp, st_chain, st_and, st_or, st_not, st_isi, st_call, st_bl, st_var, setQ, ownR, and_self]
end
end PX
set_option Elab.async false
set_option autoImplicit false
set_option maxRecDepth 100000
set_option maxHeartbeats 8100000
/-! PXWF: draws in comprehensions, mixed rows, slices by a number. -/
namespace PX
open PySem
section
variable {cal : Cal} {own : List Nat} {c elt : E} {tg : Tg} {env : List Sl} {bx : Bx} {α : Type} {l : List α} {P : α → PyData}
/-- draws in a comprehension that stands in the goal -/
theorem lcR_D {X : Option (RV × G)} (hX : lcR own (stepOf cal tg c elt) (l.map P) ⟨env, bx⟩ = X) (R : α → PyData → Prop) (J : Nat → Bx → Prop) (hz : l.length ≤ 16777216) (j : J 0 bx)
    (h : ∀ a ∈ l, ∀ k bx, k < l.length → J k bx → wp (stepOf cal tg c elt (P a) ⟨wipeE env own, bx⟩) fun r => ∃ y, r.1 = some y ∧ wipeE r.2.env own = wipeE env own ∧ R a y ∧ J (k + 1) r.2.bx) :
    ∃ ys bx', X = some (.own ys, ⟨unwipe env env own, bx'⟩) ∧ All2 R l ys ∧ J l.length bx' := by
  have all2_snoc : ∀ {l : List α} {ys : List PyData} {a : α} {y : PyData}, All2 R l ys → R a y → All2 R (l ++ [a]) (ys ++ [y]) := fun {l ys a y} h => by
    induction h with
    | nil => exact fun r => .cons r .nil
    | cons r _ ih => exact fun r' => .cons r (ih r')
  obtain ⟨acc, env', bx', e1, rfl', e3, e4⟩ := lcR_I (cal := cal) (own := own) (tg := tg) (c := c) (elt := elt) (env := env) (bx := bx) (ds := l.map P) (fun k e b acc => e = wipeE env own ∧ All2 R (l.take k) acc ∧ J k b) (by rw [List.length_map]; exact hz) ⟨rfl, .nil, j⟩
    fun k d e b acc hd hI => by
      obtain ⟨rfl, ha, hj⟩ := hI
      rw [List.getElem?_map] at hd
      cases hk : l[k]? with
      | none => rw [hk] at hd; cases hd
      | some a =>
        rw [hk] at hd
        cases hd
        refine wp_mono (h a (List.mem_of_getElem? hk) k b (List.getElem?_eq_some_iff.mp hk).1 hj) fun r hr => ?_
        obtain ⟨y, h1, h2, h3, h4⟩ := hr
        refine ⟨h2, ?_, h4⟩
        rw [h1, List.take_add_one, hk]
        exact all2_snoc ha h3
  rw [List.length_map] at e3 e4
  rw [List.take_length] at e3
  exact ⟨acc, bx', by rw [← hX, e1, unwipe_eq rfl'], e3, e4⟩
end
theorem all2_mapI {α β : Type} {R : α → PyData → Prop} {Q : β → PyData} {S : α → β → Prop} {l : List α} {ys : List PyData} (h : All2 R l ys) (f : ∀ a y, R a y → ∃ b, y = Q b ∧ S a b) : ∃ bs : List β, ys = bs.map Q ∧ All2 S l bs := by
  induction h with
  | nil => exact ⟨[], rfl, .nil⟩
  | cons r _ ih =>
    obtain ⟨bs, rfl, hb⟩ := ih
    obtain ⟨b, rfl, hs⟩ := f _ _ r
    exact ⟨b :: bs, rfl, .cons hs hb⟩
theorem all2_mem {α β : Type} {S : α → β → Prop} {l : List α} {bs : List β} (h : All2 S l bs) : ∀ b ∈ bs, ∃ a ∈ l, S a b := by
  induction h with
  | nil => intro b hb; simp at hb
  | cons r _ ih =>
    intro b hb
    rcases List.mem_cons.mp hb with rfl | hb
    · exact ⟨_, List.mem_cons_self, r⟩
    · obtain ⟨a, ha, q⟩ := ih b hb
      exact ⟨a, List.mem_cons_of_mem _ ha, q⟩
theorem cut_take {xs : List PyData} {k : Nat} : cutD xs none (some (k : Int)) = xs.take k := by
  unfold cutD
  rw [HT.sIx_none, HT.sIx_nat, List.drop_zero, Nat.sub_zero]
  by_cases h : k ≤ xs.length
  · rw [Nat.min_eq_left h]
  · rw [Nat.min_eq_right (by omega), List.take_of_length_le (Nat.le_refl _), List.take_of_length_le (by omega)]
theorem cut_drop {xs : List PyData} {k : Nat} : cutD xs (some (k : Int)) none = xs.drop k := by
  unfold cutD
  rw [HT.sIx_none, HT.sIx_nat]
  by_cases h : k ≤ xs.length
  · rw [Nat.min_eq_left h, List.take_of_length_le (by rw [List.length_drop]; omega)]
  · rw [Nat.min_eq_right (by omega), Nat.sub_self, List.take_zero, List.drop_of_length_le (by omega)]
theorem slice_o {xs : List PyData} {lo hi : Option Int} : slice (.own xs) lo hi = some (.own (cutD xs lo hi)) := rfl
theorem slice_l {xs : List PyData} {lo hi : Option Int} : slice (.dat (.list xs)) lo hi = some (.own (cutD xs lo hi)) := rfl
theorem slice_t {xs : List PyData} {lo hi : Option Int} : slice (.dat (.tuple xs)) lo hi = some (.dat (.tuple (cutD xs lo hi))) := rfl
theorem erase_perm : ∀ {R : List PyData} {d : Nat} (h : d < R.length), (R[d] :: R.eraseIdx d).Perm R
  | _ :: _, 0, _ => .refl _
  | r :: R, d + 1, h => by
    have ih := erase_perm (R := R) (d := d) (by simpa using h)
    exact (List.Perm.swap ..).trans (ih.cons r)
section
variable {T : List FdD} {fu n i j : Nat}
theorem mixed_call (ht : Is T j 2 6 takeB) (h : Is T i 2 6 (B_Lmixed j)) {m : Int} {b : Int × Int × Int} {ds : List PyData} (hb : BOk m b) (hl : ds.length ≤ 1000) (hm : m + 1000 < 2 ^ 60) :
    ∃ (out : List PyData) (b' : Int × Int × Int), callN T fu (n + 2) i [.box, .dat (.list ds)] (some b) = some (.own out, some b') ∧ out.Perm ds ∧ BOk (m + 1000) b' := by
  have hr : inR ((ds.length : Nat) : Int) = true := inR_ok (by omega) (by omega)
  obtain ⟨r, bx', e, out, b', rfl, rfl, h1, h2⟩ := run_ex (fu := fu) (n := n + 1) (bx := some b) (args := [.box, .dat (.list ds)]) (Q := fun r bx => ∃ (out : List PyData) (b' : Int × Int × Int), r = .own out ∧ bx = some b' ∧ out.Perm ds ∧ BOk (m + 1000) b') h rfl (by
    simp only [B_Lmixed, ent, ev_var, ev_con, ev_bin, ev_neg, ev_not, ev_cmp, ev_chain, ev_and, ev_or, ev_ite, ev_tup, ev_lst, ev_call, ev_callk, ev_bl, ev_len, ev_bits, ev_isi, ev_sub, ev_slc, ev_callb, ev_sset, ev_rev, rev_l, rev_o, ea_nil, ea_cons, ei_rng1, ei_rng2, ei_zip, ei_enum, ei_it, sq_skip, sq_seq, sq_asg, sq_tas, sq_par, sq_setix, sq_app, sq_ite, sq_ret, sq_retn, sq_pass, sq_cont, sq_brk, sq_aug_add, ex_skip, evP, setRs, evRet, pk, peek, rd, setAll, bindT, wipeE, unwipe, noOwn, condOf, isNo, RV.pd, RV.frz, canPut, entryE, List.length_cons, List.length_nil, List.map_cons, List.map_nil, List.cons_append, List.nil_append, List.append_nil, Nat.sub_self, Nat.reduceSub, Nat.reduceAdd, Nat.zero_add, List.replicate_succ, List.replicate_zero, List.getElem?_cons_zero, List.getElem?_cons_succ, List.set_cons_zero, List.set_cons_succ, List.getD_cons_zero, List.getD_cons_succ, mapM_pd_nil, mapM_pd_cons, permL_nil, permL_cons, Option.map_some, Option.map_none, Option.bind_some, Option.pure_def, Option.bind_eq_bind, Bool.false_eq_true, if_true, if_false, ite_true, ite_false, reduceIte, reduceCtorEq, cmp_lt, cmp_le, cmp_gt, cmp_ge, cmp_eq_i, cmp_ne_i, cmp_eq_b, cmp_ne_b, cmp_eq_s, cmp_ne_s, cmp_eq_nn, cmp_is, cmp_isnot, isNone_none, isNone_bool, isNone_int, isNone_str, isNone_list, isNone_tuple, bin_add, bin_sub, mulOk_n, mulOk_m, divOk_n, Nat.reduceLT, Int.reduceEq, Int.reduceNe, ne_eq, not_false_eq_true, decide_true, decide_false, bin_mul, bin_fdiv, bin_mod, bin_addl, bin_addt, bin_shl, bin_shr, bin_band, bin_bor, tru_b, tru_i, tru_l, tru_t, tru_o, tru_n, len_l, len_t, len_o, item_l, item_t, item_o, item_b0, item_b1, item_b2, at0, at1, at2, at3, at4, at5, atm1, blt_abs, blt_int, blt_intb, blt_tl, blt_tt, blt_ll, blt_lt, blt_sum, blt_all, blt_any, blt_min2, blt_max2, put_b0, put_b1, put_b2, szOk_0, szOk_1, szOk_n, Nat.reduceLeDiff, bin_mul2, bin_pow, Bool.not_true, Bool.not_false, wp_some, Nx_nx, Rt_rt, Option.toList_some, Option.toList_none, ev_lcR, lcR_nil, rangeD_map, zipW_map, enum_map, zip_tt, zip_tl, zip_lt, zip_ll, iter_t, iter_l, iter_o, lst_l, lst_o, seq_sq, iter_sq, len_sq, item_sq, list_sq, tuple_sq, zip_sq, pairD, step_no, stepC_eq, st_cmp, st_chain, st_and, st_or, st_not, st_isi, st_call, st_bl, st_var, setQ]
    refine wp_loop (l := List.range ds.length) (P := fun i : Nat => .int (0 + i)) (fun k g => ∃ (R F : List PyData) (e4 e5 : Sl) (b' : Int × Int × Int), g = ⟨[some .box, some (.dat (.list ds)), some (.own R), some (.own F), e4, e5], some b'⟩ ∧ F.length = k ∧ (F ++ R).Perm ds ∧ BOk (m + k) b') (by simp only [ev_var, ev_con, ev_bin, ev_neg, ev_not, ev_cmp, ev_chain, ev_and, ev_or, ev_ite, ev_tup, ev_lst, ev_call, ev_callk, ev_bl, ev_len, ev_bits, ev_isi, ev_sub, ev_slc, ev_callb, ev_sset, ev_rev, rev_l, rev_o, ea_nil, ea_cons, ei_rng1, ei_rng2, ei_zip, ei_enum, ei_it, sq_skip, sq_seq, sq_asg, sq_tas, sq_par, sq_setix, sq_app, sq_ite, sq_ret, sq_retn, sq_pass, sq_cont, sq_brk, sq_aug_add, ex_skip, evP, setRs, evRet, pk, peek, rd, setAll, bindT, wipeE, unwipe, noOwn, condOf, isNo, RV.pd, RV.frz, canPut, entryE, List.length_cons, List.length_nil, List.map_cons, List.map_nil, List.cons_append, List.nil_append, List.append_nil, Nat.sub_self, Nat.reduceSub, Nat.reduceAdd, Nat.zero_add, List.replicate_succ, List.replicate_zero, List.getElem?_cons_zero, List.getElem?_cons_succ, List.set_cons_zero, List.set_cons_succ, List.getD_cons_zero, List.getD_cons_succ, mapM_pd_nil, mapM_pd_cons, permL_nil, permL_cons, Option.map_some, Option.map_none, Option.bind_some, Option.pure_def, Option.bind_eq_bind, Bool.false_eq_true, if_true, if_false, ite_true, ite_false, reduceIte, reduceCtorEq, cmp_lt, cmp_le, cmp_gt, cmp_ge, cmp_eq_i, cmp_ne_i, cmp_eq_b, cmp_ne_b, cmp_eq_s, cmp_ne_s, cmp_eq_nn, cmp_is, cmp_isnot, isNone_none, isNone_bool, isNone_int, isNone_str, isNone_list, isNone_tuple, bin_add, bin_sub, mulOk_n, mulOk_m, divOk_n, Nat.reduceLT, Int.reduceEq, Int.reduceNe, ne_eq, not_false_eq_true, decide_true, decide_false, bin_mul, bin_fdiv, bin_mod, bin_addl, bin_addt, bin_shl, bin_shr, bin_band, bin_bor, tru_b, tru_i, tru_l, tru_t, tru_o, tru_n, len_l, len_t, len_o, item_l, item_t, item_o, item_b0, item_b1, item_b2, at0, at1, at2, at3, at4, at5, atm1, blt_abs, blt_int, blt_intb, blt_tl, blt_tt, blt_ll, blt_lt, blt_sum, blt_all, blt_any, blt_min2, blt_max2, put_b0, put_b1, put_b2, szOk_0, szOk_1, szOk_n, Nat.reduceLeDiff, bin_mul2, bin_pow, Bool.not_true, Bool.not_false, wp_some, Nx_nx, Rt_rt, Option.toList_some, Option.toList_none, ev_lcR, lcR_nil, rangeD_map, zipW_map, enum_map, zip_tt, zip_tl, zip_lt, zip_ll, iter_t, iter_l, iter_o, lst_l, lst_o, seq_sq, iter_sq, len_sq, item_sq, list_sq, tuple_sq, zip_sq, pairD, step_no, stepC_eq, st_cmp, st_chain, st_and, st_or, st_not, st_isi, st_call, st_bl, st_var, setQ, hr, Int.toNat_natCast]) ⟨ds, [], none, none, b, rfl, rfl, .refl _, by simpa using hb⟩ ?_ ?_
    · rintro k a g hk ⟨R, F, e4, e5, b1, rfl, hF, hp, hb1⟩
      have hk1 := (List.getElem?_eq_some_iff.mp hk).1
      rw [List.length_range] at hk1
      have hRl : R.length = ds.length - k := by have := hp.length_eq; rw [List.length_append] at this; omega
      obtain ⟨v, b2, e2, v0, v1, hb2⟩ := take_call (fu := fu) (n := n) ht hb1 (by omega) (k := (R.length : Int)) (by omega) (by omega)
      obtain ⟨d, rfl⟩ := Int.eq_ofNat_of_zero_le v0
      have hd : d < R.length := by omega
      have a1 : L2.atI R ((d : Nat) : Int) = some R[d] := at_nat (List.getElem?_eq_getElem hd)
      have c1 := cut_take (xs := R) (k := d)
      have c2 : cutD R (some (((d : Nat) : Int) + 1)) none = R.drop (d + 1) := by
        rw [show ((d : Nat) : Int) + 1 = ((d + 1 : Nat) : Int) by omega]
        exact cut_drop
      have sF : F.length < 16777216 := by omega
      have sz : szOk ((R.take d).length + (R.drop (d + 1)).length) = true := szOk_of (by rw [List.length_take, List.length_drop]; omega)
      have pe : (F ++ [R[d]] ++ (R.take d ++ R.drop (d + 1))).Perm ds := by
        rw [List.append_assoc, ← List.eraseIdx_eq_take_drop_succ]
        exact ((erase_perm hd).append_left F).trans hp
      generalize hz : ((d : Nat) : Int) = z at *
      simp only [ev_var, ev_con, ev_bin, ev_neg, ev_not, ev_cmp, ev_chain, ev_and, ev_or, ev_ite, ev_tup, ev_lst, ev_call, ev_callk, ev_bl, ev_len, ev_bits, ev_isi, ev_sub, ev_slc, ev_callb, ev_sset, ev_rev, rev_l, rev_o, ea_nil, ea_cons, ei_rng1, ei_rng2, ei_zip, ei_enum, ei_it, sq_skip, sq_seq, sq_asg, sq_tas, sq_par, sq_setix, sq_app, sq_ite, sq_ret, sq_retn, sq_pass, sq_cont, sq_brk, sq_aug_add, ex_skip, evP, setRs, evRet, pk, peek, rd, setAll, bindT, wipeE, unwipe, noOwn, condOf, isNo, RV.pd, RV.frz, canPut, entryE, List.length_cons, List.length_nil, List.map_cons, List.map_nil, List.cons_append, List.nil_append, List.append_nil, Nat.sub_self, Nat.reduceSub, Nat.reduceAdd, Nat.zero_add, List.replicate_succ, List.replicate_zero, List.getElem?_cons_zero, List.getElem?_cons_succ, List.set_cons_zero, List.set_cons_succ, List.getD_cons_zero, List.getD_cons_succ, mapM_pd_nil, mapM_pd_cons, permL_nil, permL_cons, Option.map_some, Option.map_none, Option.bind_some, Option.pure_def, Option.bind_eq_bind, Bool.false_eq_true, if_true, if_false, ite_true, ite_false, reduceIte, reduceCtorEq, cmp_lt, cmp_le, cmp_gt, cmp_ge, cmp_eq_i, cmp_ne_i, cmp_eq_b, cmp_ne_b, cmp_eq_s, cmp_ne_s, cmp_eq_nn, cmp_is, cmp_isnot, isNone_none, isNone_bool, isNone_int, isNone_str, isNone_list, isNone_tuple, bin_add, bin_sub, mulOk_n, mulOk_m, divOk_n, Nat.reduceLT, Int.reduceEq, Int.reduceNe, ne_eq, not_false_eq_true, decide_true, decide_false, bin_mul, bin_fdiv, bin_mod, bin_addl, bin_addt, bin_shl, bin_shr, bin_band, bin_bor, tru_b, tru_i, tru_l, tru_t, tru_o, tru_n, len_l, len_t, len_o, item_l, item_t, item_o, item_b0, item_b1, item_b2, at0, at1, at2, at3, at4, at5, atm1, blt_abs, blt_int, blt_intb, blt_tl, blt_tt, blt_ll, blt_lt, blt_sum, blt_all, blt_any, blt_min2, blt_max2, put_b0, put_b1, put_b2, szOk_0, szOk_1, szOk_n, Nat.reduceLeDiff, bin_mul2, bin_pow, Bool.not_true, Bool.not_false, wp_some, Nx_nx, Rt_rt, Option.toList_some, Option.toList_none, ev_lcR, lcR_nil, rangeD_map, zipW_map, enum_map, zip_tt, zip_tl, zip_lt, zip_ll, iter_t, iter_l, iter_o, lst_l, lst_o, seq_sq, iter_sq, len_sq, item_sq, list_sq, tuple_sq, zip_sq, pairD, step_no, stepC_eq, st_cmp, st_chain, st_and, st_or, st_not, st_isi, st_call, st_bl, st_var, setQ, e2, a1, appE, sF, slice_o, c1, c2, sz]
      exact .inl ⟨_, _, _, _, _, rfl, by simp [hF], pe, hb2.mono (by omega)⟩
    · rintro g ⟨R, F, e4, e5, b1, rfl, hF, hp, hb1⟩
      rw [List.length_range] at hF
      have hR : R = [] := by
        have := hp.length_eq
        rw [List.length_append] at this
        exact List.eq_nil_of_length_eq_zero (by omega)
      subst hR
      rw [List.append_nil] at hp
      simp only [ev_var, ev_con, ev_bin, ev_neg, ev_not, ev_cmp, ev_chain, ev_and, ev_or, ev_ite, ev_tup, ev_lst, ev_call, ev_callk, ev_bl, ev_len, ev_bits, ev_isi, ev_sub, ev_slc, ev_callb, ev_sset, ev_rev, rev_l, rev_o, ea_nil, ea_cons, ei_rng1, ei_rng2, ei_zip, ei_enum, ei_it, sq_skip, sq_seq, sq_asg, sq_tas, sq_par, sq_setix, sq_app, sq_ite, sq_ret, sq_retn, sq_pass, sq_cont, sq_brk, sq_aug_add, ex_skip, evP, setRs, evRet, pk, peek, rd, setAll, bindT, wipeE, unwipe, noOwn, condOf, isNo, RV.pd, RV.frz, canPut, entryE, List.length_cons, List.length_nil, List.map_cons, List.map_nil, List.cons_append, List.nil_append, List.append_nil, Nat.sub_self, Nat.reduceSub, Nat.reduceAdd, Nat.zero_add, List.replicate_succ, List.replicate_zero, List.getElem?_cons_zero, List.getElem?_cons_succ, List.set_cons_zero, List.set_cons_succ, List.getD_cons_zero, List.getD_cons_succ, mapM_pd_nil, mapM_pd_cons, permL_nil, permL_cons, Option.map_some, Option.map_none, Option.bind_some, Option.pure_def, Option.bind_eq_bind, Bool.false_eq_true, if_true, if_false, ite_true, ite_false, reduceIte, reduceCtorEq, cmp_lt, cmp_le, cmp_gt, cmp_ge, cmp_eq_i, cmp_ne_i, cmp_eq_b, cmp_ne_b, cmp_eq_s, cmp_ne_s, cmp_eq_nn, cmp_is, cmp_isnot, isNone_none, isNone_bool, isNone_int, isNone_str, isNone_list, isNone_tuple, bin_add, bin_sub, mulOk_n, mulOk_m, divOk_n, Nat.reduceLT, Int.reduceEq, Int.reduceNe, ne_eq, not_false_eq_true, decide_true, decide_false, bin_mul, bin_fdiv, bin_mod, bin_addl, bin_addt, bin_shl, bin_shr, bin_band, bin_bor, tru_b, tru_i, tru_l, tru_t, tru_o, tru_n, len_l, len_t, len_o, item_l, item_t, item_o, item_b0, item_b1, item_b2, at0, at1, at2, at3, at4, at5, atm1, blt_abs, blt_int, blt_intb, blt_tl, blt_tt, blt_ll, blt_lt, blt_sum, blt_all, blt_any, blt_min2, blt_max2, put_b0, put_b1, put_b2, szOk_0, szOk_1, szOk_n, Nat.reduceLeDiff, bin_mul2, bin_pow, Bool.not_true, Bool.not_false, wp_some, Nx_nx, Rt_rt, Option.toList_some, Option.toList_none, ev_lcR, lcR_nil, rangeD_map, zipW_map, enum_map, zip_tt, zip_tl, zip_lt, zip_ll, iter_t, iter_l, iter_o, lst_l, lst_o, seq_sq, iter_sq, len_sq, item_sq, list_sq, tuple_sq, zip_sq, pairD, step_no, stepC_eq, st_cmp, st_chain, st_and, st_or, st_not, st_isi, st_call, st_bl, st_var, setQ]
      exact ⟨F, b1, rfl, rfl, hp, hb1.mono (by rw [List.length_range]; omega)⟩)
  exact ⟨out, b', e, h1, h2⟩
end
end PX
set_option Elab.async false
set_option autoImplicit false
set_option maxRecDepth 100000
set_option maxHeartbeats 8100000
/-! PXWG: a by-hand part by the kernel, its heavy calls by their laws. -/
namespace PX
open PySem
def allB (f : PyData → PyData → Bool) : List PyData → List PyData → Bool
  | [], [] => true
  | a :: as, b :: bs => match f a b with
    | true => allB f as bs
    | false => false
  | _, _ => false
def pdEq : Nat → PyData → PyData → Bool
  | _, .none, .none => true
  | _, .bool a, .bool b => a == b
  | _, .int a, .int b => decide (a = b)
  | _, .str a, .str b => decide (a = b)
  | n + 1, .list as, .list bs => allB (pdEq n) as bs
  | n + 1, .tuple as, .tuple bs => allB (pdEq n) as bs
  | _, _, _ => false
theorem allB_ok {f : PyData → PyData → Bool} (h : ∀ a b, f a b = true → a = b) : ∀ {as bs : List PyData}, allB f as bs = true → as = bs
  | [], [], _ => rfl
  | [], _ :: _, e => by cases e
  | _ :: _, [], e => by cases e
  | a :: as, b :: bs, e => by
    unfold allB at e
    cases q : f a b with
    | true => rw [q] at e; rw [h a b q, allB_ok h e]
    | false => rw [q] at e; cases e
theorem pdEq_ok : ∀ (n : Nat) (a b : PyData), pdEq n a b = true → a = b := by
  intro n
  induction n with
  | zero =>
    intro a b h
    unfold pdEq at h
    split at h
    · rfl
    · rw [eq_of_beq h]
    · rw [of_decide_eq_true h]
    · rw [of_decide_eq_true h]
    all_goals first | (rename_i q; cases q; done) | cases h
  | succ n ih =>
    intro a b h
    unfold pdEq at h
    split at h
    · rfl
    · rw [eq_of_beq h]
    · rw [of_decide_eq_true h]
    · rw [of_decide_eq_true h]
    · rename_i q; cases q; rw [allB_ok ih h]
    · rename_i q; cases q; rw [allB_ok ih h]
    · cases h
def allF (f : PyData → Bool) : List PyData → Bool
  | [] => true
  | a :: as => match f a with
    | true => allF f as
    | false => false
def fineB : Nat → PyData → Bool
  | _, .none => true
  | _, .bool _ => true
  | _, .int _ => true
  | _, .str x => okd (.str x)
  | n + 1, .list as => decide (as.length ≤ 16777216) && allF (fineB n) as
  | n + 1, .tuple as => decide (as.length ≤ 16777216) && allF (fineB n) as
  | _, _ => false
theorem allF_ok {f : PyData → Bool} : ∀ {as : List PyData}, allF f as = true → ∀ d ∈ as, f d = true
  | [], _, d, hd => by simp at hd
  | a :: as, e, d, hd => by
    unfold allF at e
    cases q : f a with
    | false => rw [q] at e; cases e
    | true =>
      rw [q] at e
      rcases List.mem_cons.mp hd with rfl | hd
      · exact q
      · exact allF_ok e d hd
theorem fineB_ok : ∀ (n : Nat) (a : PyData), fineB n a = true → Fine n a := by
  intro n
  induction n with
  | zero => intro a h; cases a <;> first | exact .none | exact .bool _ | exact .int _ | exact .str _ h | cases h
  | succ n ih =>
    intro a h
    cases a with
    | none => exact .none
    | bool _ => exact .bool _
    | int _ => exact .int _
    | str _ => exact .str _ h
    | dict _ => cases h
    | list as =>
      have h : (decide (as.length ≤ 16777216) && allF (fineB n) as) = true := h
      rw [Bool.and_eq_true, decide_eq_true_eq] at h
      exact .list h.1 fun d hd => ih d (allF_ok h.2 d hd)
    | tuple as =>
      have h : (decide (as.length ≤ 16777216) && allF (fineB n) as) = true := h
      rw [Bool.and_eq_true, decide_eq_true_eq] at h
      exact .tuple h.1 fun d hd => ih d (allF_ok h.2 d hd)
def argsEq : List RV → List PyData → Bool
  | [], [] => true
  | .dat a :: as, b :: bs => match pdEq 10 a b with
    | true => argsEq as bs
    | false => false
  | _, _ => false
theorem argsEq_ok : ∀ {as : List RV} {bs : List PyData}, argsEq as bs = true → as = bs.map .dat
  | [], [], _ => rfl
  | [], _ :: _, e => by cases e
  | .dat _ :: _, [], e => by cases e
  | .own _ :: _, [], e => by cases e
  | .own _ :: _, _ :: _, e => by cases e
  | .box :: _, [], e => by cases e
  | .box :: _, _ :: _, e => by cases e
  | .dat a :: as, b :: bs, e => by
    unfold argsEq at e
    cases q : pdEq 10 a b with
    | true => rw [q] at e; rw [pdEq_ok 10 a b q, argsEq_ok e]; rfl
    | false => rw [q] at e; cases e
abbrev Spc := Nat × List PyData × RV
def pick : List Spc → Nat → List RV → Option RV
  | [], _, _ => none
  | s :: l, i, args => match Nat.beq s.1 i with
    | true => match argsEq args s.2.1 with
      | true => some s.2.2
      | false => pick l i args
    | false => pick l i args
theorem pick_ok {i : Nat} {args : List RV} {r : RV} : ∀ {l : List Spc}, pick l i args = some r → ∃ s ∈ l, s.1 = i ∧ args = s.2.1.map .dat ∧ r = s.2.2
  | [], e => by cases e
  | s :: l, e => by
    unfold pick at e
    have nxt : pick l i args = some r → ∃ t ∈ s :: l, t.1 = i ∧ args = t.2.1.map .dat ∧ r = t.2.2 := fun e => by
      obtain ⟨t, h1, h2⟩ := pick_ok e
      exact ⟨t, List.mem_cons_of_mem _ h1, h2⟩
    cases q : Nat.beq s.1 i with
    | false => rw [q] at e; exact nxt e
    | true =>
      rw [q] at e
      cases q2 : argsEq args s.2.1 with
      | false => simp only [q2] at e; exact nxt e
      | true =>
        simp only [q2] at e
        cases e
        exact ⟨s, List.mem_cons_self, Nat.eq_of_beq_eq_true q, argsEq_ok q2, rfl⟩
def swap (si : Nat) (l : List Spc) (cal : Cal) : Cal := fun i args bx => match pick l i args with
  | some r => some (r, bx)
  | none => match Nat.beq i si, args with
    | true, [.dat a, .dat b] => match pdEq 10 a b && fineB 10 a with
      | true => some (.dat (.bool true), bx)
      | false => cal i args bx
    | _, _ => cal i args bx
section
variable {T : List FdD} {fu n i si : Nat}
theorem swap_eq {l : List Spc} (h : Is T si 2 4 (sameB si)) (hn : 10 ≤ n) (hs : ∀ s ∈ l, ∀ bx, callN T fu (n + 1) s.1 (s.2.1.map .dat) bx = some (s.2.2, bx)) : swap si l (callN T fu (n + 1)) = callN T fu (n + 1) := by
  funext i args bx
  unfold swap
  split
  · rename_i r q
    obtain ⟨s, h1, rfl, rfl, rfl⟩ := pick_ok q
    exact (hs s h1 bx).symm
  · split
    · rename_i a b q _
      split
      · rename_i e
        rw [Bool.and_eq_true] at e
        have := pdEq_ok 10 a b e.1
        subst this
        have hi : i = si := Nat.eq_of_beq_eq_true q
        rw [hi]
        exact (same_true h 10 a bx (fineB_ok 10 a e.2) n hn).symm
      · rfl
    · rfl
def rtTrue : Option R → Bool
  | some (.rt (.dat (.bool true)) none) => true
  | _ => false
theorem run_swap {N : Nat} {b : S} {l : List Spc} (h : Is T i 0 N b) (h1 : Is T si 2 4 (sameB si)) (hn : 10 ≤ n) (hs : ∀ s ∈ l, ∀ bx, callN T fu (n + 1) s.1 (s.2.1.map .dat) bx = some (s.2.2, bx))
    (e : rtTrue (exS (swap si l (callN T fu (n + 1))) fu b ⟨List.replicate N none, none⟩) = true) : callN T fu (n + 2) i [] none = some (.dat (.bool true), none) := by
  rw [swap_eq h1 hn hs] at e
  refine run_is (n := n + 1) h rfl ?_
  have : ent N [] = List.replicate N none := rfl
  rw [this]
  unfold rtTrue at e
  split at e
  · assumption
  · cases e
end
end PX
set_option Elab.async false
set_option autoImplicit false
set_option maxRecDepth 100000
set_option maxHeartbeats 0

/-! the table of law k29: its defs by slots -/
namespace Law_k29
open PX PySem.Spec L2 PyProof.Rows PySem
def tops (i : Nat) : Stmt := PySem.Challenge.pw_quickexact_k29_cells_of_one_place.main.body.getD i (.Pass ⟨0, 0, 0, 0⟩)
-- _law_take
def b0 : S := (.seq (.ite (.cmp .gt (.sub (.var 0) (.con (.int 0))) (.con (.int 0))) (.seq (.asg 2 (.bin .mod (.bl .int (.cons (.sub (.var 0) (.con
    (.int 0))) .nil)) (.var 1))) (.seq (.setix 0 (.con (.int 0)) (.bin .fdiv (.sub (.var 0) (.con (.int 0))) (.var 1))) (.seq (.ret (.var 2)) .skip)))
    .skip) (.seq (.setix 0 (.con (.int 2)) (.bin .add (.sub (.var 0) (.con (.int 2))) (.con (.int 1)))) (.seq (.asg 3 (.bin .mod (.bl .int (.cons
    (.bin .mul (.bin .add (.sub (.var 0) (.con (.int 1))) (.bin .mul (.con (.int 48271)) (.sub (.var 0) (.con (.int 2))))) (.bin .add (.con (.int
    39373)) (.sub (.var 0) (.con (.int 2))))) .nil)) (.con (.int 2147483647)))) (.seq (.asg 4 (.bin .add (.bin .mod (.bl .int (.cons (.var 3) .nil))
    (.con (.int 40009))) (.con (.int 7)))) (.seq (.asg 5 (.bin .mod (.bl .int (.cons (.bin .mul (.bin .add (.bin .add (.var 3) (.sub (.var 0) (.con
    (.int 2)))) (.bin .fdiv (.sub (.var 0) (.con (.int 1))) (.con (.int 1000003)))) (.var 4)) .nil)) (.con (.int 2147483629)))) (.seq (.ret (.bin .mod
    (.bl .int (.cons (.bin .fdiv (.bin .mod (.bl .int (.cons (.bin .add (.bin .mul (.var 5) (.con (.int 48271))) (.var 3)) .nil)) (.con (.int
    2147483587))) (.con (.int 64))) .nil)) (.var 1))) .skip))))))
def d0 : FdD := ⟨"_law_take", [("_law_box_here" : PySem.Str), ("_law_below_so" : PySem.Str)], [("_law_box_here" : PySem.Str), ("_law_below_so" :
    PySem.Str), ("_law_drawn_so" : PySem.Str), ("_law_once" : PySem.Str), ("_law_far_so" : PySem.Str), ("_law_twice_so" : PySem.Str)], b0⟩
-- _law_box
def b1 : S := (.seq (.asg 2 (.ite (.cmp .lt (.var 1) (.len (.var 0))) (.sub (.var 0) (.var 1)) (.con (.int 0)))) (.seq (.ret (.lst (.cons (.bin .mul
    (.bl .abs (.cons (.var 2) .nil)) (.bl .int (.cons (.cmp .ge (.bl .abs (.cons (.var 2) .nil)) (.bin .pow (.con (.int 10)) (.con (.int 18))))
    .nil))) (.cons (.bin .add (.bin .add (.bin .mod (.bl .int (.cons (.var 2) .nil)) (.con (.int 2305843009213693951))) (.bin .mul (.con (.int 39373))
    (.var 1))) (.con (.int 41277))) (.cons (.con (.int 0)) .nil))))) .skip))
def d1 : FdD := ⟨"_law_box", [("_law_script" : PySem.Str), ("_law_k" : PySem.Str)], [("_law_script" : PySem.Str), ("_law_k" : PySem.Str), ("_law_cell"
    : PySem.Str)], b1⟩
-- _law_cells
def b2 : S := (.seq (.asg 2 (.or (.bl .list (.cons (.slc (.var 0) .no (.var 1)) .nil)) (.lst (.cons (.con (.int 0)) .nil)))) (.seq (.loop (.enum (.slc
    (.var 0) (.var 1) (.con (.int 63)))) (.tp [3, 4]) (.seq (.asg 5 (.bin .mod (.bl .int (.cons (.var 3) .nil)) (.var 1))) (.seq (.setix 2 (.var 5)
    (.bin .add (.sub (.var 2) (.var 5)) (.bin .mul (.var 4) (.bin .add (.var 3) (.con (.int 2)))))) .skip))) (.seq (.ret (.var 2)) .skip)))
def d2 : FdD := ⟨"_law_cells", [("_law_script" : PySem.Str), ("_law_most_so" : PySem.Str)], [("_law_script" : PySem.Str), ("_law_most_so" :
    PySem.Str), ("_law_cells_here" : PySem.Str), ("_law_k" : PySem.Str), ("_law_cell" : PySem.Str), ("_law_at_so" : PySem.Str)], b2⟩
-- _law_of
def b3 : S := (.seq (.ret (.sub (.var 1) (.call 0 (.cons (.var 0) (.cons (.len (.var 1)) .nil))))) .skip)
def d3 : FdD := ⟨"_law_of", [("_law_box_here" : PySem.Str), ("_law_pool_so" : PySem.Str)], [("_law_box_here" : PySem.Str), ("_law_pool_so" :
    PySem.Str)], b3⟩
-- _law_same
def b4 : S := (.seq (.ite (.isi (.var 1) [.list, .tuple]) (.seq (.ite (.or (.cmp .ne (.isi (.var 0) [.list]) (.isi (.var 1) [.list])) (.cmp .ne (.isi
    (.var 0) [.tuple]) (.isi (.var 1) [.tuple]))) (.seq (.ret (.con (.bool false))) .skip) .skip) (.seq (.ret (.and (.cmp .eq (.len (.var 0)) (.len
    (.var 1))) (.bl .all (.cons (.lc [2, 3] (.zip (.var 0) (.var 1)) (.tp [2, 3]) .no (.call 4 (.cons (.var 2) (.cons (.var 3) .nil)))) .nil))))
    .skip)) .skip) (.seq (.ite (.or (.cmp .is_ (.var 1) (.con .none)) (.isi (.var 1) [.bool, .str])) (.seq (.ret (.and (.cmp .eq (.var 0) (.var 1))
    (.and (.cmp .eq (.isi (.var 0) [.bool]) (.isi (.var 1) [.bool])) (.cmp .eq (.cmp .is_ (.var 0) (.con .none)) (.cmp .is_ (.var 1) (.con .none))))))
    .skip) .skip) (.seq (.ret (.and (.isi (.var 0) [.int]) (.and (.not (.isi (.var 0) [.bool])) (.cmp .eq (.var 0) (.var 1))))) .skip)))
def d4 : FdD := ⟨"_law_same", [("_law_got" : PySem.Str), ("_law_due_so" : PySem.Str)], [("_law_got" : PySem.Str), ("_law_due_so" : PySem.Str),
    ("_law_own" : PySem.Str), ("_law_far" : PySem.Str)], b4⟩
-- _law_right
def b5 : S := (.seq (.loop (.rng1 (.con (.int 8))) (.nm 1) (.seq (.asg 2 (.slc (.call 15 (.cons (.var 0) (.cons (.lst (.cons (.con (.str "i")) (.cons
    (.con (.str "j")) (.cons (.con (.str "row")) .nil)))) .nil))) .no (.call 0 (.cons (.var 0) (.cons (.con (.int 4)) .nil))))) (.seq (.asg 3 (.bl
    .tuple (.cons (.lc [4] (.it (.var 2)) (.nm 4) .no (.tup (.cons (.var 4) (.cons (.bin .add (.con (.int 1)) (.call 0 (.cons (.var 0) (.cons (.con
    (.int 4)) .nil)))) .nil)))) .nil))) (.seq (.asg 5 (.call 3 (.cons (.var 0) (.cons (.lst (.cons (.con (.int 2)) (.cons (.con (.int 9)) (.cons (.con
    (.int 30)) .nil)))) .nil)))) (.seq (.asg 6 (.tup (.cons (.bl .tuple (.cons (.lc [4] (.it (.var 3)) (.nm 4) .no (.bin .sub (.call 0 (.cons (.var 0)
    (.cons (.bin .add (.bin .mul (.con (.int 2)) (.var 5)) (.con (.int 1))) .nil))) (.var 5))) .nil)) (.cons (.bin .sub (.call 0 (.cons (.var 0)
    (.cons (.con (.int 99)) .nil))) (.con (.int 49))) .nil)))) (.seq (.par [7, 8] [(.call 16 (.cons (.var 3) (.cons (.var 6) .nil))), (.lst (.cons
    (.call 14 (.cons (.var 3) .nil)) (.cons (.call 14 (.cons (.var 6) .nil)) .nil)))]) (.seq (.asg 9 (.sset (.var 7))) (.seq (.asg 10 (.lst (.cons
    (.call 12 (.cons (.var 3) (.cons (.var 6) .nil))) (.cons (.call 12 (.cons (.sub (.var 8) (.con (.int 0))) (.cons (.sub (.var 8) (.con (.int 1)))
    .nil))) (.cons (.call 13 (.cons (.var 3) (.cons (.var 6) .nil))) .nil))))) (.seq (.asg 10 (.bin .add (.var 10) (.lst (.cons (.call 13 (.cons (.sub
    (.var 8) (.con (.int 0))) (.cons (.sub (.var 8) (.con (.int 1))) .nil))) (.cons (.var 8) .nil))))) (.seq (.asg 11 (.lst (.cons (.var 9) (.cons
    (.var 9) (.cons (.cmp .lt (.len (.var 9)) (.len (.var 7))) (.cons (.cmp .lt (.len (.var 9)) (.len (.var 7))) .nil)))))) (.seq (.ite (.not (.call 4
    (.cons (.var 10) (.cons (.bin .add (.var 11) (.lst (.cons (.lst (.cons (.call 14 (.cons (.var 3) .nil)) (.cons (.call 14 (.cons (.var 6) .nil))
    .nil))) .nil))) .nil)))) (.seq (.ret (.con (.bool false))) .skip) .skip) .skip))))))))))) (.seq (.ret (.con (.bool true))) .skip))
def d5 : FdD := ⟨"_law_right", [("_law_box_here" : PySem.Str)], [("_law_box_here" : PySem.Str), ("_law_turn" : PySem.Str), ("_law_names_so" :
    PySem.Str), ("_law_nest_so" : PySem.Str), ("_law_own" : PySem.Str), ("_law_much_so" : PySem.Str), ("_law_spot_so" : PySem.Str), ("_law_all_so" :
    PySem.Str), ("_law_soft_so" : PySem.Str), ("_law_every_so" : PySem.Str), ("_law_got" : PySem.Str), ("_law_due_so" : PySem.Str)], b5⟩
-- law
def b6 : S := (.seq (.ite (.not (.call 17 .nil)) (.seq (.ret (.con (.bool false))) .skip) .skip) (.seq (.asg 1 (.call 2 (.cons (.var 0) (.cons (.con
    (.int 3)) .nil)))) (.seq (.ret (.bl .all (.cons (.lc [2] (.rng1 (.len (.var 1))) (.nm 2) .no (.callb 5 (.call 1 (.cons (.var 1) (.cons (.var 2)
    .nil))))) .nil))) .skip)))
def d6 : FdD := ⟨"law", [("_law_script" : PySem.Str)], [("_law_script" : PySem.Str), ("_law_cells_so" : PySem.Str), ("_law_k" : PySem.Str)], b6⟩
-- least_sum
def b7 : S := (.seq (.ret (.bl .sum (.cons (.lc [2, 3] (.zip (.var 0) (.var 1)) (.tp [2, 3]) (.cmp .lt (.var 2) (.con (.int 0))) (.bin .mul (.var 2)
    (.var 3))) .nil))) .skip)
def d7 : FdD := ⟨"least_sum", [("coefficients" : PySem.Str), ("bounds" : PySem.Str)], [("coefficients" : PySem.Str), ("bounds" : PySem.Str), ("own" :
    PySem.Str), ("most" : PySem.Str)], b7⟩
-- marks_along
def b8 : S := (.seq (.asg 2 (.lst (.cons (.con (.int 1)) .nil))) (.seq (.loop (.zip (.var 0) (.var 1)) (.tp [3, 4]) (.seq (.par [5, 6, 7] [(.sub (.var
    2) (.neg (.con (.int 1)))), (.var 4), (.con (.int 1))]) (.seq (.whil (.cmp .gt (.var 6) (.con (.int 0))) (.seq (.asg 8 (.bl .min2 (.cons (.var 7)
    (.cons (.var 6) .nil)))) (.seq (.asg 5 (.bin .bor (.var 5) (.bin .shl (.var 5) (.bin .mul (.bl .abs (.cons (.var 3) .nil)) (.var 8))))) (.seq
    (.par [6, 7] [(.bin .sub (.var 6) (.var 8)), (.bin .add (.var 7) (.var 7))]) .skip)))) (.seq (.app 2 (.var 5)) .skip)))) (.seq (.ret (.var 2))
    .skip)))
def d8 : FdD := ⟨"marks_along", [("coefficients" : PySem.Str), ("bounds" : PySem.Str)], [("coefficients" : PySem.Str), ("bounds" : PySem.Str),
    ("found" : PySem.Str), ("own" : PySem.Str), ("most" : PySem.Str), ("here" : PySem.Str), ("left" : PySem.Str), ("part" : PySem.Str), ("some" :
    PySem.Str)], b8⟩
-- is_marked
def b9 : S := (.seq (.ret (.and (.chain .le .lt (.con (.int 0)) (.var 1) (.bits (.var 0))) (.cmp .eq (.bin .band (.bin .shr (.var 0) (.var 1)) (.con
    (.int 1))) (.con (.int 1))))) .skip)
def d9 : FdD := ⟨"is_marked", [("marks" : PySem.Str), ("at" : PySem.Str)], [("marks" : PySem.Str), ("at" : PySem.Str)], b9⟩
-- sums
def b10 : S := (.seq (.par [2, 3] [(.sub (.call 8 (.cons (.var 0) (.cons (.var 1) .nil))) (.neg (.con (.int 1)))), (.call 7 (.cons (.var 0) (.cons
    (.var 1) .nil)))]) (.seq (.ret (.lc [4] (.rng1 (.bits (.var 2))) (.nm 4) (.call 9 (.cons (.var 2) (.cons (.var 4) .nil))) (.bin .add (.var 3)
    (.var 4)))) .skip))
def d10 : FdD := ⟨"sums", [("coefficients" : PySem.Str), ("bounds" : PySem.Str)], [("coefficients" : PySem.Str), ("bounds" : PySem.Str), ("marks" :
    PySem.Str), ("least" : PySem.Str), ("at" : PySem.Str)], b10⟩
-- how_many_rounds
def b11 : S := (.seq (.asg 1 (.con (.int 1))) (.seq (.loop (.it (.var 0)) (.tp [2, 3]) (.seq (.asg 1 (.bin .mul (.var 1) (.bin .add (.var 3) (.con
    (.int 1))))) .skip)) (.seq (.ret (.var 1)) .skip)))
def d11 : FdD := ⟨"how_many_rounds", [("loops" : PySem.Str)], [("loops" : PySem.Str), ("found" : PySem.Str), ("name" : PySem.Str), ("most" :
    PySem.Str)], b11⟩
-- cells_of
def b12 : S := (.seq (.asg 2 (.lc [3, 4, 5] (.zip (.sub (.var 1) (.con (.int 0))) (.var 0)) (.tq [.inl 3, .inr [4, 5]]) (.cmp .ne (.var 3) (.con (.int
    0))) (.tup (.cons (.var 3) (.cons (.var 5) .nil))))) (.seq (.ret (.lc [3] (.it (.call 10 (.cons (.lc [3, 5] (.it (.var 2)) (.tp [3, 5]) .no (.var
    3)) (.cons (.lc [3, 5] (.it (.var 2)) (.tp [3, 5]) .no (.var 5)) .nil)))) (.nm 3) .no (.bin .add (.var 3) (.sub (.var 1) (.con (.int 1))))))
    .skip))
def d12 : FdD := ⟨"cells_of", [("loops" : PySem.Str), ("place" : PySem.Str)], [("loops" : PySem.Str), ("place" : PySem.Str), ("rows" : PySem.Str),
    ("own" : PySem.Str), ("name" : PySem.Str), ("most" : PySem.Str)], b12⟩
-- touches_itself
def b13 : S := (.seq (.ret (.cmp .lt (.len (.call 12 (.cons (.var 0) (.cons (.var 1) .nil)))) (.call 11 (.cons (.var 0) .nil)))) .skip)
def d13 : FdD := ⟨"touches_itself", [("loops" : PySem.Str), ("place" : PySem.Str)], [("loops" : PySem.Str), ("place" : PySem.Str)], b13⟩
-- _law_lists
def b14 : S := (.seq (.ret (.ite (.isi (.var 0) [.list, .tuple]) (.lc [1] (.it (.var 0)) (.nm 1) .no (.call 14 (.cons (.var 1) .nil))) (.var 0)))
    .skip)
def d14 : FdD := ⟨"_law_lists", [("_law_matter" : PySem.Str)], [("_law_matter" : PySem.Str), ("_law_bit" : PySem.Str)], b14⟩
-- _law_mixed
def b15 : S := (.seq (.par [2, 3] [(.bl .list (.cons (.var 1) .nil)), (.lst .nil)]) (.seq (.loop (.rng1 (.len (.var 1))) (.nm 4) (.seq (.asg 5 (.call
    0 (.cons (.var 0) (.cons (.len (.var 2)) .nil)))) (.seq (.app 3 (.sub (.var 2) (.var 5))) (.seq (.asg 2 (.bin .add (.slc (.var 2) .no (.var 5))
    (.slc (.var 2) (.bin .add (.var 5) (.con (.int 1))) .no))) .skip)))) (.seq (.ret (.var 3)) .skip)))
def d15 : FdD := ⟨"_law_mixed", [("_law_box_here" : PySem.Str), ("_law_rows_so" : PySem.Str)], [("_law_box_here" : PySem.Str), ("_law_rows_so" :
    PySem.Str), ("_law_rest_so" : PySem.Str), ("_law_found" : PySem.Str), ("_law_turn" : PySem.Str), ("_law_at_so" : PySem.Str)], b15⟩
-- _law_all
def b16 : S := (.seq (.asg 2 (.lst (.cons (.sub (.var 1) (.con (.int 1))) .nil))) (.seq (.loop (.zip (.sub (.var 1) (.con (.int 0))) (.var 0)) (.tp
    [3, 4]) (.seq (.asg 5 (.lst .nil)) (.seq (.loop (.it (.var 2)) (.nm 6) (.seq (.asg 5 (.bin .add (.var 5) (.lc [7] (.rng1 (.bin .add (.sub (.var 4)
    (.con (.int 1))) (.con (.int 1)))) (.nm 7) .no (.bin .add (.var 6) (.bin .mul (.var 3) (.var 7)))))) .skip)) (.seq (.asg 2 (.var 5)) .skip))))
    (.seq (.ret (.var 2)) .skip)))
def d16 : FdD := ⟨"_law_all", [("_law_nest_so" : PySem.Str), ("_law_spot_so" : PySem.Str)], [("_law_nest_so" : PySem.Str), ("_law_spot_so" :
    PySem.Str), ("_law_found" : PySem.Str), ("_law_own" : PySem.Str), ("_law_bit" : PySem.Str), ("_law_later" : PySem.Str), ("_law_far_so" :
    PySem.Str), ("_law_k" : PySem.Str)], b16⟩
-- _law_by_hand_right
def b17 : S := (.seq (.par [0, 1] [(.tup (.cons (.tup (.cons (.con (.str "i")) (.cons (.con (.int 5)) .nil))) (.cons (.tup (.cons (.con (.str "j"))
    (.cons (.con (.int 3)) .nil))) .nil))), (.tup (.cons (.tup (.cons (.con (.str "a")) (.cons (.con (.int 1)) .nil))) (.cons (.tup (.cons (.con (.str
    "b")) (.cons (.con (.int 1)) .nil))) (.cons (.tup (.cons (.con (.str "c")) (.cons (.con (.int 1)) .nil))) .nil))))]) (.seq (.asg 2 (.lst (.cons
    (.tup (.cons (.var 0) (.cons (.tup (.cons (.tup (.cons (.con (.int 2)) (.cons (.con (.int 0)) .nil))) (.cons (.con (.int 0)) .nil))) .nil)))
    (.cons (.tup (.cons (.var 0) (.cons (.tup (.cons (.tup (.cons (.con (.int 0)) (.cons (.con (.int 0)) .nil))) (.cons (.con (.int 7)) .nil)))
    .nil))) (.cons (.tup (.cons (.var 0) (.cons (.tup (.cons (.tup (.cons (.con (.int 0)) (.cons (.con (.int 3)) .nil))) (.cons (.con (.int 1))
    .nil))) .nil))) (.cons (.tup (.cons (.var 1) (.cons (.tup (.cons (.tup (.cons (.con (.int 1)) (.cons (.con (.int 2)) (.cons (.con (.int 4))
    .nil)))) (.cons (.neg (.con (.int 3))) .nil))) .nil))) (.cons (.tup (.cons (.tup .nil) (.cons (.tup (.cons (.tup .nil) (.cons (.con (.int 4))
    .nil))) .nil))) .nil))))))) (.seq (.asg 2 (.bin .add (.var 2) (.lst (.cons (.tup (.cons (.var 1) (.cons (.tup (.cons (.tup (.cons (.con (.int 1))
    (.cons (.neg (.con (.int 1))) (.cons (.con (.int 0)) .nil)))) (.cons (.con (.int 0)) .nil))) .nil))) (.cons (.tup (.cons (.tup (.cons (.tup (.cons
    (.con (.str "i")) (.cons (.con (.int 3)) .nil))) .nil)) (.cons (.tup (.cons (.tup (.cons (.neg (.con (.int 2))) .nil)) (.cons (.con (.int 1))
    .nil))) .nil))) (.cons (.tup (.cons (.tup (.cons (.tup (.cons (.con (.str "i")) (.cons (.con (.int 3)) .nil))) .nil)) (.cons (.tup (.cons (.tup
    (.cons (.con (.int 0)) .nil)) (.cons (.con (.int 9)) .nil))) .nil))) .nil)))))) (.seq (.asg 3 (.lst (.cons (.lc [4] (.it (.var 2)) (.nm 4) .no
    (.call 12 (.cons (.sub (.var 4) (.con (.int 0))) (.cons (.sub (.var 4) (.con (.int 1))) .nil)))) (.cons (.lc [4] (.it (.var 2)) (.nm 4) .no (.call
    13 (.cons (.sub (.var 4) (.con (.int 0))) (.cons (.sub (.var 4) (.con (.int 1))) .nil)))) .nil)))) (.seq (.asg 5 (.lst (.cons (.lst (.cons (.lst
    (.cons (.con (.int 0)) (.cons (.con (.int 2)) (.cons (.con (.int 4)) (.cons (.con (.int 6)) (.cons (.con (.int 8)) (.cons (.con (.int 10))
    .nil))))))) (.cons (.lst (.cons (.con (.int 7)) .nil)) (.cons (.lst (.cons (.con (.int 1)) (.cons (.con (.int 4)) (.cons (.con (.int 7)) (.cons
    (.con (.int 10)) .nil))))) (.cons (.lst (.cons (.neg (.con (.int 3))) (.cons (.neg (.con (.int 2))) (.cons (.neg (.con (.int 1))) (.cons (.con
    (.int 0)) (.cons (.con (.int 1)) (.cons (.con (.int 2)) (.cons (.con (.int 3)) (.cons (.con (.int 4)) .nil))))))))) (.cons (.lst (.cons (.con
    (.int 4)) .nil)) (.cons (.lst (.cons (.neg (.con (.int 1))) (.cons (.con (.int 0)) (.cons (.con (.int 1)) .nil)))) (.cons (.lst (.cons (.neg (.con
    (.int 5))) (.cons (.neg (.con (.int 3))) (.cons (.neg (.con (.int 1))) (.cons (.con (.int 1)) .nil))))) (.cons (.lst (.cons (.con (.int 9)) .nil))
    .nil))))))))) .nil))) (.seq (.app 5 (.lst (.cons (.con (.bool true)) (.cons (.con (.bool true)) (.cons (.con (.bool true)) (.cons (.con (.bool
    false)) (.cons (.con (.bool false)) (.cons (.con (.bool true)) (.cons (.con (.bool false)) (.cons (.con (.bool true)) .nil)))))))))) (.seq (.asg 6
    (.lst (.cons (.tup (.cons (.tup (.cons (.con (.int 4)) (.cons (.con (.int 1)) .nil))) (.cons (.con (.int 7)) .nil))) (.cons (.tup (.cons (.tup
    (.cons (.con (.int 3)) (.cons (.con (.int 1)) .nil))) (.cons (.con (.int 0)) .nil))) (.cons (.tup (.cons (.tup (.cons (.con (.int 1)) (.cons (.con
    (.int 6)) .nil))) (.cons (.con (.int 0)) .nil))) (.cons (.tup (.cons (.tup (.cons (.con (.int 1)) (.cons (.con (.int 5)) .nil))) (.cons (.con
    (.int 0)) .nil))) (.cons (.tup (.cons (.tup (.cons (.neg (.con (.int 4))) (.cons (.con (.int 1)) .nil))) (.cons (.con (.int 0)) .nil))) (.cons
    (.tup (.cons (.tup (.cons (.con (.int 1)) (.cons (.neg (.con (.int 6))) .nil))) (.cons (.con (.int 2)) .nil))) (.cons (.tup (.cons (.tup (.cons
    (.con (.int 2)) (.cons (.con (.int 3)) .nil))) (.cons (.con (.int 0)) .nil))) (.cons (.tup (.cons (.tup (.cons (.con (.int 1)) (.cons (.con (.int
    1)) .nil))) (.cons (.con (.int 0)) .nil))) .nil)))))))))) (.seq (.app 3 (.lc [4] (.it (.var 6)) (.nm 4) .no (.call 13 (.cons (.var 0) (.cons (.var
    4) .nil))))) (.seq (.app 5 (.lst (.cons (.con (.bool false)) (.cons (.con (.bool true)) (.cons (.con (.bool false)) (.cons (.con (.bool true))
    (.cons (.con (.bool false)) (.cons (.con (.bool false)) (.cons (.con (.bool true)) (.cons (.con (.bool true)) .nil)))))))))) (.seq (.asg 7 (.tup
    (.cons (.tup (.cons (.con (.str "i")) (.cons (.con (.int 60)) .nil))) (.cons (.tup (.cons (.con (.str "j")) (.cons (.con (.int 60)) .nil))) (.cons
    (.tup (.cons (.con (.str "k")) (.cons (.con (.int 40)) .nil))) .nil))))) (.seq (.asg 3 (.bin .add (.var 3) (.lst (.cons (.call 12 (.cons (.var 7)
    (.cons (.tup (.cons (.tup (.cons (.con (.int 60)) (.cons (.neg (.con (.int 6))) (.cons (.con (.int 1)) .nil)))) (.cons (.bin .pow (.con (.int 10))
    (.con (.int 30))) .nil))) .nil))) (.cons (.call 13 (.cons (.var 7) (.cons (.tup (.cons (.tup (.cons (.con (.int 60)) (.cons (.neg (.con (.int 6)))
    (.cons (.con (.int 1)) .nil)))) (.cons (.con (.int 0)) .nil))) .nil))) .nil))))) (.seq (.asg 3 (.bin .add (.var 3) (.lst (.cons (.call 13 (.cons
    (.tup (.cons (.tup (.cons (.con (.str "i")) (.cons (.con (.int 60)) .nil))) .nil)) (.cons (.tup (.cons (.tup (.cons (.con (.int 60)) .nil)) (.cons
    (.con (.int 5)) .nil))) .nil))) (.cons (.call 13 (.cons (.tup (.cons (.tup (.cons (.con (.str "i")) (.cons (.con (.int 60)) .nil))) .nil)) (.cons
    (.tup (.cons (.tup (.cons (.con (.int 1)) .nil)) (.cons (.con (.int 5)) .nil))) .nil))) .nil))))) (.seq (.asg 5 (.bin .add (.var 5) (.lst (.cons
    (.lrngw (.bin .sub (.bin .pow (.con (.int 10)) (.con (.int 30))) (.con (.int 360))) (.bin .add (.bin .pow (.con (.int 10)) (.con (.int 30))) (.con
    (.int 3641)))) (.cons (.con (.bool true)) (.cons (.con (.bool false)) (.cons (.con (.bool false)) .nil))))))) (.seq (.asg 8 (.call 12 (.cons (.var
    0) (.cons (.tup (.cons (.tup (.cons (.con (.int 2)) (.cons (.con (.int 0)) .nil))) (.cons (.con (.int 0)) .nil))) .nil)))) (.seq (.app 8 (.con
    (.str "more"))) (.seq (.asg 9 (.lst (.cons (.lst (.cons (.lst (.cons (.con (.str "i")) (.cons (.con (.int 5)) .nil))) (.cons (.lst (.cons (.con
    (.str "j")) (.cons (.con (.int 3)) .nil))) .nil))) (.cons (.lst (.cons (.lst (.cons (.con (.int 2)) (.cons (.con (.int 0)) .nil))) (.cons (.con
    (.int 0)) .nil))) .nil)))) (.seq (.asg 3 (.bin .add (.var 3) (.lst (.cons (.call 12 (.cons (.var 0) (.cons (.tup (.cons (.tup (.cons (.con (.int
    2)) (.cons (.con (.int 0)) .nil))) (.cons (.con (.int 0)) .nil))) .nil))) (.cons (.callk 12 .nil (.cons (.sub (.var 9) (.con (.int 1))) (.cons
    (.sub (.var 9) (.con (.int 0))) .nil)) [1, 0]) (.cons (.var 9) .nil)))))) (.seq (.asg 3 (.bin .add (.var 3) (.lst (.cons (.callk 13 .nil (.cons
    (.tup (.cons (.lst (.cons (.con (.int 4)) (.cons (.con (.int 1)) .nil))) (.cons (.con (.int 7)) .nil))) (.cons (.tup (.cons (.lst (.cons (.con
    (.str "i")) (.cons (.con (.int 5)) .nil))) (.cons (.tup (.cons (.con (.str "j")) (.cons (.con (.int 3)) .nil))) .nil))) .nil)) [1, 0]) .nil))))
    (.seq (.asg 5 (.bin .add (.var 5) (.lst (.cons (.lst (.cons (.con (.int 0)) (.cons (.con (.int 2)) (.cons (.con (.int 4)) (.cons (.con (.int 6))
    (.cons (.con (.int 8)) (.cons (.con (.int 10)) .nil))))))) (.cons (.lst (.cons (.con (.int 0)) (.cons (.con (.int 2)) (.cons (.con (.int 4))
    (.cons (.con (.int 6)) (.cons (.con (.int 8)) (.cons (.con (.int 10)) .nil))))))) (.cons (.lst (.cons (.lst (.cons (.lst (.cons (.con (.str "i"))
    (.cons (.con (.int 5)) .nil))) (.cons (.lst (.cons (.con (.str "j")) (.cons (.con (.int 3)) .nil))) .nil))) (.cons (.lst (.cons (.lst (.cons (.con
    (.int 2)) (.cons (.con (.int 0)) .nil))) (.cons (.con (.int 0)) .nil))) .nil))) (.cons (.con (.bool false)) .nil))))))) (.seq (.ret (.call 4
    (.cons (.var 3) (.cons (.var 5) .nil)))) .skip))))))))))))))))))))
def d17 : FdD := ⟨"_law_by_hand_right", [], [("_law_two_so" : PySem.Str), ("_law_three_so" : PySem.Str), ("_law_some" : PySem.Str), ("_law_got" :
    PySem.Str), ("_law_own" : PySem.Str), ("_law_due_so" : PySem.Str), ("_law_places_so" : PySem.Str), ("_law_wide_so" : PySem.Str), ("_law_told" :
    PySem.Str), ("_law_soft_so" : PySem.Str)], b17⟩
def W : Tab := ⟨[d0, d1, d2, d3, d4, d5, d6, d7, d8, d9, d10, d11, d12, d13, d14, d15, d16, d17], [], [("int" : PySem.Str), ("abs" : PySem.Str),
    ("len" : PySem.Str), ("enumerate" : PySem.Str), ("list" : PySem.Str), ("isinstance" : PySem.Str), ("bool" : PySem.Str), ("str" : PySem.Str),
    ("tuple" : PySem.Str), ("all" : PySem.Str), ("zip" : PySem.Str), ("range" : PySem.Str), ("sorted" : PySem.Str), ("set" : PySem.Str), ("sum" :
    PySem.Str), ("min" : PySem.Str)], [(13, 0, [("place" : PySem.Str), ("loops" : PySem.Str)]), (12, 0, [("place" : PySem.Str), ("loops" :
    PySem.Str)])]⟩
def sts : List Stmt := [tops 11, tops 10, tops 12, tops 13, tops 15, tops 19, tops 20, tops 1, tops 2, tops 3, tops 4, tops 6, tops 7, tops 8, tops
    14, tops 16, tops 17, tops 18]
theorem ok0 : DefOk W d0 (tops 11) := ⟨by decide +kernel, by decide +kernel, fun _ _ _ _ _ _ us hl => match us, hl with | [_, _], _ => rfl⟩
theorem ok1 : DefOk W d1 (tops 10) := ⟨by decide +kernel, by decide +kernel, fun _ _ _ _ _ _ us hl => match us, hl with | [_, _], _ => rfl⟩
theorem ok2 : DefOk W d2 (tops 12) := ⟨by decide +kernel, by decide +kernel, fun _ _ _ _ _ _ us hl => match us, hl with | [_, _], _ => rfl⟩
theorem ok3 : DefOk W d3 (tops 13) := ⟨by decide +kernel, by decide +kernel, fun _ _ _ _ _ _ us hl => match us, hl with | [_, _], _ => rfl⟩
theorem ok4 : DefOk W d4 (tops 15) := ⟨by decide +kernel, by decide +kernel, fun _ _ _ _ _ _ us hl => match us, hl with | [_, _], _ => rfl⟩
theorem ok5 : DefOk W d5 (tops 19) := ⟨by decide +kernel, by decide +kernel, fun _ _ _ _ _ _ us hl => match us, hl with | [_], _ => rfl⟩
theorem ok6 : DefOk W d6 (tops 20) := ⟨by decide +kernel, by decide +kernel, fun _ _ _ _ _ _ us hl => match us, hl with | [_], _ => rfl⟩
theorem ok7 : DefOk W d7 (tops 1) := ⟨by decide +kernel, by decide +kernel, fun _ _ _ _ _ _ us hl => match us, hl with | [_, _], _ => rfl⟩
theorem ok8 : DefOk W d8 (tops 2) := ⟨by decide +kernel, by decide +kernel, fun _ _ _ _ _ _ us hl => match us, hl with | [_, _], _ => rfl⟩
theorem ok9 : DefOk W d9 (tops 3) := ⟨by decide +kernel, by decide +kernel, fun _ _ _ _ _ _ us hl => match us, hl with | [_, _], _ => rfl⟩
theorem ok10 : DefOk W d10 (tops 4) := ⟨by decide +kernel, by decide +kernel, fun _ _ _ _ _ _ us hl => match us, hl with | [_, _], _ => rfl⟩
theorem ok11 : DefOk W d11 (tops 6) := ⟨by decide +kernel, by decide +kernel, fun _ _ _ _ _ _ us hl => match us, hl with | [_], _ => rfl⟩
theorem ok12 : DefOk W d12 (tops 7) := ⟨by decide +kernel, by decide +kernel, fun _ _ _ _ _ _ us hl => match us, hl with | [_, _], _ => rfl⟩
theorem ok13 : DefOk W d13 (tops 8) := ⟨by decide +kernel, by decide +kernel, fun _ _ _ _ _ _ us hl => match us, hl with | [_, _], _ => rfl⟩
theorem ok14 : DefOk W d14 (tops 14) := ⟨by decide +kernel, by decide +kernel, fun _ _ _ _ _ _ us hl => match us, hl with | [_], _ => rfl⟩
theorem ok15 : DefOk W d15 (tops 16) := ⟨by decide +kernel, by decide +kernel, fun _ _ _ _ _ _ us hl => match us, hl with | [_, _], _ => rfl⟩
theorem ok16 : DefOk W d16 (tops 17) := ⟨by decide +kernel, by decide +kernel, fun _ _ _ _ _ _ us hl => match us, hl with | [_, _], _ => rfl⟩
theorem ok17 : DefOk W d17 (tops 18) := ⟨by decide +kernel, by decide +kernel, fun _ _ _ _ _ _ us hl => match us, hl with | [], _ => rfl⟩
theorem defs : DefsOk W W.T sts := ⟨ok0, ok1, ok2, ok3, ok4, ok5, ok6, ok7, ok8, ok9, ok10, ok11, ok12, ok13, ok14, ok15, ok16, ok17, trivial⟩
theorem kb0 : KbOk d13 (tops 8) 0 [("place" : PySem.Str), ("loops" : PySem.Str)] := ⟨by decide, fun _ _ _ _ _ _ us ws h1 h2 => match us, ws, h1, h2 with | [], [_, _], _, _ => rfl⟩
theorem kb1 : KbOk d12 (tops 7) 0 [("place" : PySem.Str), ("loops" : PySem.Str)] := ⟨by decide, fun _ _ _ _ _ _ us ws h1 h2 => match us, ws, h1, h2 with | [], [_, _], _, _ => rfl⟩
theorem kws : KwsOk W.T sts W.kwl := ⟨⟨d13, tops 8, rfl, rfl, kb0⟩, ⟨d12, tops 7, rfl, rfl, kb1⟩, trivial⟩
theorem I__law_take : Is W.T 0 2 6 takeB := ⟨d0, rfl, rfl, rfl, rfl⟩
theorem I__law_cells : Is W.T 2 2 6 cellsB := ⟨d2, rfl, rfl, rfl, rfl⟩
theorem I__law_of : Is W.T 3 2 2 (ofB 0) := ⟨d3, rfl, rfl, rfl, rfl⟩
theorem I__law_same : Is W.T 4 2 4 (sameB 4) := ⟨d4, rfl, rfl, rfl, rfl⟩
theorem I_least_sum : Is W.T 7 2 4 B_least_sum := ⟨d7, rfl, rfl, rfl, rfl⟩
theorem I_marks_along : Is W.T 8 2 9 B_marks_along := ⟨d8, rfl, rfl, rfl, rfl⟩
theorem I_is_marked : Is W.T 9 2 2 B_is_marked := ⟨d9, rfl, rfl, rfl, rfl⟩
theorem I_sums : Is W.T 10 2 5 (B_sums 9 8 7) := ⟨d10, rfl, rfl, rfl, rfl⟩
theorem I_how_many_rounds : Is W.T 11 1 4 B_how_many_rounds := ⟨d11, rfl, rfl, rfl, rfl⟩
theorem I_cells_of : Is W.T 12 2 6 (B_cells_of 10) := ⟨d12, rfl, rfl, rfl, rfl⟩
theorem I_touches_itself : Is W.T 13 2 2 (B_touches_itself 12 11) := ⟨d13, rfl, rfl, rfl, rfl⟩
theorem I__law_lists : Is W.T 14 1 2 (B_Llists 14) := ⟨d14, rfl, rfl, rfl, rfl⟩
theorem I__law_mixed : Is W.T 15 2 6 (B_Lmixed 0) := ⟨d15, rfl, rfl, rfl, rfl⟩
end Law_k29
set_option Elab.async false
set_option autoImplicit false
set_option maxRecDepth 100000
set_option maxHeartbeats 8100000
/-! V_k29: the plain law. -/
namespace Law_k29
open PX PySem
def fu : Nat := 1000
def dp : Nat := 20
/-- the values of all rounds, one by one -/
def grow (p : Int × Int) (F : List Int) : List Int := F.flatMap fun x => (List.range (p.2.toNat + 1)).map fun k : Nat => x + p.1 * (k : Int)
def allP (m : List (Int × Int)) (F : List Int) : List Int := m.foldl (fun f p => grow p f) F
theorem allP_mem : ∀ {m : List (Int × Int)} {F : List Int} {x : Int}, Nn m → (x ∈ allP m F ↔ ∃ y ∈ F, made m (x - y) = true)
  | [], F, x, _ => by
    show x ∈ F ↔ _
    constructor
    · intro h; exact ⟨x, h, mk_nil.mpr (by omega)⟩
    · rintro ⟨y, h, e⟩
      have := mk_nil.mp e
      rw [show x = y by omega]; exact h
  | p :: m, F, x, h => by
    show x ∈ allP m (grow p F) ↔ _
    rw [allP_mem h.tail]
    constructor
    · rintro ⟨y, hy, e⟩
      obtain ⟨z, hz, hy⟩ := List.mem_flatMap.mp hy
      obtain ⟨k, hk, rfl⟩ := List.mem_map.mp hy
      rw [List.mem_range] at hk
      refine ⟨z, hz, (mk_cons h.head).mpr ⟨(k : Int), by omega, by have := h.head; omega, ?_⟩⟩
      rw [show x - z - p.1 * (k : Int) = x - (z + p.1 * (k : Int)) by omega]; exact e
    · rintro ⟨z, hz, e⟩
      obtain ⟨k, h0, h1, e⟩ := (mk_cons h.head).mp e
      refine ⟨z + p.1 * k, List.mem_flatMap.mpr ⟨z, hz, List.mem_map.mpr ⟨k.toNat, by rw [List.mem_range]; omega, by rw [Int.toNat_of_nonneg h0]⟩⟩, ?_⟩
      rw [show x - (z + p.1 * k) = x - z - p.1 * k by omega]; exact e
theorem grow_len {p : Int × Int} {F : List Int} : (grow p F).length = F.length * (p.2.toNat + 1) := by
  unfold grow
  induction F with
  | nil => simp
  | cons y l ih => rw [List.flatMap_cons, List.length_append, ih, List.length_map, List.length_range, List.length_cons, Nat.add_mul]; omega
theorem allP_len : ∀ {m : List (Int × Int)} {F : List Int}, (allP m F).length = m.foldl (fun a p => a * (p.2.toNat + 1)) F.length
  | [], F => rfl
  | p :: m, F => by
    show (allP m (grow p F)).length = m.foldl (fun a p => a * (p.2.toNat + 1)) (F.length * (p.2.toNat + 1))
    rw [allP_len, grow_len]
theorem allP_take {m : List (Int × Int)} {F : List Int} {k : Nat} {p : Int × Int} (h : m[k]? = some p) : allP (m.take (k + 1)) F = grow p (allP (m.take k) F) := by
  unfold allP
  rw [List.take_add_one, h, Option.toList_some, List.foldl_append]; rfl
/-- those of 0 make nothing -/
theorem made_nz : ∀ {m : List (Int × Int)} {x : Int}, Nn m → made (nz m) x = made m x
  | [], x, _ => rfl
  | p :: m, x, h => by
    have ih : ∀ x, made (nz m) x = made m x := fun x => made_nz h.tail
    by_cases q : p.1 = 0
    · have e : nz (p :: m) = nz m := by unfold nz; rw [List.filter_cons, if_neg (by simp [q])]
      rw [e, ih, Bool.eq_iff_iff, mk_cons h.head, q]
      constructor
      · intro g; exact ⟨0, by omega, h.head, by simpa using g⟩
      · rintro ⟨k, _, _, g⟩; simpa using g
    · have e : nz (p :: m) = p :: nz m := by unfold nz; rw [List.filter_cons, if_pos (by simp [q])]
      rw [e, Bool.eq_iff_iff, mk_cons h.head, mk_cons h.head]
      simp only [ih]
/-- loops and a place as they are drawn -/
structure In (l : Nest) (row : List Int) : Prop where
  len : row.length = l.length
  three : l.length ≤ 3
  b : ∀ p ∈ l, 1 ≤ p.2 ∧ p.2 ≤ 4
  c : ∀ c ∈ row, -30 ≤ c ∧ c ≤ 30
theorem In.r {l : Nest} {row : List Int} (h : In l row) : ∀ p ∈ rowsB row l, -30 ≤ p.1 ∧ p.1 ≤ 30 ∧ 1 ≤ p.2 ∧ p.2 ≤ 4 := fun p hp => by
  obtain ⟨q, hq, rfl⟩ := List.mem_map.mp hp
  obtain ⟨h1, h2⟩ := List.of_mem_zip (show (q.1, q.2) ∈ row.zip l from hq)
  have := h.c _ h1
  have := h.b _ h2
  simp only; omega
theorem In.nn {l : Nest} {row : List Int} (h : In l row) : Nn (rowsB row l) := fun p hp => by have := h.r p hp; omega
theorem In.rl {l : Nest} {row : List Int} (h : In l row) : (rowsB row l).length ≤ 3 := by unfold rowsB; rw [List.length_map, List.length_zip]; have := h.three; omega
theorem In.sm {l : Nest} {row : List Int} (h : In l row) : Sm (nz (rowsB row l)) := fun p hp => by have := h.r p (List.mem_filter.mp hp).1; omega
theorem wid_mul {A B : Int} : ∀ {l : List (Int × Int)}, 0 ≤ A → 0 ≤ B → (∀ p ∈ l, (p.1.natAbs : Int) ≤ A ∧ 0 ≤ p.2 ∧ p.2 ≤ B) → widP l ≤ A * B * (l.length : Int)
  | [], _, _, _ => by simp [widP]
  | p :: l, hA, hB, h => by
    have ih := wid_mul hA hB fun q hq => h q (List.mem_cons_of_mem _ hq)
    obtain ⟨h1, h2, h3⟩ := h p List.mem_cons_self
    have : (p.1.natAbs : Int) * p.2 ≤ A * B := Int.mul_le_mul h1 h3 h2 hA
    rw [widP_cons, List.length_cons, Int.natCast_add, Int.mul_add]; omega
theorem In.wid {l : Nest} {row : List Int} (h : In l row) : widP (nz (rowsB row l)) ≤ 360 := by
  have := wid_mul (A := 30) (B := 4) (l := nz (rowsB row l)) (by omega) (by omega) fun p hp => by have := h.r p (List.mem_filter.mp hp).1; omega
  have := Nat.le_trans (nz_len (l := rowsB row l)) h.rl
  omega
/-- the cells, by all rounds -/
theorem cells_eq {l : Nest} {row : List Int} {num : Int} (h : In l row) : setI (allP (rowsB row l) [num]) = cellsZ l row num := by
  have hn := h.nn
  have hn2 : Nn (nz (rowsB row l)) := h.sm.nn
  refine asc_eq (setI_pw _) ?_ fun x => ?_
  · unfold cellsZ
    exact List.Pairwise.map _ (fun a b q => by omega) (sumsP_pw _)
  · rw [setI_mem, allP_mem hn]
    unfold cellsZ
    rw [List.mem_map]
    constructor
    · rintro ⟨y, hy, e⟩
      rw [List.mem_singleton.mp hy, ← made_nz hn] at e
      exact ⟨x - num, (sumsP_mem hn2).mpr e, by omega⟩
    · rintro ⟨y, hy, rfl⟩
      refine ⟨num, List.mem_singleton.mpr rfl, ?_⟩
      rw [← made_nz hn, show y + num - num = y by omega]
      exact (sumsP_mem hn2).mp hy
theorem fold_le : ∀ {m : List (Int × Int)} {a : Nat}, (∀ p ∈ m, p.2 ≤ 4) → m.foldl (fun a p => a * (p.2.toNat + 1)) a ≤ a * 5 ^ m.length
  | [], a, _ => by simp
  | p :: m, a, h => by
    show m.foldl (fun a p => a * (p.2.toNat + 1)) (a * (p.2.toNat + 1)) ≤ _
    have h1 := fold_le (m := m) (a := a * (p.2.toNat + 1)) fun q hq => h q (List.mem_cons_of_mem _ hq)
    have h2 := h p List.mem_cons_self
    have h3 : a * (p.2.toNat + 1) ≤ a * 5 := Nat.mul_le_mul_left _ (by omega)
    have h4 : a * (p.2.toNat + 1) * 5 ^ m.length ≤ a * 5 * 5 ^ m.length := Nat.mul_le_mul_right _ h3
    rw [List.length_cons, Nat.pow_succ, Nat.mul_comm (5 ^ m.length) 5, ← Nat.mul_assoc]
    omega
theorem all_len {l : Nest} {row : List Int} {num : Int} (h : In l row) (k : Nat) : (allP ((rowsB row l).take k) [num]).length ≤ 125 := by
  rw [allP_len]
  have := fold_le (m := (rowsB row l).take k) (a := 1) fun p hp => by have := h.r p (List.mem_of_mem_take hp); omega
  have h3 : ((rowsB row l).take k).length ≤ 3 := by rw [List.length_take]; have := h.rl; omega
  have h5 : 5 ^ ((rowsB row l).take k).length ≤ 5 ^ 3 := Nat.pow_le_pow_right (by omega) h3
  have : [num].length = 1 := rfl
  rw [this]; omega
theorem fold_rounds : ∀ {l : Nest} {row : List Int} {a : Nat}, row.length = l.length → (∀ p ∈ l, 1 ≤ p.2) → (((rowsB row l).foldl (fun a p => a * (p.2.toNat + 1)) a : Nat) : Int) = l.foldl (fun a p => a * (p.2 + 1)) (a : Int)
  | [], row, a, _, _ => by unfold rowsB; rw [List.zip_nil_right]; rfl
  | q :: l, [], a, h, _ => by simp at h
  | q :: l, c :: row, a, h, hb => by
    show (((rowsB row l).foldl (fun a p => a * (p.2.toNat + 1)) (a * (q.2.toNat + 1)) : Nat) : Int) = l.foldl (fun a p => a * (p.2 + 1)) ((a : Int) * (q.2 + 1))
    rw [fold_rounds (by simpa using h) fun p hp => hb p (List.mem_cons_of_mem _ hp)]
    have := hb q List.mem_cons_self
    rw [Int.natCast_mul, Int.natCast_add, Int.toNat_of_nonneg (by omega)]; rfl
theorem all_rounds {l : Nest} {row : List Int} {num : Int} (h : In l row) : ((allP (rowsB row l) [num]).length : Int) = roundsZ l := by
  rw [allP_len]
  exact fold_rounds h.len fun p hp => (h.b p hp).1
section
variable {n : Nat} {bx : Bx} {t u : Bool} {l : Nest} {row : List Int} {num : Int}
theorem i16 : Is W.T 16 2 8 b16 := ⟨d16, rfl, rfl, rfl, rfl⟩
theorem all_call (h : In l row) : ∃ r, callN W.T fu (n + 1) 16 [.dat (nestD true l), .dat (spotD true row num)] bx = some (r, bx) ∧ (r = .own ((allP (rowsB row l) [num]).map .int) ∨ r = .dat (.list ((allP (rowsB row l) [num]).map .int))) := by
  have key : ∃ r b, callN W.T fu (n + 1) 16 [.dat (nestD true l), .dat (spotD true row num)] bx = some (r, b) ∧ (b = bx ∧ (r = .own ((allP (rowsB row l) [num]).map .int) ∨ r = .dat (.list ((allP (rowsB row l) [num]).map .int)))) := by
   refine run_ex i16 rfl ?_
   have zr : ∀ (k : Nat) (p : Int × (Str × Int)), (row.zip l)[k]? = some p → (rowsB row l)[k]? = some (p.1, p.2.2) := fun k p hk => by unfold rowsB; rw [List.getElem?_map, hk]; rfl
   have zl : (row.zip l).length = (rowsB row l).length := by unfold rowsB; rw [List.length_map]
   simp only [b16, ent, ev_var, ev_con, ev_bin, ev_neg, ev_not, ev_cmp, ev_chain, ev_and, ev_or, ev_ite, ev_tup, ev_lst, ev_call, ev_callk, ev_bl, ev_len, ev_bits, ev_isi, ev_sub, ev_slc, ev_callb, ev_sset, ev_rev, rev_l, rev_o, ea_nil, ea_cons, ei_rng1, ei_rng2, ei_zip, ei_enum, ei_it, sq_skip, sq_seq, sq_asg, sq_tas, sq_par, sq_setix, sq_app, sq_ite, sq_ret, sq_retn, sq_pass, sq_cont, sq_brk, sq_aug_add, ex_skip, evP, setRs, evRet, pk, peek, rd, setAll, bindT, wipeE, unwipe, noOwn, condOf, isNo, RV.pd, RV.frz, canPut, entryE, List.length_cons, List.length_nil, List.map_cons, List.map_nil, List.cons_append, List.nil_append, List.append_nil, Nat.sub_self, Nat.reduceSub, Nat.reduceAdd, Nat.zero_add, List.replicate_succ, List.replicate_zero, List.getElem?_cons_zero, List.getElem?_cons_succ, List.set_cons_zero, List.set_cons_succ, List.getD_cons_zero, List.getD_cons_succ, mapM_pd_nil, mapM_pd_cons, permL_nil, permL_cons, Option.map_some, Option.map_none, Option.bind_some, Option.pure_def, Option.bind_eq_bind, Bool.false_eq_true, if_true, if_false, ite_true, ite_false, reduceIte, reduceCtorEq, cmp_lt, cmp_le, cmp_gt, cmp_ge, cmp_eq_i, cmp_ne_i, cmp_eq_b, cmp_ne_b, cmp_eq_s, cmp_ne_s, cmp_eq_nn, cmp_is, cmp_isnot, isNone_none, isNone_bool, isNone_int, isNone_str, isNone_list, isNone_tuple, bin_add, bin_sub, mulOk_n, mulOk_m, divOk_n, Nat.reduceLT, Int.reduceEq, Int.reduceNe, ne_eq, not_false_eq_true, decide_true, decide_false, bin_mul, bin_fdiv, bin_mod, bin_addl, bin_addt, bin_shl, bin_shr, bin_band, bin_bor, tru_b, tru_i, tru_l, tru_t, tru_o, tru_n, len_l, len_t, len_o, item_l, item_t, item_o, item_b0, item_b1, item_b2, at0, at1, at2, at3, at4, at5, atm1, blt_abs, blt_int, blt_intb, blt_tl, blt_tt, blt_ll, blt_lt, blt_sum, blt_all, blt_any, blt_min2, blt_max2, put_b0, put_b1, put_b2, szOk_0, szOk_1, szOk_n, Nat.reduceLeDiff, bin_mul2, bin_pow, Bool.not_true, Bool.not_false, wp_some, Nx_nx, Rt_rt, Option.toList_some, Option.toList_none, ev_lcR, lcR_nil, rangeD_map, zipW_map, enum_map, zip_tt, zip_tl, zip_lt, zip_ll, iter_t, iter_l, iter_o, lst_l, lst_o, seq_sq, iter_sq, len_sq, item_sq, list_sq, tuple_sq, zip_sq, pairD, step_no, stepC_eq, st_cmp, st_chain, st_and, st_or, st_not, st_isi, st_call, st_bl, st_var, setQ, nestD, spotD, sq]
   refine wp_loop (l := row.zip l) (P := fun p => PyData.tuple [.int p.1, rowD true p.2]) (fun k g => ∃ (s2 e3 e4 e5 e6 : Sl), g = ⟨[some (.dat (.tuple (l.map (rowD true)))), some (.dat (.tuple [.tuple (row.map .int), .int num])), s2, e3, e4, e5, e6, none], bx⟩ ∧
     (s2 = some (.own ((allP ((rowsB row l).take k) [num]).map .int)) ∨ s2 = some (.dat (.list ((allP ((rowsB row l).take k) [num]).map .int))))) (by simp only [ev_var, ev_con, ev_bin, ev_neg, ev_not, ev_cmp, ev_chain, ev_and, ev_or, ev_ite, ev_tup, ev_lst, ev_call, ev_callk, ev_bl, ev_len, ev_bits, ev_isi, ev_sub, ev_slc, ev_callb, ev_sset, ev_rev, rev_l, rev_o, ea_nil, ea_cons, ei_rng1, ei_rng2, ei_zip, ei_enum, ei_it, sq_skip, sq_seq, sq_asg, sq_tas, sq_par, sq_setix, sq_app, sq_ite, sq_ret, sq_retn, sq_pass, sq_cont, sq_brk, sq_aug_add, ex_skip, evP, setRs, evRet, pk, peek, rd, setAll, bindT, wipeE, unwipe, noOwn, condOf, isNo, RV.pd, RV.frz, canPut, entryE, List.length_cons, List.length_nil, List.map_cons, List.map_nil, List.cons_append, List.nil_append, List.append_nil, Nat.sub_self, Nat.reduceSub, Nat.reduceAdd, Nat.zero_add, List.replicate_succ, List.replicate_zero, List.getElem?_cons_zero, List.getElem?_cons_succ, List.set_cons_zero, List.set_cons_succ, List.getD_cons_zero, List.getD_cons_succ, mapM_pd_nil, mapM_pd_cons, permL_nil, permL_cons, Option.map_some, Option.map_none, Option.bind_some, Option.pure_def, Option.bind_eq_bind, Bool.false_eq_true, if_true, if_false, ite_true, ite_false, reduceIte, reduceCtorEq, cmp_lt, cmp_le, cmp_gt, cmp_ge, cmp_eq_i, cmp_ne_i, cmp_eq_b, cmp_ne_b, cmp_eq_s, cmp_ne_s, cmp_eq_nn, cmp_is, cmp_isnot, isNone_none, isNone_bool, isNone_int, isNone_str, isNone_list, isNone_tuple, bin_add, bin_sub, mulOk_n, mulOk_m, divOk_n, Nat.reduceLT, Int.reduceEq, Int.reduceNe, ne_eq, not_false_eq_true, decide_true, decide_false, bin_mul, bin_fdiv, bin_mod, bin_addl, bin_addt, bin_shl, bin_shr, bin_band, bin_bor, tru_b, tru_i, tru_l, tru_t, tru_o, tru_n, len_l, len_t, len_o, item_l, item_t, item_o, item_b0, item_b1, item_b2, at0, at1, at2, at3, at4, at5, atm1, blt_abs, blt_int, blt_intb, blt_tl, blt_tt, blt_ll, blt_lt, blt_sum, blt_all, blt_any, blt_min2, blt_max2, put_b0, put_b1, put_b2, szOk_0, szOk_1, szOk_n, Nat.reduceLeDiff, bin_mul2, bin_pow, Bool.not_true, Bool.not_false, wp_some, Nx_nx, Rt_rt, Option.toList_some, Option.toList_none, ev_lcR, lcR_nil, rangeD_map, zipW_map, enum_map, zip_tt, zip_tl, zip_lt, zip_ll, iter_t, iter_l, iter_o, lst_l, lst_o, seq_sq, iter_sq, len_sq, item_sq, list_sq, tuple_sq, zip_sq, pairD, step_no, stepC_eq, st_cmp, st_chain, st_and, st_or, st_not, st_isi, st_call, st_bl, st_var, setQ]; rfl) ⟨_, none, none, none, none, rfl, .inl rfl⟩ ?_ ?_
   · rintro k ⟨c, p⟩ g hk ⟨s2, e3, e4, e5, e6, rfl, h2⟩
     have hr : (rowsB row l)[k]? = some (c, p.2) := zr k _ hk
     obtain ⟨c1, c2, c3, c4⟩ := h.r _ (List.mem_of_getElem? hr)
     simp only at c1 c2 c3 c4
     have rr : inR (p.2 + 1) = true := inR_ok (by omega) (by omega)
     have tn : (p.2 + 1).toNat = p.2.toNat + 1 := by omega
     have ln := all_len (num := num) h k
     rw [allP_take hr]
     generalize hF : allP ((rowsB row l).take k) [num] = F at *
     have inner : ∀ s2, (s2 = some (.own (F.map .int)) ∨ s2 = some (.dat (.list (F.map .int)))) → wp (exS (callN W.T fu n) fu (.seq (.loop (.it (.var 2)) (.nm 6) (.seq (.asg 5 (.bin .add (.var 5) (.lc [7] (.rng1 (.bin .add (.sub (.var 4) (.con (.int 1))) (.con (.int 1)))) (.nm 7) .no (.bin .add (.var 6) (.bin .mul (.var 3) (.var 7)))))) .skip)) (.seq (.asg 2 (.var 5)) .skip))
         ⟨[some (.dat (.tuple (l.map (rowD true)))), some (.dat (.tuple [.tuple (row.map .int), .int num])), s2, some (.dat (.int c)), some (.dat (.tuple [.str p.1, .int p.2])), some (.own []), e6, none], bx⟩)
         (fun x => Nx (fun g => ∃ (s2 e3 e4 e5 e6 : Sl), g = ⟨[some (.dat (.tuple (l.map (rowD true)))), some (.dat (.tuple [.tuple (row.map .int), .int num])), s2, e3, e4, e5, e6, none], bx⟩ ∧
           (s2 = some (.own ((grow (c, p.2) F).map .int)) ∨ s2 = some (.dat (.list ((grow (c, p.2) F).map .int))))) x) := by
       intro s2 h2
       refine wp_loop (l := F) (P := .int) (fun j g => ∃ (e6 : Sl), g = ⟨[some (.dat (.tuple (l.map (rowD true)))), some (.dat (.tuple [.tuple (row.map .int), .int num])), some (.dat (.list (F.map .int))), some (.dat (.int c)), some (.dat (.tuple [.str p.1, .int p.2])), some (.own ((grow (c, p.2) (F.take j)).map .int)), e6, none], bx⟩) ?_ ⟨e6, rfl⟩ ?_ ?_
       · rcases h2 with rfl | rfl
         · simp only [ev_var, ev_con, ev_bin, ev_neg, ev_not, ev_cmp, ev_chain, ev_and, ev_or, ev_ite, ev_tup, ev_lst, ev_call, ev_callk, ev_bl, ev_len, ev_bits, ev_isi, ev_sub, ev_slc, ev_callb, ev_sset, ev_rev, rev_l, rev_o, ea_nil, ea_cons, ei_rng1, ei_rng2, ei_zip, ei_enum, ei_it, sq_skip, sq_seq, sq_asg, sq_tas, sq_par, sq_setix, sq_app, sq_ite, sq_ret, sq_retn, sq_pass, sq_cont, sq_brk, sq_aug_add, ex_skip, evP, setRs, evRet, pk, peek, rd, setAll, bindT, wipeE, unwipe, noOwn, condOf, isNo, RV.pd, RV.frz, canPut, entryE, List.length_cons, List.length_nil, List.map_cons, List.map_nil, List.cons_append, List.nil_append, List.append_nil, Nat.sub_self, Nat.reduceSub, Nat.reduceAdd, Nat.zero_add, List.replicate_succ, List.replicate_zero, List.getElem?_cons_zero, List.getElem?_cons_succ, List.set_cons_zero, List.set_cons_succ, List.getD_cons_zero, List.getD_cons_succ, mapM_pd_nil, mapM_pd_cons, permL_nil, permL_cons, Option.map_some, Option.map_none, Option.bind_some, Option.pure_def, Option.bind_eq_bind, Bool.false_eq_true, if_true, if_false, ite_true, ite_false, reduceIte, reduceCtorEq, cmp_lt, cmp_le, cmp_gt, cmp_ge, cmp_eq_i, cmp_ne_i, cmp_eq_b, cmp_ne_b, cmp_eq_s, cmp_ne_s, cmp_eq_nn, cmp_is, cmp_isnot, isNone_none, isNone_bool, isNone_int, isNone_str, isNone_list, isNone_tuple, bin_add, bin_sub, mulOk_n, mulOk_m, divOk_n, Nat.reduceLT, Int.reduceEq, Int.reduceNe, ne_eq, not_false_eq_true, decide_true, decide_false, bin_mul, bin_fdiv, bin_mod, bin_addl, bin_addt, bin_shl, bin_shr, bin_band, bin_bor, tru_b, tru_i, tru_l, tru_t, tru_o, tru_n, len_l, len_t, len_o, item_l, item_t, item_o, item_b0, item_b1, item_b2, at0, at1, at2, at3, at4, at5, atm1, blt_abs, blt_int, blt_intb, blt_tl, blt_tt, blt_ll, blt_lt, blt_sum, blt_all, blt_any, blt_min2, blt_max2, put_b0, put_b1, put_b2, szOk_0, szOk_1, szOk_n, Nat.reduceLeDiff, bin_mul2, bin_pow, Bool.not_true, Bool.not_false, wp_some, Nx_nx, Rt_rt, Option.toList_some, Option.toList_none, ev_lcR, lcR_nil, rangeD_map, zipW_map, enum_map, zip_tt, zip_tl, zip_lt, zip_ll, iter_t, iter_l, iter_o, lst_l, lst_o, seq_sq, iter_sq, len_sq, item_sq, list_sq, tuple_sq, zip_sq, pairD, step_no, stepC_eq, st_cmp, st_chain, st_and, st_or, st_not, st_isi, st_call, st_bl, st_var, setQ]; rfl
         · simp only [ev_var, ev_con, ev_bin, ev_neg, ev_not, ev_cmp, ev_chain, ev_and, ev_or, ev_ite, ev_tup, ev_lst, ev_call, ev_callk, ev_bl, ev_len, ev_bits, ev_isi, ev_sub, ev_slc, ev_callb, ev_sset, ev_rev, rev_l, rev_o, ea_nil, ea_cons, ei_rng1, ei_rng2, ei_zip, ei_enum, ei_it, sq_skip, sq_seq, sq_asg, sq_tas, sq_par, sq_setix, sq_app, sq_ite, sq_ret, sq_retn, sq_pass, sq_cont, sq_brk, sq_aug_add, ex_skip, evP, setRs, evRet, pk, peek, rd, setAll, bindT, wipeE, unwipe, noOwn, condOf, isNo, RV.pd, RV.frz, canPut, entryE, List.length_cons, List.length_nil, List.map_cons, List.map_nil, List.cons_append, List.nil_append, List.append_nil, Nat.sub_self, Nat.reduceSub, Nat.reduceAdd, Nat.zero_add, List.replicate_succ, List.replicate_zero, List.getElem?_cons_zero, List.getElem?_cons_succ, List.set_cons_zero, List.set_cons_succ, List.getD_cons_zero, List.getD_cons_succ, mapM_pd_nil, mapM_pd_cons, permL_nil, permL_cons, Option.map_some, Option.map_none, Option.bind_some, Option.pure_def, Option.bind_eq_bind, Bool.false_eq_true, if_true, if_false, ite_true, ite_false, reduceIte, reduceCtorEq, cmp_lt, cmp_le, cmp_gt, cmp_ge, cmp_eq_i, cmp_ne_i, cmp_eq_b, cmp_ne_b, cmp_eq_s, cmp_ne_s, cmp_eq_nn, cmp_is, cmp_isnot, isNone_none, isNone_bool, isNone_int, isNone_str, isNone_list, isNone_tuple, bin_add, bin_sub, mulOk_n, mulOk_m, divOk_n, Nat.reduceLT, Int.reduceEq, Int.reduceNe, ne_eq, not_false_eq_true, decide_true, decide_false, bin_mul, bin_fdiv, bin_mod, bin_addl, bin_addt, bin_shl, bin_shr, bin_band, bin_bor, tru_b, tru_i, tru_l, tru_t, tru_o, tru_n, len_l, len_t, len_o, item_l, item_t, item_o, item_b0, item_b1, item_b2, at0, at1, at2, at3, at4, at5, atm1, blt_abs, blt_int, blt_intb, blt_tl, blt_tt, blt_ll, blt_lt, blt_sum, blt_all, blt_any, blt_min2, blt_max2, put_b0, put_b1, put_b2, szOk_0, szOk_1, szOk_n, Nat.reduceLeDiff, bin_mul2, bin_pow, Bool.not_true, Bool.not_false, wp_some, Nx_nx, Rt_rt, Option.toList_some, Option.toList_none, ev_lcR, lcR_nil, rangeD_map, zipW_map, enum_map, zip_tt, zip_tl, zip_lt, zip_ll, iter_t, iter_l, iter_o, lst_l, lst_o, seq_sq, iter_sq, len_sq, item_sq, list_sq, tuple_sq, zip_sq, pairD, step_no, stepC_eq, st_cmp, st_chain, st_and, st_or, st_not, st_isi, st_call, st_bl, st_var, setQ]; rfl
       · rintro j x g hj ⟨e6, rfl⟩
         have hjl := (List.getElem?_eq_some_iff.mp hj).1
         have nx : grow (c, p.2) (F.take (j + 1)) = grow (c, p.2) (F.take j) ++ (List.range (p.2.toNat + 1)).map fun k : Nat => x + c * (k : Int) := by
           unfold grow
           rw [List.take_add_one, hj, Option.toList_some, List.flatMap_append]; simp
         have gl := grow_len (p := (c, p.2)) (F := F.take j)
         have sz : szOk (((grow (c, p.2) (F.take j)).map PyData.int).length + (((List.range (p.2.toNat + 1)).map fun k : Nat => x + c * (k : Int)).map PyData.int).length) = true := by
           rw [List.length_map, gl, List.length_map, List.length_map, List.length_range, List.length_take]
           refine szOk_of ?_
           have : min j F.length * (p.2.toNat + 1) ≤ 125 * 5 := Nat.mul_le_mul (by omega) (by omega)
           simp only; omega
         rw [nx]
         generalize grow (c, p.2) (F.take j) = acc at *
         simp only [ev_var, ev_con, ev_bin, ev_neg, ev_not, ev_cmp, ev_chain, ev_and, ev_or, ev_ite, ev_tup, ev_lst, ev_call, ev_callk, ev_bl, ev_len, ev_bits, ev_isi, ev_sub, ev_slc, ev_callb, ev_sset, ev_rev, rev_l, rev_o, ea_nil, ea_cons, ei_rng1, ei_rng2, ei_zip, ei_enum, ei_it, sq_skip, sq_seq, sq_asg, sq_tas, sq_par, sq_setix, sq_app, sq_ite, sq_ret, sq_retn, sq_pass, sq_cont, sq_brk, sq_aug_add, ex_skip, evP, setRs, evRet, pk, peek, rd, setAll, bindT, wipeE, unwipe, noOwn, condOf, isNo, RV.pd, RV.frz, canPut, entryE, List.length_cons, List.length_nil, List.map_cons, List.map_nil, List.cons_append, List.nil_append, List.append_nil, Nat.sub_self, Nat.reduceSub, Nat.reduceAdd, Nat.zero_add, List.replicate_succ, List.replicate_zero, List.getElem?_cons_zero, List.getElem?_cons_succ, List.set_cons_zero, List.set_cons_succ, List.getD_cons_zero, List.getD_cons_succ, mapM_pd_nil, mapM_pd_cons, permL_nil, permL_cons, Option.map_some, Option.map_none, Option.bind_some, Option.pure_def, Option.bind_eq_bind, Bool.false_eq_true, if_true, if_false, ite_true, ite_false, reduceIte, reduceCtorEq, cmp_lt, cmp_le, cmp_gt, cmp_ge, cmp_eq_i, cmp_ne_i, cmp_eq_b, cmp_ne_b, cmp_eq_s, cmp_ne_s, cmp_eq_nn, cmp_is, cmp_isnot, isNone_none, isNone_bool, isNone_int, isNone_str, isNone_list, isNone_tuple, bin_add, bin_sub, mulOk_n, mulOk_m, divOk_n, Nat.reduceLT, Int.reduceEq, Int.reduceNe, ne_eq, not_false_eq_true, decide_true, decide_false, bin_mul, bin_fdiv, bin_mod, bin_addl, bin_addt, bin_shl, bin_shr, bin_band, bin_bor, tru_b, tru_i, tru_l, tru_t, tru_o, tru_n, len_l, len_t, len_o, item_l, item_t, item_o, item_b0, item_b1, item_b2, at0, at1, at2, at3, at4, at5, atm1, blt_abs, blt_int, blt_intb, blt_tl, blt_tt, blt_ll, blt_lt, blt_sum, blt_all, blt_any, blt_min2, blt_max2, put_b0, put_b1, put_b2, szOk_0, szOk_1, szOk_n, Nat.reduceLeDiff, bin_mul2, bin_pow, Bool.not_true, Bool.not_false, wp_some, Nx_nx, Rt_rt, Option.toList_some, Option.toList_none, ev_lcR, lcR_nil, rangeD_map, zipW_map, enum_map, zip_tt, zip_tl, zip_lt, zip_ll, iter_t, iter_l, iter_o, lst_l, lst_o, seq_sq, iter_sq, len_sq, item_sq, list_sq, tuple_sq, zip_sq, pairD, step_no, stepC_eq, st_cmp, st_chain, st_and, st_or, st_not, st_isi, st_call, st_bl, st_var, setQ, rr, tn]
         rw [lcR_A (fun k : Nat => x + c * (k : Int)) .int (by rw [List.length_range]; omega) fun q hq => by
           rw [show (0 : Int) + (q : Int) = (q : Int) by omega]
           have m := mulOk_l (i := c) (j := (q : Int)) (by omega)
           simp only [ev_var, ev_con, ev_bin, ev_neg, ev_not, ev_cmp, ev_chain, ev_and, ev_or, ev_ite, ev_tup, ev_lst, ev_call, ev_callk, ev_bl, ev_len, ev_bits, ev_isi, ev_sub, ev_slc, ev_callb, ev_sset, ev_rev, rev_l, rev_o, ea_nil, ea_cons, ei_rng1, ei_rng2, ei_zip, ei_enum, ei_it, sq_skip, sq_seq, sq_asg, sq_tas, sq_par, sq_setix, sq_app, sq_ite, sq_ret, sq_retn, sq_pass, sq_cont, sq_brk, sq_aug_add, ex_skip, evP, setRs, evRet, pk, peek, rd, setAll, bindT, wipeE, unwipe, noOwn, condOf, isNo, RV.pd, RV.frz, canPut, entryE, List.length_cons, List.length_nil, List.map_cons, List.map_nil, List.cons_append, List.nil_append, List.append_nil, Nat.sub_self, Nat.reduceSub, Nat.reduceAdd, Nat.zero_add, List.replicate_succ, List.replicate_zero, List.getElem?_cons_zero, List.getElem?_cons_succ, List.set_cons_zero, List.set_cons_succ, List.getD_cons_zero, List.getD_cons_succ, mapM_pd_nil, mapM_pd_cons, permL_nil, permL_cons, Option.map_some, Option.map_none, Option.bind_some, Option.pure_def, Option.bind_eq_bind, Bool.false_eq_true, if_true, if_false, ite_true, ite_false, reduceIte, reduceCtorEq, cmp_lt, cmp_le, cmp_gt, cmp_ge, cmp_eq_i, cmp_ne_i, cmp_eq_b, cmp_ne_b, cmp_eq_s, cmp_ne_s, cmp_eq_nn, cmp_is, cmp_isnot, isNone_none, isNone_bool, isNone_int, isNone_str, isNone_list, isNone_tuple, bin_add, bin_sub, mulOk_n, mulOk_m, divOk_n, Nat.reduceLT, Int.reduceEq, Int.reduceNe, ne_eq, not_false_eq_true, decide_true, decide_false, bin_mul, bin_fdiv, bin_mod, bin_addl, bin_addt, bin_shl, bin_shr, bin_band, bin_bor, tru_b, tru_i, tru_l, tru_t, tru_o, tru_n, len_l, len_t, len_o, item_l, item_t, item_o, item_b0, item_b1, item_b2, at0, at1, at2, at3, at4, at5, atm1, blt_abs, blt_int, blt_intb, blt_tl, blt_tt, blt_ll, blt_lt, blt_sum, blt_all, blt_any, blt_min2, blt_max2, put_b0, put_b1, put_b2, szOk_0, szOk_1, szOk_n, Nat.reduceLeDiff, bin_mul2, bin_pow, Bool.not_true, Bool.not_false, wp_some, Nx_nx, Rt_rt, Option.toList_some, Option.toList_none, ev_lcR, lcR_nil, rangeD_map, zipW_map, enum_map, zip_tt, zip_tl, zip_lt, zip_ll, iter_t, iter_l, iter_o, lst_l, lst_o, seq_sq, iter_sq, len_sq, item_sq, list_sq, tuple_sq, zip_sq, pairD, step_no, stepC_eq, st_cmp, st_chain, st_and, st_or, st_not, st_isi, st_call, st_bl, st_var, setQ, m, and_self]]
         simp only [ev_var, ev_con, ev_bin, ev_neg, ev_not, ev_cmp, ev_chain, ev_and, ev_or, ev_ite, ev_tup, ev_lst, ev_call, ev_callk, ev_bl, ev_len, ev_bits, ev_isi, ev_sub, ev_slc, ev_callb, ev_sset, ev_rev, rev_l, rev_o, ea_nil, ea_cons, ei_rng1, ei_rng2, ei_zip, ei_enum, ei_it, sq_skip, sq_seq, sq_asg, sq_tas, sq_par, sq_setix, sq_app, sq_ite, sq_ret, sq_retn, sq_pass, sq_cont, sq_brk, sq_aug_add, ex_skip, evP, setRs, evRet, pk, peek, rd, setAll, bindT, wipeE, unwipe, noOwn, condOf, isNo, RV.pd, RV.frz, canPut, entryE, List.length_cons, List.length_nil, List.map_cons, List.map_nil, List.cons_append, List.nil_append, List.append_nil, Nat.sub_self, Nat.reduceSub, Nat.reduceAdd, Nat.zero_add, List.replicate_succ, List.replicate_zero, List.getElem?_cons_zero, List.getElem?_cons_succ, List.set_cons_zero, List.set_cons_succ, List.getD_cons_zero, List.getD_cons_succ, mapM_pd_nil, mapM_pd_cons, permL_nil, permL_cons, Option.map_some, Option.map_none, Option.bind_some, Option.pure_def, Option.bind_eq_bind, Bool.false_eq_true, if_true, if_false, ite_true, ite_false, reduceIte, reduceCtorEq, cmp_lt, cmp_le, cmp_gt, cmp_ge, cmp_eq_i, cmp_ne_i, cmp_eq_b, cmp_ne_b, cmp_eq_s, cmp_ne_s, cmp_eq_nn, cmp_is, cmp_isnot, isNone_none, isNone_bool, isNone_int, isNone_str, isNone_list, isNone_tuple, bin_add, bin_sub, mulOk_n, mulOk_m, divOk_n, Nat.reduceLT, Int.reduceEq, Int.reduceNe, ne_eq, not_false_eq_true, decide_true, decide_false, bin_mul, bin_fdiv, bin_mod, bin_addl, bin_addt, bin_shl, bin_shr, bin_band, bin_bor, tru_b, tru_i, tru_l, tru_t, tru_o, tru_n, len_l, len_t, len_o, item_l, item_t, item_o, item_b0, item_b1, item_b2, at0, at1, at2, at3, at4, at5, atm1, blt_abs, blt_int, blt_intb, blt_tl, blt_tt, blt_ll, blt_lt, blt_sum, blt_all, blt_any, blt_min2, blt_max2, put_b0, put_b1, put_b2, szOk_0, szOk_1, szOk_n, Nat.reduceLeDiff, bin_mul2, bin_pow, Bool.not_true, Bool.not_false, wp_some, Nx_nx, Rt_rt, Option.toList_some, Option.toList_none, ev_lcR, lcR_nil, rangeD_map, zipW_map, enum_map, zip_tt, zip_tl, zip_lt, zip_ll, iter_t, iter_l, iter_o, lst_l, lst_o, seq_sq, iter_sq, len_sq, item_sq, list_sq, tuple_sq, zip_sq, pairD, step_no, stepC_eq, st_cmp, st_chain, st_and, st_or, st_not, st_isi, st_call, st_bl, st_var, setQ, sz]
         exact .inl ⟨_, by rw [List.map_append]⟩
       · rintro g ⟨e6, rfl⟩
         rw [List.take_length]
         simp only [ev_var, ev_con, ev_bin, ev_neg, ev_not, ev_cmp, ev_chain, ev_and, ev_or, ev_ite, ev_tup, ev_lst, ev_call, ev_callk, ev_bl, ev_len, ev_bits, ev_isi, ev_sub, ev_slc, ev_callb, ev_sset, ev_rev, rev_l, rev_o, ea_nil, ea_cons, ei_rng1, ei_rng2, ei_zip, ei_enum, ei_it, sq_skip, sq_seq, sq_asg, sq_tas, sq_par, sq_setix, sq_app, sq_ite, sq_ret, sq_retn, sq_pass, sq_cont, sq_brk, sq_aug_add, ex_skip, evP, setRs, evRet, pk, peek, rd, setAll, bindT, wipeE, unwipe, noOwn, condOf, isNo, RV.pd, RV.frz, canPut, entryE, List.length_cons, List.length_nil, List.map_cons, List.map_nil, List.cons_append, List.nil_append, List.append_nil, Nat.sub_self, Nat.reduceSub, Nat.reduceAdd, Nat.zero_add, List.replicate_succ, List.replicate_zero, List.getElem?_cons_zero, List.getElem?_cons_succ, List.set_cons_zero, List.set_cons_succ, List.getD_cons_zero, List.getD_cons_succ, mapM_pd_nil, mapM_pd_cons, permL_nil, permL_cons, Option.map_some, Option.map_none, Option.bind_some, Option.pure_def, Option.bind_eq_bind, Bool.false_eq_true, if_true, if_false, ite_true, ite_false, reduceIte, reduceCtorEq, cmp_lt, cmp_le, cmp_gt, cmp_ge, cmp_eq_i, cmp_ne_i, cmp_eq_b, cmp_ne_b, cmp_eq_s, cmp_ne_s, cmp_eq_nn, cmp_is, cmp_isnot, isNone_none, isNone_bool, isNone_int, isNone_str, isNone_list, isNone_tuple, bin_add, bin_sub, mulOk_n, mulOk_m, divOk_n, Nat.reduceLT, Int.reduceEq, Int.reduceNe, ne_eq, not_false_eq_true, decide_true, decide_false, bin_mul, bin_fdiv, bin_mod, bin_addl, bin_addt, bin_shl, bin_shr, bin_band, bin_bor, tru_b, tru_i, tru_l, tru_t, tru_o, tru_n, len_l, len_t, len_o, item_l, item_t, item_o, item_b0, item_b1, item_b2, at0, at1, at2, at3, at4, at5, atm1, blt_abs, blt_int, blt_intb, blt_tl, blt_tt, blt_ll, blt_lt, blt_sum, blt_all, blt_any, blt_min2, blt_max2, put_b0, put_b1, put_b2, szOk_0, szOk_1, szOk_n, Nat.reduceLeDiff, bin_mul2, bin_pow, Bool.not_true, Bool.not_false, wp_some, Nx_nx, Rt_rt, Option.toList_some, Option.toList_none, ev_lcR, lcR_nil, rangeD_map, zipW_map, enum_map, zip_tt, zip_tl, zip_lt, zip_ll, iter_t, iter_l, iter_o, lst_l, lst_o, seq_sq, iter_sq, len_sq, item_sq, list_sq, tuple_sq, zip_sq, pairD, step_no, stepC_eq, st_cmp, st_chain, st_and, st_or, st_not, st_isi, st_call, st_bl, st_var, setQ]
         exact ⟨_, _, _, _, _, rfl, .inr rfl⟩
     simp only [ev_var, ev_con, ev_bin, ev_neg, ev_not, ev_cmp, ev_chain, ev_and, ev_or, ev_ite, ev_tup, ev_lst, ev_call, ev_callk, ev_bl, ev_len, ev_bits, ev_isi, ev_sub, ev_slc, ev_callb, ev_sset, ev_rev, rev_l, rev_o, ea_nil, ea_cons, ei_rng1, ei_rng2, ei_zip, ei_enum, ei_it, sq_skip, sq_seq, sq_asg, sq_tas, sq_par, sq_setix, sq_app, sq_ite, sq_ret, sq_retn, sq_pass, sq_cont, sq_brk, sq_aug_add, ex_skip, evP, setRs, evRet, pk, peek, rd, setAll, bindT, wipeE, unwipe, noOwn, condOf, isNo, RV.pd, RV.frz, canPut, entryE, List.length_cons, List.length_nil, List.map_cons, List.map_nil, List.cons_append, List.nil_append, List.append_nil, Nat.sub_self, Nat.reduceSub, Nat.reduceAdd, Nat.zero_add, List.replicate_succ, List.replicate_zero, List.getElem?_cons_zero, List.getElem?_cons_succ, List.set_cons_zero, List.set_cons_succ, List.getD_cons_zero, List.getD_cons_succ, mapM_pd_nil, mapM_pd_cons, permL_nil, permL_cons, Option.map_some, Option.map_none, Option.bind_some, Option.pure_def, Option.bind_eq_bind, Bool.false_eq_true, if_true, if_false, ite_true, ite_false, reduceIte, reduceCtorEq, cmp_lt, cmp_le, cmp_gt, cmp_ge, cmp_eq_i, cmp_ne_i, cmp_eq_b, cmp_ne_b, cmp_eq_s, cmp_ne_s, cmp_eq_nn, cmp_is, cmp_isnot, isNone_none, isNone_bool, isNone_int, isNone_str, isNone_list, isNone_tuple, bin_add, bin_sub, mulOk_n, mulOk_m, divOk_n, Nat.reduceLT, Int.reduceEq, Int.reduceNe, ne_eq, not_false_eq_true, decide_true, decide_false, bin_mul, bin_fdiv, bin_mod, bin_addl, bin_addt, bin_shl, bin_shr, bin_band, bin_bor, tru_b, tru_i, tru_l, tru_t, tru_o, tru_n, len_l, len_t, len_o, item_l, item_t, item_o, item_b0, item_b1, item_b2, at0, at1, at2, at3, at4, at5, atm1, blt_abs, blt_int, blt_intb, blt_tl, blt_tt, blt_ll, blt_lt, blt_sum, blt_all, blt_any, blt_min2, blt_max2, put_b0, put_b1, put_b2, szOk_0, szOk_1, szOk_n, Nat.reduceLeDiff, bin_mul2, bin_pow, Bool.not_true, Bool.not_false, wp_some, Nx_nx, Rt_rt, Option.toList_some, Option.toList_none, ev_lcR, lcR_nil, rangeD_map, zipW_map, enum_map, zip_tt, zip_tl, zip_lt, zip_ll, iter_t, iter_l, iter_o, lst_l, lst_o, seq_sq, iter_sq, len_sq, item_sq, list_sq, tuple_sq, zip_sq, pairD, step_no, stepC_eq, st_cmp, st_chain, st_and, st_or, st_not, st_isi, st_call, st_bl, st_var, setQ, rowD, sq]
     exact wp_mono (inner s2 h2) fun r hr => .inl hr
   · rintro g ⟨s2, e3, e4, e5, e6, rfl, h2⟩
     rw [zl, List.take_length] at h2
     rcases h2 with rfl | rfl
     · simp only [ev_var, ev_con, ev_bin, ev_neg, ev_not, ev_cmp, ev_chain, ev_and, ev_or, ev_ite, ev_tup, ev_lst, ev_call, ev_callk, ev_bl, ev_len, ev_bits, ev_isi, ev_sub, ev_slc, ev_callb, ev_sset, ev_rev, rev_l, rev_o, ea_nil, ea_cons, ei_rng1, ei_rng2, ei_zip, ei_enum, ei_it, sq_skip, sq_seq, sq_asg, sq_tas, sq_par, sq_setix, sq_app, sq_ite, sq_ret, sq_retn, sq_pass, sq_cont, sq_brk, sq_aug_add, ex_skip, evP, setRs, evRet, pk, peek, rd, setAll, bindT, wipeE, unwipe, noOwn, condOf, isNo, RV.pd, RV.frz, canPut, entryE, List.length_cons, List.length_nil, List.map_cons, List.map_nil, List.cons_append, List.nil_append, List.append_nil, Nat.sub_self, Nat.reduceSub, Nat.reduceAdd, Nat.zero_add, List.replicate_succ, List.replicate_zero, List.getElem?_cons_zero, List.getElem?_cons_succ, List.set_cons_zero, List.set_cons_succ, List.getD_cons_zero, List.getD_cons_succ, mapM_pd_nil, mapM_pd_cons, permL_nil, permL_cons, Option.map_some, Option.map_none, Option.bind_some, Option.pure_def, Option.bind_eq_bind, Bool.false_eq_true, if_true, if_false, ite_true, ite_false, reduceIte, reduceCtorEq, cmp_lt, cmp_le, cmp_gt, cmp_ge, cmp_eq_i, cmp_ne_i, cmp_eq_b, cmp_ne_b, cmp_eq_s, cmp_ne_s, cmp_eq_nn, cmp_is, cmp_isnot, isNone_none, isNone_bool, isNone_int, isNone_str, isNone_list, isNone_tuple, bin_add, bin_sub, mulOk_n, mulOk_m, divOk_n, Nat.reduceLT, Int.reduceEq, Int.reduceNe, ne_eq, not_false_eq_true, decide_true, decide_false, bin_mul, bin_fdiv, bin_mod, bin_addl, bin_addt, bin_shl, bin_shr, bin_band, bin_bor, tru_b, tru_i, tru_l, tru_t, tru_o, tru_n, len_l, len_t, len_o, item_l, item_t, item_o, item_b0, item_b1, item_b2, at0, at1, at2, at3, at4, at5, atm1, blt_abs, blt_int, blt_intb, blt_tl, blt_tt, blt_ll, blt_lt, blt_sum, blt_all, blt_any, blt_min2, blt_max2, put_b0, put_b1, put_b2, szOk_0, szOk_1, szOk_n, Nat.reduceLeDiff, bin_mul2, bin_pow, Bool.not_true, Bool.not_false, wp_some, Nx_nx, Rt_rt, Option.toList_some, Option.toList_none, ev_lcR, lcR_nil, rangeD_map, zipW_map, enum_map, zip_tt, zip_tl, zip_lt, zip_ll, iter_t, iter_l, iter_o, lst_l, lst_o, seq_sq, iter_sq, len_sq, item_sq, list_sq, tuple_sq, zip_sq, pairD, step_no, stepC_eq, st_cmp, st_chain, st_and, st_or, st_not, st_isi, st_call, st_bl, st_var, setQ]; exact ⟨trivial, .inl trivial⟩
     · simp only [ev_var, ev_con, ev_bin, ev_neg, ev_not, ev_cmp, ev_chain, ev_and, ev_or, ev_ite, ev_tup, ev_lst, ev_call, ev_callk, ev_bl, ev_len, ev_bits, ev_isi, ev_sub, ev_slc, ev_callb, ev_sset, ev_rev, rev_l, rev_o, ea_nil, ea_cons, ei_rng1, ei_rng2, ei_zip, ei_enum, ei_it, sq_skip, sq_seq, sq_asg, sq_tas, sq_par, sq_setix, sq_app, sq_ite, sq_ret, sq_retn, sq_pass, sq_cont, sq_brk, sq_aug_add, ex_skip, evP, setRs, evRet, pk, peek, rd, setAll, bindT, wipeE, unwipe, noOwn, condOf, isNo, RV.pd, RV.frz, canPut, entryE, List.length_cons, List.length_nil, List.map_cons, List.map_nil, List.cons_append, List.nil_append, List.append_nil, Nat.sub_self, Nat.reduceSub, Nat.reduceAdd, Nat.zero_add, List.replicate_succ, List.replicate_zero, List.getElem?_cons_zero, List.getElem?_cons_succ, List.set_cons_zero, List.set_cons_succ, List.getD_cons_zero, List.getD_cons_succ, mapM_pd_nil, mapM_pd_cons, permL_nil, permL_cons, Option.map_some, Option.map_none, Option.bind_some, Option.pure_def, Option.bind_eq_bind, Bool.false_eq_true, if_true, if_false, ite_true, ite_false, reduceIte, reduceCtorEq, cmp_lt, cmp_le, cmp_gt, cmp_ge, cmp_eq_i, cmp_ne_i, cmp_eq_b, cmp_ne_b, cmp_eq_s, cmp_ne_s, cmp_eq_nn, cmp_is, cmp_isnot, isNone_none, isNone_bool, isNone_int, isNone_str, isNone_list, isNone_tuple, bin_add, bin_sub, mulOk_n, mulOk_m, divOk_n, Nat.reduceLT, Int.reduceEq, Int.reduceNe, ne_eq, not_false_eq_true, decide_true, decide_false, bin_mul, bin_fdiv, bin_mod, bin_addl, bin_addt, bin_shl, bin_shr, bin_band, bin_bor, tru_b, tru_i, tru_l, tru_t, tru_o, tru_n, len_l, len_t, len_o, item_l, item_t, item_o, item_b0, item_b1, item_b2, at0, at1, at2, at3, at4, at5, atm1, blt_abs, blt_int, blt_intb, blt_tl, blt_tt, blt_ll, blt_lt, blt_sum, blt_all, blt_any, blt_min2, blt_max2, put_b0, put_b1, put_b2, szOk_0, szOk_1, szOk_n, Nat.reduceLeDiff, bin_mul2, bin_pow, Bool.not_true, Bool.not_false, wp_some, Nx_nx, Rt_rt, Option.toList_some, Option.toList_none, ev_lcR, lcR_nil, rangeD_map, zipW_map, enum_map, zip_tt, zip_tl, zip_lt, zip_ll, iter_t, iter_l, iter_o, lst_l, lst_o, seq_sq, iter_sq, len_sq, item_sq, list_sq, tuple_sq, zip_sq, pairD, step_no, stepC_eq, st_cmp, st_chain, st_and, st_or, st_not, st_isi, st_call, st_bl, st_var, setQ]; exact ⟨trivial, .inr trivial⟩
  obtain ⟨r, b, e, rfl, h2⟩ := key
  exact ⟨r, e, h2⟩
end
end Law_k29
set_option Elab.async false
set_option autoImplicit false
set_option maxRecDepth 100000
set_option maxHeartbeats 8100000
/-! V2_k29: a turn, the law. -/
namespace Law_k29
open PX PySem
theorem i5 : Is W.T 5 1 12 b5 := ⟨d5, rfl, rfl, rfl, rfl⟩
def nms : List PyData := [.str "i", .str "j", .str "row"]
theorem nms_ok : ∀ d ∈ nms, ∃ x : Str, d = .str x ∧ okd (.str x) = true := by
  intro d hd
  simp only [nms, List.mem_cons, List.not_mem_nil, or_false] at hd
  rcases hd with rfl | rfl | rfl
  · exact ⟨_, rfl, by decide +kernel⟩
  · exact ⟨_, rfl, by decide +kernel⟩
  · exact ⟨_, rfl, by decide +kernel⟩
theorem nms_map : ∀ {ds : List PyData}, (∀ d ∈ ds, ∃ x : Str, d = .str x ∧ okd (.str x) = true) → ∃ xs : List Str, ds = xs.map .str ∧ ∀ x ∈ xs, okd (.str x) = true
  | [], _ => ⟨[], rfl, by simp⟩
  | d :: ds, h => by
    obtain ⟨x, rfl, hx⟩ := h d List.mem_cons_self
    obtain ⟨xs, rfl, hxs⟩ := nms_map fun y hy => h y (List.mem_cons_of_mem _ hy)
    exact ⟨x :: xs, rfl, fun y hy => by rcases List.mem_cons.mp hy with rfl | hy; exact hx; exact hxs y hy⟩
theorem all2_same {α β : Type} {R : α → β → Prop} : ∀ {as : List α} (f : α → β), (∀ a ∈ as, R a (f a)) → All2 R as (as.map f)
  | [], _, _ => .nil
  | a :: as, f, h => .cons (h a List.mem_cons_self) (all2_same f fun x hx => h x (List.mem_cons_of_mem _ hx))
theorem lst_ints {k : Nat} {t : Bool} {cs : List Int} (h : cs.length ≤ 16777216) : Lst (k + 1) (sq t (cs.map .int)) (.list (cs.map .int)) := by
  refine .seq (by rw [List.length_map]; exact h) ?_
  have := all2_same (R := Lst k) (as := cs.map PyData.int) (fun d => d) fun a ha => by
    obtain ⟨x, _, rfl⟩ := List.mem_map.mp ha
    exact .int x
  rwa [List.map_id'] at this
theorem lst_row {k : Nat} {p : Str × Int} : Lst (k + 1) (rowD true p) (rowD false p) := .seq (by simp) (.cons (.str _) (.cons (.int _) .nil))
theorem lst_nest {l : Nest} (h : l.length ≤ 16777216) : Lst 2 (nestD true l) (nestD false l) := by
  refine .seq (by rw [List.length_map]; exact h) ?_
  have : ∀ l : Nest, All2 (Lst 1) (l.map (rowD true)) (l.map (rowD false)) := fun l => by
    induction l with
    | nil => exact .nil
    | cons p l ih => exact .cons lst_row ih
  exact this l
theorem lst_spot {row : List Int} {num : Int} (h : row.length ≤ 16777216) : Lst 2 (spotD true row num) (spotD false row num) := .seq (by simp) (.cons (lst_ints (t := true) h) (.cons (.int _) .nil))
theorem fine_nest {l : Nest} {t : Bool} (h : l.length ≤ 1000) (hx : ∀ p ∈ l, okd (.str p.1) = true) : Fine 2 (nestD t l) := by
  have g : ∀ d ∈ l.map (rowD t), Fine 1 d := fun d hd => by
    obtain ⟨p, hp, rfl⟩ := List.mem_map.mp hd
    have e : ∀ d ∈ [PyData.str p.1, .int p.2], Fine 0 d := fun d hd => by
      simp only [List.mem_cons, List.not_mem_nil, or_false] at hd
      rcases hd with rfl | rfl
      · exact .str _ (hx p hp)
      · exact .int _
    cases t
    · exact .list (by simp) e
    · exact .tuple (by simp) e
  cases t
  · exact .list (by rw [List.length_map]; omega) g
  · exact .tuple (by rw [List.length_map]; omega) g
theorem fine_spot {row : List Int} {num : Int} {t : Bool} (h : row.length ≤ 1000) : Fine 2 (spotD t row num) := by
  have g : ∀ d ∈ [sq t (row.map .int), PyData.int num], Fine 1 d := fun d hd => by
    simp only [List.mem_cons, List.not_mem_nil, or_false] at hd
    rcases hd with rfl | rfl
    · exact fine_ints (by omega)
    · exact .int _
  cases t
  · exact .list (by simp) g
  · exact .tuple (by simp) g
theorem right (b : Int × Int × Int) (hb : BOk 0 b) : ∃ b', callN W.T fu 19 5 [.box] (some b) = some (.dat (.bool true), b') := by
  have r8 : inR 8 = true := rfl
  have n8 : Int.toNat 8 = 8 := rfl
  have : ∃ r b', callN W.T fu 19 5 [.box] (some b) = some (r, b') ∧ r = .dat (.bool true) := run_ex (Q := fun r _ => r = .dat (.bool true)) i5 rfl (by
    simp only [b5, ent, ev_var, ev_con, ev_bin, ev_neg, ev_not, ev_cmp, ev_chain, ev_and, ev_or, ev_ite, ev_tup, ev_lst, ev_call, ev_callk, ev_bl, ev_len, ev_bits, ev_isi, ev_sub, ev_slc, ev_callb, ev_sset, ev_rev, rev_l, rev_o, ea_nil, ea_cons, ei_rng1, ei_rng2, ei_zip, ei_enum, ei_it, sq_skip, sq_seq, sq_asg, sq_tas, sq_par, sq_setix, sq_app, sq_ite, sq_ret, sq_retn, sq_pass, sq_cont, sq_brk, sq_aug_add, ex_skip, evP, setRs, evRet, pk, peek, rd, setAll, bindT, wipeE, unwipe, noOwn, condOf, isNo, RV.pd, RV.frz, canPut, entryE, List.length_cons, List.length_nil, List.map_cons, List.map_nil, List.cons_append, List.nil_append, List.append_nil, Nat.sub_self, Nat.reduceSub, Nat.reduceAdd, Nat.zero_add, List.replicate_succ, List.replicate_zero, List.getElem?_cons_zero, List.getElem?_cons_succ, List.set_cons_zero, List.set_cons_succ, List.getD_cons_zero, List.getD_cons_succ, mapM_pd_nil, mapM_pd_cons, permL_nil, permL_cons, Option.map_some, Option.map_none, Option.bind_some, Option.pure_def, Option.bind_eq_bind, Bool.false_eq_true, if_true, if_false, ite_true, ite_false, reduceIte, reduceCtorEq, cmp_lt, cmp_le, cmp_gt, cmp_ge, cmp_eq_i, cmp_ne_i, cmp_eq_b, cmp_ne_b, cmp_eq_s, cmp_ne_s, cmp_eq_nn, cmp_is, cmp_isnot, isNone_none, isNone_bool, isNone_int, isNone_str, isNone_list, isNone_tuple, bin_add, bin_sub, mulOk_n, mulOk_m, divOk_n, Nat.reduceLT, Int.reduceEq, Int.reduceNe, ne_eq, not_false_eq_true, decide_true, decide_false, bin_mul, bin_fdiv, bin_mod, bin_addl, bin_addt, bin_shl, bin_shr, bin_band, bin_bor, tru_b, tru_i, tru_l, tru_t, tru_o, tru_n, len_l, len_t, len_o, item_l, item_t, item_o, item_b0, item_b1, item_b2, at0, at1, at2, at3, at4, at5, atm1, blt_abs, blt_int, blt_intb, blt_tl, blt_tt, blt_ll, blt_lt, blt_sum, blt_all, blt_any, blt_min2, blt_max2, put_b0, put_b1, put_b2, szOk_0, szOk_1, szOk_n, Nat.reduceLeDiff, bin_mul2, bin_pow, Bool.not_true, Bool.not_false, wp_some, Nx_nx, Rt_rt, Option.toList_some, Option.toList_none, ev_lcR, lcR_nil, rangeD_map, zipW_map, enum_map, zip_tt, zip_tl, zip_lt, zip_ll, iter_t, iter_l, iter_o, lst_l, lst_o, seq_sq, iter_sq, len_sq, item_sq, list_sq, tuple_sq, zip_sq, pairD, step_no, stepC_eq, st_cmp, st_chain, st_and, st_or, st_not, st_isi, st_call, st_bl, st_var, setQ]
    refine wp_loop (l := List.range 8) (P := fun i : Nat => .int (0 + i)) (fun k g => ∃ (e1 e2 e3 e5 e6 e7 e8 e9 e10 e11 : Sl) (b' : Int × Int × Int), g = ⟨[some .box, e1, e2, e3, none, e5, e6, e7, e8, e9, e10, e11], some b'⟩ ∧ BOk (10000 * k) b') (by simp only [ev_var, ev_con, ev_bin, ev_neg, ev_not, ev_cmp, ev_chain, ev_and, ev_or, ev_ite, ev_tup, ev_lst, ev_call, ev_callk, ev_bl, ev_len, ev_bits, ev_isi, ev_sub, ev_slc, ev_callb, ev_sset, ev_rev, rev_l, rev_o, ea_nil, ea_cons, ei_rng1, ei_rng2, ei_zip, ei_enum, ei_it, sq_skip, sq_seq, sq_asg, sq_tas, sq_par, sq_setix, sq_app, sq_ite, sq_ret, sq_retn, sq_pass, sq_cont, sq_brk, sq_aug_add, ex_skip, evP, setRs, evRet, pk, peek, rd, setAll, bindT, wipeE, unwipe, noOwn, condOf, isNo, RV.pd, RV.frz, canPut, entryE, List.length_cons, List.length_nil, List.map_cons, List.map_nil, List.cons_append, List.nil_append, List.append_nil, Nat.sub_self, Nat.reduceSub, Nat.reduceAdd, Nat.zero_add, List.replicate_succ, List.replicate_zero, List.getElem?_cons_zero, List.getElem?_cons_succ, List.set_cons_zero, List.set_cons_succ, List.getD_cons_zero, List.getD_cons_succ, mapM_pd_nil, mapM_pd_cons, permL_nil, permL_cons, Option.map_some, Option.map_none, Option.bind_some, Option.pure_def, Option.bind_eq_bind, Bool.false_eq_true, if_true, if_false, ite_true, ite_false, reduceIte, reduceCtorEq, cmp_lt, cmp_le, cmp_gt, cmp_ge, cmp_eq_i, cmp_ne_i, cmp_eq_b, cmp_ne_b, cmp_eq_s, cmp_ne_s, cmp_eq_nn, cmp_is, cmp_isnot, isNone_none, isNone_bool, isNone_int, isNone_str, isNone_list, isNone_tuple, bin_add, bin_sub, mulOk_n, mulOk_m, divOk_n, Nat.reduceLT, Int.reduceEq, Int.reduceNe, ne_eq, not_false_eq_true, decide_true, decide_false, bin_mul, bin_fdiv, bin_mod, bin_addl, bin_addt, bin_shl, bin_shr, bin_band, bin_bor, tru_b, tru_i, tru_l, tru_t, tru_o, tru_n, len_l, len_t, len_o, item_l, item_t, item_o, item_b0, item_b1, item_b2, at0, at1, at2, at3, at4, at5, atm1, blt_abs, blt_int, blt_intb, blt_tl, blt_tt, blt_ll, blt_lt, blt_sum, blt_all, blt_any, blt_min2, blt_max2, put_b0, put_b1, put_b2, szOk_0, szOk_1, szOk_n, Nat.reduceLeDiff, bin_mul2, bin_pow, Bool.not_true, Bool.not_false, wp_some, Nx_nx, Rt_rt, Option.toList_some, Option.toList_none, ev_lcR, lcR_nil, rangeD_map, zipW_map, enum_map, zip_tt, zip_tl, zip_lt, zip_ll, iter_t, iter_l, iter_o, lst_l, lst_o, seq_sq, iter_sq, len_sq, item_sq, list_sq, tuple_sq, zip_sq, pairD, step_no, stepC_eq, st_cmp, st_chain, st_and, st_or, st_not, st_isi, st_call, st_bl, st_var, setQ, r8, n8]) ⟨none, none, none, none, none, none, none, none, none, none, b, rfl, hb.mono (by omega)⟩ ?_ ?_
    · rintro k i g hk ⟨e1, e2, e3, e5, e6, e7, e8, e9, e10, e11, b0, rfl, hb0⟩
      have hk8 := (List.getElem?_eq_some_iff.mp hk).1
      rw [List.length_range] at hk8
      obtain ⟨out, b1, a1, hp, hb1⟩ := mixed_call (fu := fu) (n := 16) I__law_take I__law_mixed (ds := nms) hb0 (by decide) (by omega)
      obtain ⟨v, b2, a2, v0, v1, hb2⟩ := take_call (fu := fu) (n := 17) I__law_take hb1 (by omega) (k := 4) (by omega) (by omega)
      obtain ⟨v, rfl⟩ := Int.eq_ofNat_of_zero_le v0
      obtain ⟨xs, hxs, xok⟩ := nms_map (ds := out.take v) fun d hd => nms_ok d (hp.mem_iff.mp (List.mem_of_mem_take hd))
      have xl : xs.length ≤ 3 := by
        have h1 := congrArg List.length hxs
        rw [List.length_map, List.length_take] at h1
        have := hp.length_eq
        have : nms.length = 3 := rfl
        omega
      have A15 : callN W.T fu 18 15 [.box, .dat (.list [.str "i", .str "j", .str "row"])] (some b0) = _ := a1
      have A0 : callN W.T fu 18 0 [.box, .dat (.int 4)] (some b1) = _ := a2
      have ct := cut_take (xs := out) (k := v)
      simp only [ev_var, ev_con, ev_bin, ev_neg, ev_not, ev_cmp, ev_chain, ev_and, ev_or, ev_ite, ev_tup, ev_lst, ev_call, ev_callk, ev_bl, ev_len, ev_bits, ev_isi, ev_sub, ev_slc, ev_callb, ev_sset, ev_rev, rev_l, rev_o, ea_nil, ea_cons, ei_rng1, ei_rng2, ei_zip, ei_enum, ei_it, sq_skip, sq_seq, sq_asg, sq_tas, sq_par, sq_setix, sq_app, sq_ite, sq_ret, sq_retn, sq_pass, sq_cont, sq_brk, sq_aug_add, ex_skip, evP, setRs, evRet, pk, peek, rd, setAll, bindT, wipeE, unwipe, noOwn, condOf, isNo, RV.pd, RV.frz, canPut, entryE, List.length_cons, List.length_nil, List.map_cons, List.map_nil, List.cons_append, List.nil_append, List.append_nil, Nat.sub_self, Nat.reduceSub, Nat.reduceAdd, Nat.zero_add, List.replicate_succ, List.replicate_zero, List.getElem?_cons_zero, List.getElem?_cons_succ, List.set_cons_zero, List.set_cons_succ, List.getD_cons_zero, List.getD_cons_succ, mapM_pd_nil, mapM_pd_cons, permL_nil, permL_cons, Option.map_some, Option.map_none, Option.bind_some, Option.pure_def, Option.bind_eq_bind, Bool.false_eq_true, if_true, if_false, ite_true, ite_false, reduceIte, reduceCtorEq, cmp_lt, cmp_le, cmp_gt, cmp_ge, cmp_eq_i, cmp_ne_i, cmp_eq_b, cmp_ne_b, cmp_eq_s, cmp_ne_s, cmp_eq_nn, cmp_is, cmp_isnot, isNone_none, isNone_bool, isNone_int, isNone_str, isNone_list, isNone_tuple, bin_add, bin_sub, mulOk_n, mulOk_m, divOk_n, Nat.reduceLT, Int.reduceEq, Int.reduceNe, ne_eq, not_false_eq_true, decide_true, decide_false, bin_mul, bin_fdiv, bin_mod, bin_addl, bin_addt, bin_shl, bin_shr, bin_band, bin_bor, tru_b, tru_i, tru_l, tru_t, tru_o, tru_n, len_l, len_t, len_o, item_l, item_t, item_o, item_b0, item_b1, item_b2, at0, at1, at2, at3, at4, at5, atm1, blt_abs, blt_int, blt_intb, blt_tl, blt_tt, blt_ll, blt_lt, blt_sum, blt_all, blt_any, blt_min2, blt_max2, put_b0, put_b1, put_b2, szOk_0, szOk_1, szOk_n, Nat.reduceLeDiff, bin_mul2, bin_pow, Bool.not_true, Bool.not_false, wp_some, Nx_nx, Rt_rt, Option.toList_some, Option.toList_none, ev_lcR, lcR_nil, rangeD_map, zipW_map, enum_map, zip_tt, zip_tl, zip_lt, zip_ll, iter_t, iter_l, iter_o, lst_l, lst_o, seq_sq, iter_sq, len_sq, item_sq, list_sq, tuple_sq, zip_sq, pairD, step_no, stepC_eq, st_cmp, st_chain, st_and, st_or, st_not, st_isi, st_call, st_bl, st_var, setQ, A15, A0, slice_o, ct, hxs]
      -- the loops
      generalize hX : lcR _ _ _ _ = X
      obtain ⟨ys, bx3, rfl, q3, b3, rfl, hb3⟩ := lcR_D hX (fun x y => ∃ z : Int, y = .tuple [.str x, .int z] ∧ 1 ≤ z ∧ z ≤ 4) (fun j bx => ∃ b', bx = some b' ∧ BOk (10000 * k + 1001 + j) b') (by omega) ⟨b2, rfl, hb2.mono (by omega)⟩ (fun x hx j bx hk hj => by
        obtain ⟨b5, rfl, hb5⟩ := hj
        obtain ⟨u, b6, e6, u0, u1, hb6⟩ := take_call (fu := fu) (n := 17) I__law_take hb5 (by omega) (k := 4) (by omega) (by omega)
        have e6 : callN W.T fu 18 0 [.box, .dat (.int 4)] (some b5) = _ := e6
        simp only [ev_var, ev_con, ev_bin, ev_neg, ev_not, ev_cmp, ev_chain, ev_and, ev_or, ev_ite, ev_tup, ev_lst, ev_call, ev_callk, ev_bl, ev_len, ev_bits, ev_isi, ev_sub, ev_slc, ev_callb, ev_sset, ev_rev, rev_l, rev_o, ea_nil, ea_cons, ei_rng1, ei_rng2, ei_zip, ei_enum, ei_it, sq_skip, sq_seq, sq_asg, sq_tas, sq_par, sq_setix, sq_app, sq_ite, sq_ret, sq_retn, sq_pass, sq_cont, sq_brk, sq_aug_add, ex_skip, evP, setRs, evRet, pk, peek, rd, setAll, bindT, wipeE, unwipe, noOwn, condOf, isNo, RV.pd, RV.frz, canPut, entryE, List.length_cons, List.length_nil, List.map_cons, List.map_nil, List.cons_append, List.nil_append, List.append_nil, Nat.sub_self, Nat.reduceSub, Nat.reduceAdd, Nat.zero_add, List.replicate_succ, List.replicate_zero, List.getElem?_cons_zero, List.getElem?_cons_succ, List.set_cons_zero, List.set_cons_succ, List.getD_cons_zero, List.getD_cons_succ, mapM_pd_nil, mapM_pd_cons, permL_nil, permL_cons, Option.map_some, Option.map_none, Option.bind_some, Option.pure_def, Option.bind_eq_bind, Bool.false_eq_true, if_true, if_false, ite_true, ite_false, reduceIte, reduceCtorEq, cmp_lt, cmp_le, cmp_gt, cmp_ge, cmp_eq_i, cmp_ne_i, cmp_eq_b, cmp_ne_b, cmp_eq_s, cmp_ne_s, cmp_eq_nn, cmp_is, cmp_isnot, isNone_none, isNone_bool, isNone_int, isNone_str, isNone_list, isNone_tuple, bin_add, bin_sub, mulOk_n, mulOk_m, divOk_n, Nat.reduceLT, Int.reduceEq, Int.reduceNe, ne_eq, not_false_eq_true, decide_true, decide_false, bin_mul, bin_fdiv, bin_mod, bin_addl, bin_addt, bin_shl, bin_shr, bin_band, bin_bor, tru_b, tru_i, tru_l, tru_t, tru_o, tru_n, len_l, len_t, len_o, item_l, item_t, item_o, item_b0, item_b1, item_b2, at0, at1, at2, at3, at4, at5, atm1, blt_abs, blt_int, blt_intb, blt_tl, blt_tt, blt_ll, blt_lt, blt_sum, blt_all, blt_any, blt_min2, blt_max2, put_b0, put_b1, put_b2, szOk_0, szOk_1, szOk_n, Nat.reduceLeDiff, bin_mul2, bin_pow, Bool.not_true, Bool.not_false, wp_some, Nx_nx, Rt_rt, Option.toList_some, Option.toList_none, ev_lcR, lcR_nil, rangeD_map, zipW_map, enum_map, zip_tt, zip_tl, zip_lt, zip_ll, iter_t, iter_l, iter_o, lst_l, lst_o, seq_sq, iter_sq, len_sq, item_sq, list_sq, tuple_sq, zip_sq, pairD, step_no, stepC_eq, st_cmp, st_chain, st_and, st_or, st_not, st_isi, st_call, st_bl, st_var, setQ, e6]
        exact ⟨_, rfl, trivial, ⟨1 + u, rfl, by omega, by omega⟩, b6, rfl, hb6.mono (by omega)⟩)
      obtain ⟨l, rfl, ql⟩ := all2_mapI (Q := rowD true) (S := fun x p => p.1 = x ∧ 1 ≤ p.2 ∧ p.2 ≤ 4) q3 fun a y ⟨z, e, z0, z1⟩ => ⟨(a, z), e, rfl, z0, z1⟩
      have ll : l.length = xs.length := ql.len.symm
      have lok : ∀ p ∈ l, okd (.str p.1) = true ∧ 1 ≤ p.2 ∧ p.2 ≤ 4 := fun p hp => by
        obtain ⟨x, hx, e1, e2, e3⟩ := all2_mem ql p hp
        exact ⟨by rw [e1]; exact xok x hx, e2, e3⟩
      obtain ⟨d, b4, a3, hd, hb4⟩ := of_call (fu := fu) (n := 16) I__law_take I__law_of (ds := [.int 2, .int 9, .int 30]) hb3 (by omega) (by simp) (by simp)
      obtain ⟨mu, rfl, mu0, mu1⟩ : ∃ mu : Int, d = .int mu ∧ 2 ≤ mu ∧ mu ≤ 30 := by
        simp only [List.mem_cons, List.not_mem_nil, or_false] at hd
        rcases hd with rfl | rfl | rfl <;> exact ⟨_, rfl, by decide, by decide⟩
      have A3 : callN W.T fu 18 3 [.box, .dat (.list [.int 2, .int 9, .int 30])] (some b3) = _ := a3
      have mm : ∀ z : Int, mulOk 2 z = true := fun z => mulOk_l (by decide)
      simp only [ev_var, ev_con, ev_bin, ev_neg, ev_not, ev_cmp, ev_chain, ev_and, ev_or, ev_ite, ev_tup, ev_lst, ev_call, ev_callk, ev_bl, ev_len, ev_bits, ev_isi, ev_sub, ev_slc, ev_callb, ev_sset, ev_rev, rev_l, rev_o, ea_nil, ea_cons, ei_rng1, ei_rng2, ei_zip, ei_enum, ei_it, sq_skip, sq_seq, sq_asg, sq_tas, sq_par, sq_setix, sq_app, sq_ite, sq_ret, sq_retn, sq_pass, sq_cont, sq_brk, sq_aug_add, ex_skip, evP, setRs, evRet, pk, peek, rd, setAll, bindT, wipeE, unwipe, noOwn, condOf, isNo, RV.pd, RV.frz, canPut, entryE, List.length_cons, List.length_nil, List.map_cons, List.map_nil, List.cons_append, List.nil_append, List.append_nil, Nat.sub_self, Nat.reduceSub, Nat.reduceAdd, Nat.zero_add, List.replicate_succ, List.replicate_zero, List.getElem?_cons_zero, List.getElem?_cons_succ, List.set_cons_zero, List.set_cons_succ, List.getD_cons_zero, List.getD_cons_succ, mapM_pd_nil, mapM_pd_cons, permL_nil, permL_cons, Option.map_some, Option.map_none, Option.bind_some, Option.pure_def, Option.bind_eq_bind, Bool.false_eq_true, if_true, if_false, ite_true, ite_false, reduceIte, reduceCtorEq, cmp_lt, cmp_le, cmp_gt, cmp_ge, cmp_eq_i, cmp_ne_i, cmp_eq_b, cmp_ne_b, cmp_eq_s, cmp_ne_s, cmp_eq_nn, cmp_is, cmp_isnot, isNone_none, isNone_bool, isNone_int, isNone_str, isNone_list, isNone_tuple, bin_add, bin_sub, mulOk_n, mulOk_m, divOk_n, Nat.reduceLT, Int.reduceEq, Int.reduceNe, ne_eq, not_false_eq_true, decide_true, decide_false, bin_mul, bin_fdiv, bin_mod, bin_addl, bin_addt, bin_shl, bin_shr, bin_band, bin_bor, tru_b, tru_i, tru_l, tru_t, tru_o, tru_n, len_l, len_t, len_o, item_l, item_t, item_o, item_b0, item_b1, item_b2, at0, at1, at2, at3, at4, at5, atm1, blt_abs, blt_int, blt_intb, blt_tl, blt_tt, blt_ll, blt_lt, blt_sum, blt_all, blt_any, blt_min2, blt_max2, put_b0, put_b1, put_b2, szOk_0, szOk_1, szOk_n, Nat.reduceLeDiff, bin_mul2, bin_pow, Bool.not_true, Bool.not_false, wp_some, Nx_nx, Rt_rt, Option.toList_some, Option.toList_none, ev_lcR, lcR_nil, rangeD_map, zipW_map, enum_map, zip_tt, zip_tl, zip_lt, zip_ll, iter_t, iter_l, iter_o, lst_l, lst_o, seq_sq, iter_sq, len_sq, item_sq, list_sq, tuple_sq, zip_sq, pairD, step_no, stepC_eq, st_cmp, st_chain, st_and, st_or, st_not, st_isi, st_call, st_bl, st_var, setQ, A3]
      -- the place
      generalize hX2 : lcR _ _ _ _ = X2
      obtain ⟨zs, bx4, rfl, q4, b5, rfl, hb5⟩ := lcR_D hX2 (fun _ y => ∃ z : Int, y = .int z ∧ -30 ≤ z ∧ z ≤ 30) (fun j bx => ∃ b', bx = some b' ∧ BOk (10000 * k + 2000 + j) b') (by omega) ⟨b4, rfl, hb4.mono (by omega)⟩ (fun x hx j bx hk hj => by
        obtain ⟨b6, rfl, hb6⟩ := hj
        obtain ⟨u, b7, e7, u0, u1, hb7⟩ := take_call (fu := fu) (n := 17) I__law_take hb6 (by omega) (k := 2 * mu + 1) (by omega) (by omega)
        have e7 : callN W.T fu 18 0 [.box, .dat (.int (2 * mu + 1))] (some b6) = _ := e7
        simp only [ev_var, ev_con, ev_bin, ev_neg, ev_not, ev_cmp, ev_chain, ev_and, ev_or, ev_ite, ev_tup, ev_lst, ev_call, ev_callk, ev_bl, ev_len, ev_bits, ev_isi, ev_sub, ev_slc, ev_callb, ev_sset, ev_rev, rev_l, rev_o, ea_nil, ea_cons, ei_rng1, ei_rng2, ei_zip, ei_enum, ei_it, sq_skip, sq_seq, sq_asg, sq_tas, sq_par, sq_setix, sq_app, sq_ite, sq_ret, sq_retn, sq_pass, sq_cont, sq_brk, sq_aug_add, ex_skip, evP, setRs, evRet, pk, peek, rd, setAll, bindT, wipeE, unwipe, noOwn, condOf, isNo, RV.pd, RV.frz, canPut, entryE, List.length_cons, List.length_nil, List.map_cons, List.map_nil, List.cons_append, List.nil_append, List.append_nil, Nat.sub_self, Nat.reduceSub, Nat.reduceAdd, Nat.zero_add, List.replicate_succ, List.replicate_zero, List.getElem?_cons_zero, List.getElem?_cons_succ, List.set_cons_zero, List.set_cons_succ, List.getD_cons_zero, List.getD_cons_succ, mapM_pd_nil, mapM_pd_cons, permL_nil, permL_cons, Option.map_some, Option.map_none, Option.bind_some, Option.pure_def, Option.bind_eq_bind, Bool.false_eq_true, if_true, if_false, ite_true, ite_false, reduceIte, reduceCtorEq, cmp_lt, cmp_le, cmp_gt, cmp_ge, cmp_eq_i, cmp_ne_i, cmp_eq_b, cmp_ne_b, cmp_eq_s, cmp_ne_s, cmp_eq_nn, cmp_is, cmp_isnot, isNone_none, isNone_bool, isNone_int, isNone_str, isNone_list, isNone_tuple, bin_add, bin_sub, mulOk_n, mulOk_m, divOk_n, Nat.reduceLT, Int.reduceEq, Int.reduceNe, ne_eq, not_false_eq_true, decide_true, decide_false, bin_mul, bin_fdiv, bin_mod, bin_addl, bin_addt, bin_shl, bin_shr, bin_band, bin_bor, tru_b, tru_i, tru_l, tru_t, tru_o, tru_n, len_l, len_t, len_o, item_l, item_t, item_o, item_b0, item_b1, item_b2, at0, at1, at2, at3, at4, at5, atm1, blt_abs, blt_int, blt_intb, blt_tl, blt_tt, blt_ll, blt_lt, blt_sum, blt_all, blt_any, blt_min2, blt_max2, put_b0, put_b1, put_b2, szOk_0, szOk_1, szOk_n, Nat.reduceLeDiff, bin_mul2, bin_pow, Bool.not_true, Bool.not_false, wp_some, Nx_nx, Rt_rt, Option.toList_some, Option.toList_none, ev_lcR, lcR_nil, rangeD_map, zipW_map, enum_map, zip_tt, zip_tl, zip_lt, zip_ll, iter_t, iter_l, iter_o, lst_l, lst_o, seq_sq, iter_sq, len_sq, item_sq, list_sq, tuple_sq, zip_sq, pairD, step_no, stepC_eq, st_cmp, st_chain, st_and, st_or, st_not, st_isi, st_call, st_bl, st_var, setQ, mm, e7]
        exact ⟨_, rfl, trivial, ⟨u - mu, rfl, by omega, by omega⟩, b7, rfl, hb7.mono (by omega)⟩)
      obtain ⟨row, rfl, qr⟩ := all2_mapI (Q := PyData.int) (S := fun _ z => -30 ≤ z ∧ z ≤ 30) q4 fun a y ⟨z, e, z0, z1⟩ => ⟨z, e, z0, z1⟩
      obtain ⟨u, b6, a4, u0, u1, hb6⟩ := take_call (fu := fu) (n := 17) I__law_take hb5 (by omega) (k := 99) (by omega) (by omega)
      have A99 : callN W.T fu 18 0 [.box, .dat (.int 99)] (some b5) = _ := a4
      generalize hnum : u - 49 = num
      have hin : In l row := ⟨qr.len.symm, by omega, fun p hp => (lok p hp).2, fun c hc => (all2_mem qr c hc).elim fun _ h => h.2⟩
      have l3 : l.length ≤ 100 := by omega
      have b64 : ∀ p ∈ l, (p.2 + 1).natAbs < 2 ^ 64 := fun p hp => by have := lok p hp; omega
      have w6 : widP (nz (rowsB row l)) ≤ 1000000 := by have := hin.wid; omega
      have rl : row.length ≤ 1000 := by have := hin.len; omega
      obtain ⟨r, A16, hr⟩ := all_call (n := 17) (bx := some b6) (num := num) hin
      have A16 : callN W.T fu 18 16 [.dat (.tuple (l.map (rowD true))), .dat (.tuple [.tuple (row.map .int), .int num])] (some b6) = _ := A16
      have L1 : callN W.T fu 18 14 [.dat (.tuple (l.map (rowD true)))] (some b6) = some (.own (l.map (rowD false)), some b6) := lists_call I__law_lists 2 _ _ (lst_nest (by omega)) 17 (by omega) _
      have L2 : callN W.T fu 18 14 [.dat (.tuple [.tuple (row.map .int), .int num])] (some b6) = some (.own [.list (row.map .int), .int num], some b6) := lists_call I__law_lists 2 _ _ (lst_spot (row := row) (num := num) (by omega)) 17 (by omega) _
      have C1 : callN W.T fu 18 12 [.dat (.tuple (l.map (rowD true))), .dat (.tuple [.tuple (row.map .int), .int num])] (some b6) = _ := cells_call2 (n := 15) (t := true) (u := true) I_cells_of I_sums I_least_sum I_is_marked I_marks_along (by decide) l3 hin.sm w6
      have C2 : callN W.T fu 18 12 [.dat (.list (l.map (rowD false))), .dat (.list [.list (row.map .int), .int num])] (some b6) = _ := cells_call2 (n := 15) (t := false) (u := false) I_cells_of I_sums I_least_sum I_is_marked I_marks_along (by decide) l3 hin.sm w6
      have S1 : callN W.T fu 18 13 [.dat (.tuple (l.map (rowD true))), .dat (.tuple [.tuple (row.map .int), .int num])] (some b6) = _ := self_call (n := 14) (t := true) (u := true) I_touches_itself I_how_many_rounds I_cells_of I_sums I_least_sum I_is_marked I_marks_along (by decide) l3 hin.sm w6 b64
      have S2 : callN W.T fu 18 13 [.dat (.list (l.map (rowD false))), .dat (.list [.list (row.map .int), .int num])] (some b6) = _ := self_call (n := 14) (t := false) (u := false) I_touches_itself I_how_many_rounds I_cells_of I_sums I_least_sum I_is_marked I_marks_along (by decide) l3 hin.sm w6 b64
      have al : (allP (rowsB row l) [num]).length ≤ 4000 := by
        have := all_len (num := num) hin (rowsB row l).length
        rw [List.take_length] at this; omega
      have ar := all_rounds (num := num) hin
      have ce := cells_eq (num := num) hin
      rw [← ar] at S1 S2
      have cl : (cellsZ l row num).length ≤ 4000 := by
        rw [cells_len]
        have := sumsP_len hin.sm.nn
        have := hin.wid
        omega
      have sa := sset_l al
      have so := sset_o al
      rw [ce] at sa so
      generalize allP (rowsB row l) [num] = all at *
      generalize cellsZ l row num = every at *
      have E4 : callN W.T fu 18 4 [.dat (.list [.list (every.map .int), .list (every.map .int), .bool (decide ((every.length : Int) < (all.length : Int))), .bool (decide ((every.length : Int) < (all.length : Int))), .list [.list (l.map (rowD false)), .list [.list (row.map .int), .int num]]]),
          .dat (.list [.list (every.map .int), .list (every.map .int), .bool (decide ((every.length : Int) < (all.length : Int))), .bool (decide ((every.length : Int) < (all.length : Int))), .list [.list (l.map (rowD false)), .list [.list (row.map .int), .int num]]])] (some b6) = _ :=
        same_true I__law_same 4 _ (some b6) (.list (by simp) fun d hd => by
          simp only [List.mem_cons, List.not_mem_nil, or_false] at hd
          rcases hd with rfl | rfl | rfl | rfl | rfl
          · exact (fine_ints (k := 2) (t := false) (by omega))
          · exact (fine_ints (k := 2) (t := false) (by omega))
          · exact .bool _
          · exact .bool _
          · refine .list (by simp) fun d hd => ?_
            simp only [List.mem_cons, List.not_mem_nil, or_false] at hd
            rcases hd with rfl | rfl
            · exact fine_nest (t := false) (by omega) fun p hp => (lok p hp).1
            · exact fine_spot (t := false) rl) 17 (by omega)
      rcases hr with rfl | rfl
      · simp only [ev_var, ev_con, ev_bin, ev_neg, ev_not, ev_cmp, ev_chain, ev_and, ev_or, ev_ite, ev_tup, ev_lst, ev_call, ev_callk, ev_bl, ev_len, ev_bits, ev_isi, ev_sub, ev_slc, ev_callb, ev_sset, ev_rev, rev_l, rev_o, ea_nil, ea_cons, ei_rng1, ei_rng2, ei_zip, ei_enum, ei_it, sq_skip, sq_seq, sq_asg, sq_tas, sq_par, sq_setix, sq_app, sq_ite, sq_ret, sq_retn, sq_pass, sq_cont, sq_brk, sq_aug_add, ex_skip, evP, setRs, evRet, pk, peek, rd, setAll, bindT, wipeE, unwipe, noOwn, condOf, isNo, RV.pd, RV.frz, canPut, entryE, List.length_cons, List.length_nil, List.map_cons, List.map_nil, List.cons_append, List.nil_append, List.append_nil, Nat.sub_self, Nat.reduceSub, Nat.reduceAdd, Nat.zero_add, List.replicate_succ, List.replicate_zero, List.getElem?_cons_zero, List.getElem?_cons_succ, List.set_cons_zero, List.set_cons_succ, List.getD_cons_zero, List.getD_cons_succ, mapM_pd_nil, mapM_pd_cons, permL_nil, permL_cons, Option.map_some, Option.map_none, Option.bind_some, Option.pure_def, Option.bind_eq_bind, Bool.false_eq_true, if_true, if_false, ite_true, ite_false, reduceIte, reduceCtorEq, cmp_lt, cmp_le, cmp_gt, cmp_ge, cmp_eq_i, cmp_ne_i, cmp_eq_b, cmp_ne_b, cmp_eq_s, cmp_ne_s, cmp_eq_nn, cmp_is, cmp_isnot, isNone_none, isNone_bool, isNone_int, isNone_str, isNone_list, isNone_tuple, bin_add, bin_sub, mulOk_n, mulOk_m, divOk_n, Nat.reduceLT, Int.reduceEq, Int.reduceNe, ne_eq, not_false_eq_true, decide_true, decide_false, bin_mul, bin_fdiv, bin_mod, bin_addl, bin_addt, bin_shl, bin_shr, bin_band, bin_bor, tru_b, tru_i, tru_l, tru_t, tru_o, tru_n, len_l, len_t, len_o, item_l, item_t, item_o, item_b0, item_b1, item_b2, at0, at1, at2, at3, at4, at5, atm1, blt_abs, blt_int, blt_intb, blt_tl, blt_tt, blt_ll, blt_lt, blt_sum, blt_all, blt_any, blt_min2, blt_max2, put_b0, put_b1, put_b2, szOk_0, szOk_1, szOk_n, Nat.reduceLeDiff, bin_mul2, bin_pow, Bool.not_true, Bool.not_false, wp_some, Nx_nx, Rt_rt, Option.toList_some, Option.toList_none, ev_lcR, lcR_nil, rangeD_map, zipW_map, enum_map, zip_tt, zip_tl, zip_lt, zip_ll, iter_t, iter_l, iter_o, lst_l, lst_o, seq_sq, iter_sq, len_sq, item_sq, list_sq, tuple_sq, zip_sq, pairD, step_no, stepC_eq, st_cmp, st_chain, st_and, st_or, st_not, st_isi, st_call, st_bl, st_var, setQ, A99, hnum, A16, L1, L2, sa, so, C1, C2, S1, S2, List.length_map, E4]
        exact .inl ⟨_, _, _, _, _, _, _, _, _, _, _, rfl, hb6.mono (by omega)⟩
      · simp only [ev_var, ev_con, ev_bin, ev_neg, ev_not, ev_cmp, ev_chain, ev_and, ev_or, ev_ite, ev_tup, ev_lst, ev_call, ev_callk, ev_bl, ev_len, ev_bits, ev_isi, ev_sub, ev_slc, ev_callb, ev_sset, ev_rev, rev_l, rev_o, ea_nil, ea_cons, ei_rng1, ei_rng2, ei_zip, ei_enum, ei_it, sq_skip, sq_seq, sq_asg, sq_tas, sq_par, sq_setix, sq_app, sq_ite, sq_ret, sq_retn, sq_pass, sq_cont, sq_brk, sq_aug_add, ex_skip, evP, setRs, evRet, pk, peek, rd, setAll, bindT, wipeE, unwipe, noOwn, condOf, isNo, RV.pd, RV.frz, canPut, entryE, List.length_cons, List.length_nil, List.map_cons, List.map_nil, List.cons_append, List.nil_append, List.append_nil, Nat.sub_self, Nat.reduceSub, Nat.reduceAdd, Nat.zero_add, List.replicate_succ, List.replicate_zero, List.getElem?_cons_zero, List.getElem?_cons_succ, List.set_cons_zero, List.set_cons_succ, List.getD_cons_zero, List.getD_cons_succ, mapM_pd_nil, mapM_pd_cons, permL_nil, permL_cons, Option.map_some, Option.map_none, Option.bind_some, Option.pure_def, Option.bind_eq_bind, Bool.false_eq_true, if_true, if_false, ite_true, ite_false, reduceIte, reduceCtorEq, cmp_lt, cmp_le, cmp_gt, cmp_ge, cmp_eq_i, cmp_ne_i, cmp_eq_b, cmp_ne_b, cmp_eq_s, cmp_ne_s, cmp_eq_nn, cmp_is, cmp_isnot, isNone_none, isNone_bool, isNone_int, isNone_str, isNone_list, isNone_tuple, bin_add, bin_sub, mulOk_n, mulOk_m, divOk_n, Nat.reduceLT, Int.reduceEq, Int.reduceNe, ne_eq, not_false_eq_true, decide_true, decide_false, bin_mul, bin_fdiv, bin_mod, bin_addl, bin_addt, bin_shl, bin_shr, bin_band, bin_bor, tru_b, tru_i, tru_l, tru_t, tru_o, tru_n, len_l, len_t, len_o, item_l, item_t, item_o, item_b0, item_b1, item_b2, at0, at1, at2, at3, at4, at5, atm1, blt_abs, blt_int, blt_intb, blt_tl, blt_tt, blt_ll, blt_lt, blt_sum, blt_all, blt_any, blt_min2, blt_max2, put_b0, put_b1, put_b2, szOk_0, szOk_1, szOk_n, Nat.reduceLeDiff, bin_mul2, bin_pow, Bool.not_true, Bool.not_false, wp_some, Nx_nx, Rt_rt, Option.toList_some, Option.toList_none, ev_lcR, lcR_nil, rangeD_map, zipW_map, enum_map, zip_tt, zip_tl, zip_lt, zip_ll, iter_t, iter_l, iter_o, lst_l, lst_o, seq_sq, iter_sq, len_sq, item_sq, list_sq, tuple_sq, zip_sq, pairD, step_no, stepC_eq, st_cmp, st_chain, st_and, st_or, st_not, st_isi, st_call, st_bl, st_var, setQ, A99, hnum, A16, L1, L2, sa, so, C1, C2, S1, S2, List.length_map, E4]
        exact .inl ⟨_, _, _, _, _, _, _, _, _, _, _, rfl, hb6.mono (by omega)⟩
    · rintro g ⟨e1, e2, e3, e5, e6, e7, e8, e9, e10, e11, b', rfl, _⟩
      simp only [ev_var, ev_con, ev_bin, ev_neg, ev_not, ev_cmp, ev_chain, ev_and, ev_or, ev_ite, ev_tup, ev_lst, ev_call, ev_callk, ev_bl, ev_len, ev_bits, ev_isi, ev_sub, ev_slc, ev_callb, ev_sset, ev_rev, rev_l, rev_o, ea_nil, ea_cons, ei_rng1, ei_rng2, ei_zip, ei_enum, ei_it, sq_skip, sq_seq, sq_asg, sq_tas, sq_par, sq_setix, sq_app, sq_ite, sq_ret, sq_retn, sq_pass, sq_cont, sq_brk, sq_aug_add, ex_skip, evP, setRs, evRet, pk, peek, rd, setAll, bindT, wipeE, unwipe, noOwn, condOf, isNo, RV.pd, RV.frz, canPut, entryE, List.length_cons, List.length_nil, List.map_cons, List.map_nil, List.cons_append, List.nil_append, List.append_nil, Nat.sub_self, Nat.reduceSub, Nat.reduceAdd, Nat.zero_add, List.replicate_succ, List.replicate_zero, List.getElem?_cons_zero, List.getElem?_cons_succ, List.set_cons_zero, List.set_cons_succ, List.getD_cons_zero, List.getD_cons_succ, mapM_pd_nil, mapM_pd_cons, permL_nil, permL_cons, Option.map_some, Option.map_none, Option.bind_some, Option.pure_def, Option.bind_eq_bind, Bool.false_eq_true, if_true, if_false, ite_true, ite_false, reduceIte, reduceCtorEq, cmp_lt, cmp_le, cmp_gt, cmp_ge, cmp_eq_i, cmp_ne_i, cmp_eq_b, cmp_ne_b, cmp_eq_s, cmp_ne_s, cmp_eq_nn, cmp_is, cmp_isnot, isNone_none, isNone_bool, isNone_int, isNone_str, isNone_list, isNone_tuple, bin_add, bin_sub, mulOk_n, mulOk_m, divOk_n, Nat.reduceLT, Int.reduceEq, Int.reduceNe, ne_eq, not_false_eq_true, decide_true, decide_false, bin_mul, bin_fdiv, bin_mod, bin_addl, bin_addt, bin_shl, bin_shr, bin_band, bin_bor, tru_b, tru_i, tru_l, tru_t, tru_o, tru_n, len_l, len_t, len_o, item_l, item_t, item_o, item_b0, item_b1, item_b2, at0, at1, at2, at3, at4, at5, atm1, blt_abs, blt_int, blt_intb, blt_tl, blt_tt, blt_ll, blt_lt, blt_sum, blt_all, blt_any, blt_min2, blt_max2, put_b0, put_b1, put_b2, szOk_0, szOk_1, szOk_n, Nat.reduceLeDiff, bin_mul2, bin_pow, Bool.not_true, Bool.not_false, wp_some, Nx_nx, Rt_rt, Option.toList_some, Option.toList_none, ev_lcR, lcR_nil, rangeD_map, zipW_map, enum_map, zip_tt, zip_tl, zip_lt, zip_ll, iter_t, iter_l, iter_o, lst_l, lst_o, seq_sq, iter_sq, len_sq, item_sq, list_sq, tuple_sq, zip_sq, pairD, step_no, stepC_eq, st_cmp, st_chain, st_and, st_or, st_not, st_isi, st_call, st_bl, st_var, setQ])
  obtain ⟨r, b', e, rfl⟩ := this
  exact ⟨b', e⟩
/-! the part by hand: three wide cases by their laws -/
def wideL : Nest := [("i", 60), ("j", 60), ("k", 40)]
def wideR : List Int := [60, -6, 1]
theorem wide_nz : nz (rowsB wideR wideL) = [(60, 60), (-6, 60), (1, 40)] := by decide +kernel
theorem wide_made {x : Int} : made [(60, 60), (-6, 60), (1, 40)] x = true ↔ -360 ≤ x ∧ x < 3641 := by
  constructor
  · intro h
    obtain ⟨k1, a0, a1, h⟩ := (mk_cons (by decide)).mp h
    obtain ⟨k2, b0, b1, h⟩ := (mk_cons (by decide)).mp h
    obtain ⟨k3, c0, c1, h⟩ := (mk_cons (by decide)).mp h
    have := mk_nil.mp h
    simp only at *
    omega
  · rintro ⟨h0, h1⟩
    have fin : ∀ k1 k2 k3 : Int, 0 ≤ k1 → k1 ≤ 60 → 0 ≤ k2 → k2 ≤ 60 → 0 ≤ k3 → k3 ≤ 40 → x = 60 * k1 - 6 * k2 + k3 → made [(60, 60), (-6, 60), (1, 40)] x = true := fun k1 k2 k3 a0 a1 b0 b1 c0 c1 e =>
      (mk_cons (by decide)).mpr ⟨k1, a0, a1, (mk_cons (by decide)).mpr ⟨k2, b0, b1, (mk_cons (by decide)).mpr ⟨k3, c0, c1, mk_nil.mpr (by simp only; omega)⟩⟩⟩
    by_cases q : x ≤ 3299
    · exact fin ((x + 360) / 60) (60 - ((x + 360) % 60) / 6) ((x + 360) % 6) (by omega) (by omega) (by omega) (by omega) (by omega) (by omega) (by omega)
    · by_cases q2 : x ≤ 3600
      · exact fin 60 (60 - (x - 3240) / 6) ((x - 3240) % 6) (by omega) (by omega) (by omega) (by omega) (by omega) (by omega) (by omega)
      · exact fin 60 0 (x - 3600) (by omega) (by omega) (by omega) (by omega) (by omega) (by omega) (by omega)
theorem wide_sums : sumsP [(60, 60), (-6, 60), (1, 40)] = (List.range 4001).map fun k : Nat => (k : Int) - 360 := by
  refine asc_eq (sumsP_pw _) (List.Pairwise.map _ (fun a b q => by omega) (asc_range _)) fun x => ?_
  rw [sumsP_mem (fun p hp => by
    simp only [List.mem_cons, List.not_mem_nil, or_false] at hp
    rcases hp with rfl | rfl | rfl <;> decide), wide_made, List.mem_map]
  constructor
  · rintro ⟨h0, h1⟩
    exact ⟨(x + 360).toNat, by rw [List.mem_range]; omega, by omega⟩
  · rintro ⟨k, hk, rfl⟩
    rw [List.mem_range] at hk
    omega
theorem one_nz : nz (rowsB [60] [("i", 60)]) = [(60, 60)] := by decide +kernel
theorem one_sums : sumsP [(60, 60)] = (List.range 61).map fun k : Nat => 60 * (k : Int) := by
  refine asc_eq (sumsP_pw _) (List.Pairwise.map _ (fun a b q => by omega) (asc_range _)) fun x => ?_
  rw [sumsP_mem (fun p hp => by
    simp only [List.mem_cons, List.not_mem_nil, or_false] at hp
    rcases hp with rfl; decide), mk_cons (by decide), List.mem_map]
  constructor
  · rintro ⟨k, h0, h1, e⟩
    have := mk_nil.mp e
    simp only at *
    exact ⟨k.toNat, by rw [List.mem_range]; omega, by omega⟩
  · rintro ⟨k, hk, rfl⟩
    rw [List.mem_range] at hk
    exact ⟨k, by omega, by simp only; omega, mk_nil.mpr (by simp only; omega)⟩
def heavy : List Spc := [
  (12, [nestD true wideL, spotD true wideR (10 ^ 30)], .own ((List.range 4001).map fun k : Nat => .int (((k : Int) - 360) + 10 ^ 30))),
  (13, [nestD true wideL, spotD true wideR 0], .dat (.bool true)),
  (13, [nestD true [("i", 60)], spotD true [60] 5], .dat (.bool false))]
theorem heavy_ok : ∀ s ∈ heavy, ∀ bx, callN W.T fu 18 s.1 (s.2.1.map .dat) bx = some (s.2.2, bx) := by
  intro s hs bx
  have sm : ∀ l : List (Int × Int), (l.all fun p => decide (p.1.natAbs ≤ 100 ∧ 0 ≤ p.2 ∧ p.2 ≤ 100)) = true → ∀ p ∈ l, p.1.natAbs ≤ 100 ∧ 0 ≤ p.2 ∧ p.2 ≤ 100 := fun l h p hp => by
    have := List.all_eq_true.mp h p hp
    exact of_decide_eq_true this
  have w1 : Sm (nz (rowsB wideR wideL)) := by
    rw [wide_nz]
    intro p hp
    have := sm [(60, 60), (-6, 60), (1, 40)] (by decide) p hp
    omega
  have w2 : widP (nz (rowsB wideR wideL)) ≤ 1000000 := by rw [wide_nz]; decide
  have o1 : Sm (nz (rowsB [60] [("i", 60)])) := by
    rw [one_nz]
    intro p hp
    have := sm [(60, 60)] (by decide) p hp
    omega
  have o2 : widP (nz (rowsB [60] [("i", 60)])) ≤ 1000000 := by rw [one_nz]; decide
  simp only [heavy, List.mem_cons, List.not_mem_nil, or_false] at hs
  rcases hs with rfl | rfl | rfl
  · have := cells_call2 (n := 15) (fu := fu) (bx := bx) (t := true) (u := true) (num := 10 ^ 30) I_cells_of I_sums I_least_sum I_is_marked I_marks_along (by decide) (l := wideL) (row := wideR) (by decide) w1 w2
    unfold cellsZ at this
    rw [wide_nz, wide_sums, List.map_map, List.map_map] at this
    exact this
  · have := self_call (n := 14) (fu := fu) (bx := bx) (t := true) (u := true) (num := 0) I_touches_itself I_how_many_rounds I_cells_of I_sums I_least_sum I_is_marked I_marks_along (by decide) (l := wideL) (row := wideR) (by decide) w1 w2 (fun p hp => by
      simp only [wideL, List.mem_cons, List.not_mem_nil, or_false] at hp
      rcases hp with rfl | rfl | rfl <;> decide)
    rw [cells_len, wide_nz, wide_sums, List.length_map, List.length_range] at this
    have e : decide (((4001 : Nat) : Int) < roundsZ wideL) = true := by decide
    rw [e] at this
    exact this
  · have := self_call (n := 14) (fu := fu) (bx := bx) (t := true) (u := true) (num := 5) I_touches_itself I_how_many_rounds I_cells_of I_sums I_least_sum I_is_marked I_marks_along (by decide) (l := [("i", 60)]) (row := [60]) (by decide) o1 o2 (fun p hp => by
      simp only [List.mem_cons, List.not_mem_nil, or_false] at hp
      rcases hp with rfl; decide)
    rw [cells_len, one_nz, one_sums, List.length_map, List.length_range] at this
    exact this
theorem i17 : Is W.T 17 0 10 b17 := ⟨d17, rfl, rfl, rfl, rfl⟩
theorem hand : callN W.T fu 19 17 [] none = some (.dat (.bool true), none) :=
  run_swap (n := 17) (l := heavy) i17 I__law_same (by decide) heavy_ok (by decide +kernel)
theorem law_true (ns : List Int) (hl : ns.length ≤ 63) : callN W.T fu dp 6 [.dat (.list (ns.map .int))] none = some (.dat (.bool true), none) :=
  law_call (T := W.T) (fu := fu) (n := 18) (ih := 17) (ic := 2) (ir := 5) (ib := 1) (c := 41277) ⟨d6, rfl, rfl, rfl, rfl⟩ ⟨d2, rfl, rfl, rfl, rfl⟩ ⟨d1, rfl, rfl, rfl, rfl⟩ (by decide) (by decide) hand right hl
end Law_k29
set_option Elab.async false
set_option autoImplicit false
set_option maxRecDepth 100000
set_option maxHeartbeats 0

namespace Law_k29
open PX PySem.Spec L2 PyProof.Rows PySem
abbrev RR : PySem.W.OpenRow := PySem.W.OpenLaw.row PySem.Challenge.rw_quickexact_k29_cells_of_one_place
abbrev hk : PySem.W.Hook := He.hookD 4 (faL W) (fnL W.T sts)
def obs (s : PySem.W.SharedT) : He.AlD := He.obsDG 4 (faL W) (fnL W.T sts) (HandSHeadRun.getT s)
theorem obs_eq (s : PySem.W.SharedT) : obs s = hk.obs s.abs := He.obsDG_eq (HandSHeadRun.getT_eq s)
def names0 : List PySem.Str := ["sums", "least_sum", "marks_along", "is_marked", "how_many_rounds", "cells_of", "touches_itself", "_law_box",
    "_law_take", "_law_cells", "_law_of", "_law_lists", "_law_same", "_law_mixed", "_law_all", "_law_by_hand_right", "_law_right"]
def names : List PySem.Str := names0
theorem run (w : World) : HandSHeadRun.RunEq RR (PySem.W.view RR.prog [20]) hk obs 4000 names w := by
  intro os
  kernel_rfl
end Law_k29
open PySem.W PySem.Calls PyProof.Rows PySem
theorem Law_k29.holds_of (hev : ∀ ns : List Int, ns.length ≤ 63 → PX.callN Law_k29.W.T Law_k29.fu Law_k29.dp 6 [.dat (.list (ns.map .int))] none = some (.dat (.bool true), none)) : PySem.Challenge.rw_quickexact_k29_cells_of_one_place.Holds := by
  w_on; o_law
  refine HandSHeadRun.head_any (r := OpenLaw.row PySem.Challenge.rw_quickexact_k29_cells_of_one_place) (q := view (OpenLaw.row PySem.Challenge.rw_quickexact_k29_cells_of_one_place).prog [20]) (H := Law_k29.hk) (ob := Law_k29.obs) (M := 4000) (loose := Law_k29.names) (d := HandSHeadRun.topDef (OpenLaw.row PySem.Challenge.rw_quickexact_k29_cells_of_one_place).prog 20) (kwd := []) Law_k29.obs_eq
    (by kernel_rfl) (fun s => by kernel_rfl) Law_k29.run (by kernel_rfl) (by kernel_rfl) (by kernel_rfl) (by rfl) (by first | assumption | decide +kernel) (by decide +kernel) ⟨rfl, rfl, rfl, rfl, rfl, by decide +kernel⟩ ?hw ?hc
  case hw => w_witness2
  case hc =>
    refine L2.walk_ofE (l := PySem.Challenge.rw_quickexact_k29_cells_of_one_place) (n := 63) (k := Law_k29.dp) (x := "_law_script") (CX := L2.CX0) rfl (by decide) (by kernel_rfl) ⟨rfl, by decide, by decide⟩ ?F (fun _ _ _ _ z => z)
    intro w mg fa h Y G hmg0
    obtain ⟨K, KX, c⟩ := Y
    have hmg : mg ("law" : PySem.Str) = some (.ref fa) := by
      have e : (HandSHeadRun.topDef (OpenLaw.row PySem.Challenge.rw_quickexact_k29_cells_of_one_place).prog 20).name = ("law" : PySem.Str) := by kernel_rfl
      rw [← e]
      exact hmg0
    obtain ⟨fd, hb, hF⟩ := PX.law_of (P := (PySem.Challenge.rw_quickexact_k29_cells_of_one_place).prog) (w := w) (fu := Law_k29.fu) (n := Law_k29.dp) (i := 6) (d := Law_k29.d6) (x := "_law_script") KX G hmg c Law_k29.defs Law_k29.kws rfl rfl rfl Law_k29.ok6 rfl rfl
    exact ⟨K, fd, _, KX, hb, fun H a ns hl _ hS => PX.law_sp hS (hev ns hl), hF⟩
theorem PySem.Challenge.cw_quickexact_k29_cells_of_one_place_holds : PySem.Challenge.rw_quickexact_k29_cells_of_one_place.Holds := by
  exact Law_k29.holds_of Law_k29.law_true
