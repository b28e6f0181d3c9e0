import PyProof.Rows.All
import Wide.All
import OpenK.AllK
import Wide.FinOn
import HandS.ForMost
import HandS.ForExc
import HandS.TryMany
import HandS.Deep
import HandS.SortInts
import HandS.SortRule
import HandS.Sort
import HandS.Conv
import HandS.Strs
import HandS.Wide
import HandS.WideBits
import HandS.IsInst
import HandS.Style
import HandS.SetFor
import HandS.Zip
import HandS.CallSlots
import HandS.Flow
import HandS.Defaults
import HandS.Iter
import HandS.Comp
import HandS.Small
import HandS.ListItems
import HandS.DictTup
import HandS.MakeKw
import HandS.OwnEq
import PyProof.InstNe
import PySem.Challenge.RW_spreadstates_k10_rows_of_tables
set_option Elab.async false
set_option linter.all false
set_option maxRecDepth 100000
/-! Pv: a small language with values (D data, M owned trees), its evaluator. -/
namespace Pv
open PySem L2

/-- data: what never changes again -/
inductive D where
  | non | bl (b : Bool) | int (i : Int) | str (x : Str)
  | lst (xs : List D) | tup (xs : List D)
  | dct (ks : List Key) (vs : List D)
  | set (xs : List Int)
  | obj (c : Nat) (fs : List Str) (vs : List D)
  | fn (f : Nat)
  | scr (xs : List Int)
  deriving Inhabited

/-- trees that one place owns, over data -/
inductive M where
  | fz (d : D)
  | lst (xs : List M)
  | tup (xs : List M)
  | dct (ks : List Key) (vs : List M)
  | obj (c : Nat) (fs : List Str) (vs : List M)
  deriving Inhabited

mutual
def M.toD : M → D
  | .fz d => d
  | .lst xs => .lst (M.toDs xs)
  | .tup xs => .tup (M.toDs xs)
  | .dct ks vs => .dct ks (M.toDs vs)
  | .obj c fs vs => .obj c fs (M.toDs vs)
def M.toDs : List M → List D
  | [] => []
  | m :: ms => m.toD :: M.toDs ms
end
def M.isNode : M → Bool
  | .fz _ => false
  | _ => true
/-- the items that are data -/
def fzs? : List M → Option (List D)
  | [] => some []
  | .fz d :: ms => (fzs? ms).map (d :: ·)
  | _ :: _ => none

/-- a slot: empty, or a value; w: it may be written (its own) -/
inductive Sl where
  | no
  | ok (m : M) (w : Bool)
  deriving Inhabited
abbrev Env := List Sl
def Env.at (e : Env) (i : Nat) : Sl := e.getD i .no

inductive Out (α : Type) where
  | ok (a : α) (e : Env)
  | exc (c : Nat) (ds : List D) (e : Env)
  | stuck
def Out.bind {α β : Type} : Out α → (α → Env → Out β) → Out β
  | .ok a e, f => f a e
  | .exc c ds e, _ => .exc c ds e
  | .stuck, _ => .stuck
/-- no exception leaves -/
def Out.nox {α : Type} : Out α → Out α
  | .exc _ _ _ => .stuck
  | o => o
def Out.of {α : Type} (e : Env) : Option α → Out α
  | some a => .ok a e
  | none => .stuck
/-- a value; al: it is still owned by a place -/
structure RV where
  m : M
  al : Bool
  deriving Inhabited
def RV.d (r : RV) : D := r.m.toD
def RV.loose (r : RV) : Bool := r.al && r.m.isNode
/-- fit to be stored -/
def RV.sto (r : RV) : Option M := if r.loose then none else some r.m
abbrev RV.of (d : D) : RV := ⟨.fz d, false⟩

inductive Op2 where | add | sub | mul | fdiv | mod | pow | shl | shr | band | bor
  deriving DecidableEq
inductive Cm where | eq | ne | lt | le | gt | ge | is | isn | mem | nmem
  deriving DecidableEq
inductive Ty where | int | bool | list | tuple | str | dict | cls (c : Nat)
  deriving DecidableEq
/-- built-in functions -/
inductive Bi where | len | sum | max1 | min1 | max2 | min2 | abs | all | any | int | list | tuple | sorted | set | isi (t : Ty) | lrange1 | lrange2 | dict
  deriving DecidableEq
/-- of one value: sorted(x.items()), sorted(set(x)) -/
inductive Un where | sitems | sset
  deriving DecidableEq
/-- built-in methods that read -/
inductive Bm where | get1 | get2 | count | index | bitlen | items | values | keys
  deriving DecidableEq
/-- built-in methods that write -/
inductive Mu where | append | extend | insert | pop0 | pop1 | clear | setdefault
  deriving DecidableEq
inductive T where
  | nm (i : Nat)
  | tup (ts : List T)
/-- how a parameter comes: the n-th argument, or a default -/
inductive Pm where
  | arg (n : Nat)
  | dfl (n : Nat)
  deriving DecidableEq

mutual
inductive E where
  | var (i : Nat) | mv (i : Nat)
  | cst (d : D) | glb (n : Nat)
  | neg (a : E) | not (a : E)
  | bin (o : Op2) (a b : E) | cmp (o : Cm) (a b : E) | chain (o p : Cm) (a b c : E)
  | boo (isAnd val : Bool) (es : List E)
  | ite (c a b : E)
  | tup (es : List E) | lst (es : List E) | dict (ks vs : List E)
  | sub (a i : E) | slc (k : Nat) (es : List E) | slc3 (a b c : E) | rev (a : E)
  | attr (a : E) (f : Str)
  | call (f : Nat) (args : List E) (ks : List Str) (pm : List Pm)
  | meth (c f : Nat) (m : Str) (o : E) (args : List E) (pm : List Pm)
  | new (c f : Nat) (args : List E) (pm : List Pm)
  | bi (b : Bi) (args : List E)
  | bm (b : Bm) (o : E) (args : List E)
  | mut (b : Mu) (o : E) (args : List E)
  | lc (vs : List Nat) (t : T) (it : It) (ifs : List E) (elt : E)
  | frz (a : E)
  | un (u : Un) (a : E)
  | tupm (es : List E)
  | tupv (es : List E)
  | eqo (neg : Bool) (c f : Nat) (a b : E)
inductive It where
  | list (e : E) | range (es : List E) | enum (e : E) | zip (a b : E)
  | items (e : E) | keys (e : E) | vals (e : E) | revd (e : E)
end
instance : Inhabited E := ⟨.var 0⟩
inductive Tg where
  | nm (i : Nat)
  | tup (ts : List Tg)
  | sub (p i : E)
  | fld (p : E) (f : Str)
mutual
/-- a plain target, as one of the wider kind -/
def T.tg : T → Tg
  | .nm i => .nm i
  | .tup ts => .tup (T.tgs ts)
def T.tgs : List T → List Tg
  | [] => []
  | t :: ts => t.tg :: T.tgs ts
end
inductive S where
  | expr (e : E)
  | asg (t : Tg) (e : E)
  | par (is : List Nat) (es : List E)
  | aug (i : Nat) (o : Op2) (e : E)
  | ret (e : Option E)
  | iff (c : E) (a b : List S)
  | forr (t : T) (it : It) (body : List S)
  | whil (c : E) (body : List S)
  | pass | brk | cont | never
  | frz (i : Nat)

/-- nothing that stands is written while it is evaluated -/
def Mu.pure : Mu → Bool := fun _ => false
mutual
def pureE : E → Bool
  | .var _ => true | .mv _ => false
  | .cst _ => true | .glb _ => true
  | .neg a => pureE a | .not a => pureE a
  | .bin _ a b => pureE a && pureE b
  | .cmp _ a b => pureE a && pureE b
  | .chain _ _ a b c => pureE a && pureE b && pureE c
  | .boo _ _ es => pureEs es
  | .ite c a b => pureE c && pureE a && pureE b
  | .tup es => pureEs es | .lst es => pureEs es | .dict ks vs => pureEs ks && pureEs vs
  | .sub a i => pureE a && pureE i
  | .slc _ es => pureEs es
  | .slc3 a b c => pureE a && (pureE b && pureE c)
  | .rev a => pureE a
  | .attr a _ => pureE a
  | .call .. => false | .meth .. => false | .new .. => false | .mut .. => false
  | .bi _ es => pureEs es
  | .bm _ o es => pureE o && pureEs es
  | .lc .. => false
  | .frz a => pureE a
  | .un _ a => pureE a
  | .tupm es => pureEs es
  | .tupv es => pureEs es
  | .eqo _ _ _ a b => pureE a && pureE b
def pureEs : List E → Bool
  | [] => true
  | e :: es => pureE e && pureEs es
end

/-! ### what operations give -/
def D.truth : D → Option Bool
  | .non => some false
  | .bl b => some b
  | .int i => some (i != 0)
  | .lst xs => some (!xs.isEmpty)
  | .tup xs => some (!xs.isEmpty)
  | _ => none

mutual
def eqD : D → D → Bool
  | .non, .non => true
  | .bl a, .bl b => a == b
  | .bl a, .int j => (if a then 1 else 0) == j
  | .int i, .bl b => i == (if b then 1 else 0)
  | .int i, .int j => i == j
  | .str x, .str y => x == y
  | .lst xs, .lst ys => eqDs xs ys
  | .tup xs, .tup ys => eqDs xs ys
  | _, _ => false
def eqDs : List D → List D → Bool
  | [], [] => true
  | x :: xs, y :: ys => eqD x y && eqDs xs ys
  | _, _ => false
end
mutual
def shp : Nat → D → Bool
  | _, .non => true
  | _, .bl _ => true
  | _, .int _ => true
  | _, .str x => PyData.strOk x
  | n + 1, .lst xs => shps n xs
  | n + 1, .tup xs => shps n xs
  | _, _ => false
def shps : Nat → List D → Bool
  | _, [] => true
  | n, x :: xs => shp n x && shps n xs
end

def dget {α : Type} : List Key → List α → Key → Option α
  | k :: ks, v :: vs, x => if k = x then some v else dget ks vs x
  | _, _, _ => none
def dput {α : Type} : List Key → List α → Key → α → List Key × List α
  | k :: ks, v :: vs, x, y => if k = x then (k :: ks, y :: vs) else ((k :: (dput ks vs x y).1), (v :: (dput ks vs x y).2))
  | _, _, x, y => ([x], [y])
def D.isBl : D → Bool
  | .bl _ => true
  | _ => false
def D.key : D → Option Key
  | .int i => some (.inl i)
  | .str x => some (.inr x)
  | _ => none
def keyD : Key → D
  | .inl i => .int i
  | .inr x => .str x
def fput {α : Type} : List Str → List α → Str → α → List Str × List α
  | k :: ks, v :: vs, x, y => if k = x then (k :: ks, y :: vs) else ((k :: (fput ks vs x y).1), (v :: (fput ks vs x y).2))
  | _, _, x, y => ([x], [y])
def fget {α : Type} : List Str → List α → Str → Option α
  | k :: ks, v :: vs, x => if x = k then some v else fget ks vs x
  | _, _, _ => none

def small64 (i : Int) : Bool := decide (-(2 ^ 64) < i) && decide (i < 2 ^ 64)
def lenOk (n : Nat) : Bool := decide (n ≤ 16777216)
/-- a new list of data -/
abbrev RV.nl (ds : List D) : RV := ⟨.lst (ds.map M.fz), false⟩

def arith : Op2 → Int → Int → Option Int
  | .add, i, j => some (i + j)
  | .sub, i, j => some (i - j)
  | .mul, i, j => if small64 i || small64 j || decide (i.natAbs.log2 + j.natAbs.log2 < 1000000) then some (i * j) else none
  | .fdiv, i, j => if decide (0 < j) && (decide (j < 1073741824) || decide (j.natAbs.log2 < 9000)) then some (i / j) else none
  | .mod, i, j => if decide (0 < j) then some (i % j) else none
  | .pow, i, j => if decide (0 ≤ j) && decide (j ≤ 1000000) && small64 i then some (i ^ j.toNat) else none
  | .shl, i, j => if decide (0 ≤ j) && (decide (j ≤ 1000000) && small64 i || decide ((Builtin.Int.intBits i : Int) + j ≤ 2 ^ 27)) then some (i * 2 ^ j.toNat) else none
  | .shr, i, j => if decide (0 ≤ j) then some (i / 2 ^ j.toNat) else none
  | .band, i, j => some (Builtin.bitAnd i j)
  | .bor, i, j => some (Builtin.bitOr i j)

/-- the items of a list that may go into new ones -/
def RV.lst? (r : RV) : Option (List D) :=
  match r.m with
  | .fz (.lst ds) => some ds
  | .lst ms => if r.al then fzs? ms else some (M.toDs ms)
  | _ => none
def RV.tup? (r : RV) : Option (List D) :=
  match r.m with
  | .fz (.tup ds) => some ds
  | _ => none
def RV.seq? (r : RV) : Option (List D) :=
  match r.lst? with
  | some ds => some ds
  | none => match r.tup? with
    | some ds => some ds
    | none => match r.m with
      | .fz (.scr ns) => some (ns.map .int)
      | _ => none

def bin2 (o : Op2) (a b : RV) : Option RV :=
  match a.d, b.d with
  | .int i, .int j => (arith o i j).map fun k => .of (.int k)
  | _, .int k =>
    match o, a.lst? with
    | .mul, some xs => if decide (k < 2 ^ 63) && decide (-(2 ^ 63) ≤ k) && lenOk (xs.length * k.toNat) then some (.nl (List.replicate k.toNat xs).flatten) else none
    | _, _ => none
  | _, _ =>
    match o, a.lst?, b.lst? with
    | .add, some xs, some ys => if lenOk (xs.length + ys.length) then some (.nl (xs ++ ys)) else none
    | _, _, _ => none

def D.none? : D → Bool
  | .non => true
  | _ => false
def flat : D → Bool
  | .non => true
  | .bl _ => true
  | .int _ => true
  | .str _ => true
  | _ => false
def memD (x : D) (y : D) : Option Bool :=
  match y with
  | .dct ks _ => x.key.map fun k => ks.any fun z => decide (z = k)
  | .lst ys => if flat x && ys.all flat then some (ys.any fun z => eqD z x) else if shp 40 x && shps 40 ys then some (ys.any fun z => eqD z x) else none
  | .tup ys => if flat x && ys.all flat then some (ys.any fun z => eqD z x) else none
  | _ => none
def cmp2 (o : Cm) (a b : D) : Option Bool :=
  match o with
  | .eq => if shp 40 a && shp 40 b then some (eqD a b) else none
  | .ne => if shp 40 a && shp 40 b then some (!eqD a b) else none
  | .lt => match a, b with | .int i, .int j => some (decide (i < j)) | _, _ => none
  | .le => match a, b with | .int i, .int j => some (decide (i ≤ j)) | _, _ => none
  | .gt => match a, b with | .int i, .int j => some (decide (j < i)) | _, _ => none
  | .ge => match a, b with | .int i, .int j => some (decide (j ≤ i)) | _, _ => none
  | .is => if b.none? then some a.none? else none
  | .isn => if b.none? then some (!a.none?) else none
  | .mem => memD a b
  | .nmem => (memD a b).map (! ·)

def ints? : List D → Option (List Int)
  | [] => some []
  | .int i :: ds => (ints? ds).map (i :: ·)
  | _ => none
def bls? : List D → Option (List Bool)
  | [] => some []
  | .bl i :: ds => (bls? ds).map (i :: ·)
  | _ => none
def pairs? : List D → Option (List (Int × Int))
  | [] => some []
  | .tup [.int i, .int j] :: ds => (pairs? ds).map ((i, j) :: ·)
  | _ => none
def insI (x : Int) : List Int → List Int
  | [] => [x]
  | y :: ys => if x ≤ y then x :: y :: ys else y :: insI x ys
def sortI : List Int → List Int
  | [] => []
  | x :: xs => insI x (sortI xs)
def leP (p q : Int × Int) : Bool := if p.1 = q.1 then decide (p.2 ≤ q.2) else decide (p.1 < q.1)
def insP (x : Int × Int) : List (Int × Int) → List (Int × Int)
  | [] => [x]
  | y :: ys => if leP x y then x :: y :: ys else y :: insP x ys
def sortP : List (Int × Int) → List (Int × Int)
  | [] => []
  | x :: xs => insP x (sortP xs)
def maxI : List Int → Option Int
  | [] => none
  | [x] => some x
  | x :: xs => (maxI xs).map fun y => if y ≤ x then x else y
def minI : List Int → Option Int
  | [] => none
  | [x] => some x
  | x :: xs => (minI xs).map fun y => if x ≤ y then x else y
def dedup : List Int → List Int
  | [] => []
  | x :: xs => x :: (dedup xs).filter (· != x)
abbrev pairD (p : Int × Int) : D := .tup [.int p.1, .int p.2]

def isTy : Ty → D → Option Bool
  | .int, .int _ => some true
  | .int, .bl _ => some true
  | .bool, .bl _ => some true
  | .list, .lst _ => some true
  | .list, .scr _ => some true
  | .tuple, .tup _ => some true
  | .str, .str _ => some true
  | .dict, .dct _ _ => some true
  | .cls c, .obj k _ _ => if c = k then some true else none
  | _, .set _ => none
  | _, .fn _ => none
  | .cls _, _ => some false
  | _, .obj _ _ _ => none
  | _, _ => some false

def lenD : D → Option Nat
  | .lst xs => some xs.length
  | .tup xs => some xs.length
  | .dct ks _ => some ks.length
  | .scr xs => some xs.length
  | _ => none

def ints62 (i : Int) : Bool := decide (-(2 ^ 62) ≤ i) && decide (i < 2 ^ 62)
def rangeI (lo : Int) (n : Nat) : List Int := (List.range n).map fun (i : Nat) => lo + (i : Int)
/-- downwards -/
def rangeD (lo : Int) (n : Nat) : List Int := (List.range n).map fun (i : Nat) => lo - (i : Int)
/-- range(..): its ints -/
def range? : List D → Option (List Int)
  | [.int n] => if ints62 n then some (rangeI 0 n.toNat) else none
  | [.int a, .int b] => if ints62 a && ints62 b then some (rangeI a (b - a).toNat) else none
  | [.int a, .int b, .int c] => if ints62 a && ints62 b && decide (c = -1) then some (rangeD a (a - b).toNat) else none
  | _ => none

def biF : Bi → List RV → Option RV
  | .len, [r] => (lenD r.d).map fun n => .of (.int n)
  | .sum, [r] => match r.d with | .lst ds => (ints? ds).map fun ns => .of (.int ns.sum) | _ => none
  | .max1, [r] => match r.d with | .lst ds => (ints? ds).bind fun ns => (maxI ns).map fun k => .of (.int k) | _ => none
  | .min1, [r] => match r.d with | .lst ds => (ints? ds).bind fun ns => (minI ns).map fun k => .of (.int k) | _ => none
  | .max2, [r, s] => match r.d, s.d with | .int i, .int j => some (.of (.int (if j > i then j else i))) | _, _ => none
  | .min2, [r, s] => match r.d, s.d with | .int i, .int j => some (.of (.int (if j < i then j else i))) | _, _ => none
  | .abs, [r] => match r.d with | .int i => some (.of (.int (if i < 0 then -i else i))) | _ => none
  | .all, [r] => match r.d with | .lst ds => (bls? ds).map fun bs => .of (.bl (bs.all id)) | _ => none
  | .any, [r] => match r.d with | .lst ds => (bls? ds).map fun bs => .of (.bl (bs.any id)) | _ => none
  | .int, [r] => match r.d with | .int i => some (.of (.int i)) | .bl b => some (.of (.int (if b then 1 else 0))) | _ => none
  | .list, [r] => match r.seq? with | some ds => if lenOk ds.length then some (.nl ds) else none | none => none
  | .tuple, [r] => match r.lst? with | some ds => if lenOk ds.length then some (.of (.tup ds)) else none | none => none
  | .isi t, [r] => (isTy t r.d).map fun b => .of (.bl b)
  | .sorted, [r] =>
    match r.d with
    | .lst ds =>
      match ints? ds with
      | some ns => if lenOk ns.length then some (.nl ((sortI ns).map .int)) else none
      | none => match r.lst? with
        | some ds => match pairs? ds with
          | some ps => if lenOk ps.length then some (.nl ((sortP ps).map pairD)) else none
          | none => none
        | none => none
    | .dct ks _ => match ints? (ks.map keyD) with
      | some ns => if decide (ns.length < 64) then some (.nl ((sortI ns).map .int)) else none
      | none => none
    | _ => none
  | .set, [r] => match r.d with | .lst ds => (ints? ds).map fun ns => .of (.set (dedup ns)) | _ => none
  | .lrange1, [r] => (range? [r.d]).bind fun ns => if lenOk ns.length then some (.nl (ns.map .int)) else none
  | .lrange2, [r, s] => (range? [r.d, s.d]).bind fun ns => if lenOk ns.length then some (.nl (ns.map .int)) else none
  | _, _ => none

def unF : Un → RV → Option RV
  | .sitems, r => match r.d with
    | .dct ks ds => match ints? (ks.map keyD), ints? ds with
      | some a, some b => some (.nl ((sortP (a.zip b)).map pairD))
      | _, _ => none
    | _ => none
  | .sset, r => match r.d with
    | .lst ds => match ints? ds with
      | some ns => if decide (ns.length ≤ 4000) then some (.nl ((sortI (dedup ns)).map .int)) else none
      | none => none
    | _ => none

def bmF : Bm → RV → List RV → Option RV
  | .get1, r, [k] => match r.m, k.d.key with
    | .fz (.dct ks vs), some x => some ⟨.fz ((dget ks vs x).getD .non), false⟩
    | .dct ks vs, some x => some ⟨(dget ks vs x).getD (.fz .non), r.al⟩
    | _, _ => none
  | .get2, r, [k, z] => match r.m, k.d.key with
    | .fz (.dct ks vs), some x => match dget ks vs x with
      | some d => some ⟨.fz d, false⟩
      | none => some z
    | .dct ks vs, some x => match dget ks vs x with
      | some m => some ⟨m, r.al⟩
      | none => some z
    | _, _ => none
  | .count, r, [x] => match r.d, x.d with
    | .lst ds, .int i => (ints? ds).map fun ns => .of (.int (ns.count i))
    | _, _ => none
  | .index, r, [x] => match r.d with
    | .lst ds => if flat x.d && ds.all flat then (match ds.findIdx? (fun z => eqD z x.d) with | some j => some (.of (.int j)) | none => none) else none
    | _ => none
  | .bitlen, r, [] => match r.d with | .int i => some (.of (.int (Builtin.Int.intBits i : Nat))) | _ => none
  | _, _, _ => none

def D.isLst : D → Bool
  | .lst _ => true
  | _ => false
def D.isDct : D → Bool
  | .dct _ _ => true
  | _ => false
def D.isInt : D → Bool
  | .int _ => true
  | _ => false
/-- the receiver's kind -/
def bmTy : Bm → D → Bool
  | .get1, d => d.isDct
  | .get2, d => d.isDct
  | .count, d => d.isLst
  | .index, d => d.isLst
  | .bitlen, d => d.isInt
  | _, _ => false
/-- a[i] -/
def subR (a : RV) (i : D) : Option RV :=
  match a.m, i with
  | .fz (.lst ds), .int k => (atI ds k).map .of
  | .fz (.tup ds), .int k => (atI ds k).map .of
  | .fz (.scr ns), .int k => (atI ns k).map fun n => .of (.int n)
  | .fz (.dct ks vs), k => k.key.bind fun x => (dget ks vs x).map .of
  | .lst ms, .int k => (atI ms k).map fun m => ⟨m, a.al⟩
  | .tup ms, .int k => (atI ms k).map fun m => ⟨m, a.al⟩
  | .dct ks vs, k => k.key.bind fun x => (dget ks vs x).map fun m => ⟨m, a.al⟩
  | _, _ => none
def attrR (a : RV) (f : Str) : Option RV :=
  match a.m with
  | .fz (.obj _ fs vs) => (fget fs vs f).map .of
  | .obj _ fs ms => (fget fs ms f).map fun m => ⟨m, a.al⟩
  | _ => none
def cutL {α : Type} (xs : List α) (lo hi : Option Int) : List α := (xs.drop (HT.sIx xs.length 0 lo)).take (HT.sIx xs.length xs.length hi - HT.sIx xs.length 0 lo)
def cutR (a : RV) (l h : Option Int) : Option RV :=
  match a.lst? with
  | some ds => some (.nl (cutL ds l h))
  | none => match a.m with
    | .fz (.scr ns) => some (.nl ((cutL ns l h).map .int))
    | .fz (.tup ds) => if HT.sIx ds.length 0 l = 0 ∧ HT.sIx ds.length ds.length h = ds.length then none else some (.of (.tup (cutL ds l h)))
    | _ => none
def RV.i? (r : RV) : Option Int := match r.d with | .int i => some i | _ => none
/-- a[:], a[l:], a[:h], a[l:h] -/
def slcF : Nat → List RV → Option RV
  | 0, [r] => cutR r none none
  | 1, [r, l] => l.i?.bind fun i => cutR r (some i) none
  | 2, [r, h] => h.i?.bind fun j => cutR r none (some j)
  | _, _ => none
def revR (a : RV) : Option RV := a.lst?.map fun ds => .nl ds.reverse

/-! ### places -/
inductive Step where
  | fld (f : Str)
  | key (d : D)
def kidx (ks : List Key) (k : Key) : Option Nat := ks.findIdx? (fun x => decide (x = k))
def fidx (ks : List Str) (k : Str) : Option Nat := ks.findIdx? (fun x => decide (x = k))
def D.i? : D → Option Int
  | .int i => some i
  | _ => none
/-- the node at a path is turned -/
def M.mod {α : Type} (f : M → Option (M × α)) : List Step → M → Option (M × α)
  | [], m => f m
  | .fld s :: ps, .obj c fs ms => (fidx fs s).bind fun j => (ms[j]?).bind fun m => (M.mod f ps m).map fun (m', a) => (.obj c fs (ms.set j m'), a)
  | .key d :: ps, .lst ms => (D.i? d).bind fun i => (ixN ms.length i).bind fun j => (ms[j]?).bind fun m => (M.mod f ps m).map fun (m', a) => (.lst (ms.set j m'), a)
  | .key d :: ps, .dct ks ms => d.key.bind fun k => (kidx ks k).bind fun j => (ms[j]?).bind fun m => (M.mod f ps m).map fun (m', a) => (.dct ks (ms.set j m'), a)
  | .key d :: ps, .tup ms => (D.i? d).bind fun i => (ixN ms.length i).bind fun j => (ms[j]?).bind fun m => (M.mod f ps m).map fun (m', a) => (.tup (ms.set j m'), a)
  | _, _ => none
def M.get : List Step → M → Option M
  | [], m => some m
  | .fld s :: ps, .obj _ fs ms => (fidx fs s).bind fun j => (ms[j]?).bind fun m => M.get ps m
  | .key d :: ps, .lst ms => (D.i? d).bind fun i => (ixN ms.length i).bind fun j => (ms[j]?).bind fun m => M.get ps m
  | .key d :: ps, .dct ks ms => d.key.bind fun k => (kidx ks k).bind fun j => (ms[j]?).bind fun m => M.get ps m
  | .key d :: ps, .tup ms => (D.i? d).bind fun i => (ixN ms.length i).bind fun j => (ms[j]?).bind fun m => M.get ps m
  | _, _ => none
/-- a node that may be written -/
def pathOk (e : Env) (i : Nat) (ps : List Step) : Bool :=
  match e.at i with
  | .ok m true => m.isNode && (match M.get ps m with | some n => n.isNode | none => false)
  | _ => false
/-- a list that may be written -/
def lstAt (e : Env) (i : Nat) (ps : List Step) : Bool :=
  match e.at i with
  | .ok m true => (match M.get ps m with | some (.lst _) => true | _ => false)
  | _ => false
/-- the items of a list of data -/
def extF (r : RV) : Option (List D) :=
  match r.m with
  | .fz (.lst ds) => some ds
  | .lst ms => fzs? ms
  | _ => none
def muF : Mu → List RV → M → Option (M × RV)
  | .append, [r], .lst ms => r.sto.bind fun m => if decide (ms.length < 16777216) then some (.lst (ms ++ [m]), .of .non) else none
  | .pop0, [], .lst ms => ms.getLast?.map fun m => (.lst ms.dropLast, ⟨m, false⟩)
  | .clear, [], .lst _ => some (.lst [], .of .non)
  | .extend, [r], .lst ms => (extF r).bind fun ds => if decide (ms.length + ds.length ≤ 16777216) then some (.lst (ms ++ ds.map .fz), .of .non) else none
  | _, _, _ => none
def setSub (k : D) (m : M) : M → Option (M × Unit)
  | .lst ms => match k with
    | .int i => (ixN ms.length i).map fun j => (.lst (ms.set j m), ())
    | _ => none
  | .dct ks vs => k.key.bind fun x => if decide (ks.Nodup) && decide (vs.length < 16777216) then some (.dct (dput ks vs x m).1 (dput ks vs x m).2, ()) else none
  | _ => none
def setFld (f : Str) (m : M) : M → Option (M × Unit)
  | .obj c fs vs => if decide (fs.length < 1000) then some (.obj c (fput fs vs f m).1 (fput fs vs f m).2, ()) else none
  | _ => none
def Env.mod {α : Type} (e : Env) (i : Nat) (f : M → Option (M × α)) : Option (α × Env) :=
  match e.at i with
  | .ok m true => if m.isNode then (f m).map fun (m', a) => (a, e.set i (.ok m' true)) else none
  | _ => none

/-! ### targets, loops -/
/-- a slot is stored; one that is shut is not -/
def Env.put (e : Env) (i : Nat) (m : M) : Option Env :=
  match e.at i with
  | .ok _ false => none
  | _ => some (e.set i (.ok m true))
mutual
def tset : T → D → Env → Option Env
  | .nm i, d, e => e.put i (.fz d)
  | .tup ts, d, e => match d with
    | .tup ds => tsets ts ds e
    | _ => none
def tsets : List T → List D → Env → Option Env
  | [], [], e => some e
  | t :: ts, d :: ds, e => (tset t d e).bind fun e' => tsets ts ds e'
  | _, _, _ => none
end
inductive Fl where
  | nx | rt (m : M) | bk | ct
def loopF (st : D → Env → Option Env) (b : Env → Out Fl) : List D → Env → Out Fl
  | [], e => .ok .nx e
  | d :: ds, e => match st d e with
    | none => .stuck
    | some e1 => match b e1 with
      | .ok .nx e2 => loopF st b ds e2
      | .ok .ct e2 => loopF st b ds e2
      | .ok .bk e2 => .ok .nx e2
      | .ok (.rt m) e2 => .ok (.rt m) e2
      | .exc c es e2 => .exc c es e2
      | .stuck => .stuck
def loopW (c : Env → Out Bool) (b : Env → Out Fl) : Nat → Env → Out Fl
  | 0, _ => .stuck
  | n + 1, e => (c e).bind fun k e1 => if k then (match b e1 with
      | .ok .nx e2 => loopW c b n e2
      | .ok .ct e2 => loopW c b n e2
      | .ok .bk e2 => .ok .nx e2
      | .ok (.rt m) e2 => .ok (.rt m) e2
      | .exc c es e2 => .exc c es e2
      | .stuck => .stuck) else .ok .nx e1
def loopC (st : D → Env → Option Env) (tt : Env → Out Bool) (el : Env → Out RV) : List D → List M → Env → Out (List M)
  | [], acc, e => .ok acc e
  | d :: ds, acc, e => match st d e with
    | none => .stuck
    | some e1 => (tt e1).bind fun k e2 => if k then (el e2).bind fun r e3 => (match r.sto with
        | some m => if decide (acc.length < 16777216) then loopC st tt el ds (acc ++ [m]) e3 else .stuck
        | none => .stuck) else loopC st tt el ds acc e2
@[irreducible] def WF : Nat := 4294967296

/-- the slots that a walk keeps shut: those of its sources that are still owned -/
def E.root : E → Option Nat
  | .var i => some i
  | _ => none
def shut (e : E) (r : RV) (env : Env) : Option (List Nat × Env) :=
  if r.loose then
    match E.root e with
    | some i => match env.at i with
      | .ok m true => some ([i], env.set i (.ok m false))
      | .ok _ false => some ([], env)
      | .no => none
    | none => none
  else some ([], env)
/-- a list (or, all, a tuple) to be walked -/
def srcF (all : Bool) (a : E) (r : RV) (e : Env) : Out (List D × List Nat) :=
  match (if all then r.seq? else r.lst?), shut a r e with
  | some ds, some (sh, e) => .ok (ds, sh) e
  | _, _ => .stuck
def unshut : List Nat → Env → Env
  | [], e => e
  | i :: is, e => unshut is (match e.at i with | .ok m false => e.set i (.ok m true) | _ => e)
def wipeE : List Nat → Env → Env
  | [], e => e
  | i :: is, e => (wipeE is e).set i .no
/-- the block's own slots come back as they were; they must not own anything meanwhile -/
def plainAt (e : Env) (i : Nat) : Bool := match e.at i with
  | .no => true
  | .ok (.fz _) _ => true
  | _ => false
def backE (old : Env) : List Nat → Env → Env
  | [], e => e
  | i :: is, e => (backE old is e).set i (old.at i)

/-! ### calls -/
inductive Arg where
  | bor (i : Nat)
  | val (m : M)
inductive CRes where
  | ok (m : M) (outs : List (Option M))
  | exc (c : Nat) (ds : List D) (outs : List (Option M))
  | stuck
/-- the arguments' trees are handed over -/
def takeA : List Arg → Env → Option (List M × Env)
  | [], e => some ([], e)
  | .val m :: as, e => (takeA as e).map fun (ms, e') => (m :: ms, e')
  | .bor i :: as, e => match e.at i with
    | .ok m true => (takeA as (e.set i .no)).map fun (ms, e') => (m :: ms, e')
    | _ => none
/-- .. and come back: by the argument, the parameter's place -/
def giveA : List Arg → List (Option M) → Env → Env
  | .bor i :: as, some m :: os, e => giveA as os (e.set i (.ok m true))
  | _ :: as, _ :: os, e => giveA as os e
  | _, _, e => e
def pick {α : Type} (xs : List α) (dv : Nat → Option α) : List Pm → Option (List α)
  | [] => some []
  | .arg n :: ps => (xs[n]?).bind fun x => (pick xs dv ps).map (x :: ·)
  | .dfl d :: ps => (dv d).bind fun x => (pick xs dv ps).map (x :: ·)
abbrev Calls := Nat → List M → CRes
def dflA (cs : List D) (n : Nat) : Option Arg := (cs[n]?).map fun d => .val (.fz d)
def callA (C : Calls) (cs : List D) (f : Nat) (as : List Arg) (pm : List Pm) (e : Env) : Out M :=
  match pick as (dflA cs) pm with
  | none => .stuck
  | some bs => match takeA bs e with
    | none => .stuck
    | some (ms, e1) => match C f ms with
      | .ok m outs => .ok m (giveA bs outs e1)
      | .exc c ds outs => .exc c ds (giveA bs outs e1)
      | .stuck => .stuck

/-- a new object: its __init__ at an object without fields -/
def newA (C : Calls) (cs : List D) (c f : Nat) (as : List Arg) (pm : List Pm) (e : Env) : Out M :=
  match pick (.val (.obj c [] []) :: as) (dflA cs) (.arg 0 :: pm) with
  | none => .stuck
  | some bs => match takeA bs e with
    | none => .stuck
    | some (ms, e1) => match C f ms with
      | .ok (.fz .non) (some m :: outs) => .ok m (giveA bs (none :: outs) e1)
      | .exc c ds (_ :: outs) => .exc c ds (giveA bs (none :: outs) e1)
      | _ => .stuck
/-- the receiver of a method -/
def argM (e : Env) : Arg → M
  | .bor i => match e.at i with
    | .ok t _ => t
    | .no => .fz .non
  | .val t => t
def isObj (c : Nat) (m : Str) : M → Bool
  | .obj k fs _ => decide (k = c) && decide (m ∉ fs)
  | .fz (.obj k fs _) => decide (k = c) && decide (m ∉ fs)
  | _ => false
/-- the classes (not read by now) -/
structure ClsI where
  name : Str
structure Wd where
  C : Calls
  cl : List ClsI
  cs : List D
def D.cls : D → Option Nat
  | .obj c _ _ => some c
  | _ => none
/-- what an own == is asked of -/
def eqoTy (c : Nat) : D → Bool
  | .obj k _ _ => decide (k = c)
  | .lst _ => true
  | .tup _ => true
  | _ => false
/-- == and != by an own __eq__ -/
def eqoF (C : Calls) (neg : Bool) (c f : Nat) (r s : RV) : Option RV :=
  match r.m, s.m with
  | .fz (.obj k fs vs), .fz d => if decide (k = c) && eqoTy c d then
      (match C f [.fz (.obj k fs vs), .fz d] with
      | .ok (.fz (.bl b)) _ => some (.of (.bl (if neg then !b else b)))
      | _ => none) else none
  | _, _ => none
mutual
def evE (W : Wd) : E → Env → Out RV
  | .var i, e => match e.at i with
    | .ok m _ => .ok ⟨m, true⟩ e
    | .no => .stuck
  | .mv i, e => match e.at i with
    | .ok m true => .ok ⟨m, false⟩ (e.set i .no)
    | _ => .stuck
  | .cst d, e => .ok (.of d) e
  | .glb n, e => .of e ((W.cs[n]?).map .of)
  | .neg a, e => (evE W a e).bind fun r e => match r.d with
    | .int i => .ok (.of (.int (-i))) e
    | _ => .stuck
  | .not a, e => ((evE W a e).bind fun r e => Out.of e r.d.truth).bind fun b e => .ok (.of (.bl (!b))) e
  | .bin o a b, e => (evE W a e).bind fun r e => if r.loose && !pureE b then .stuck else (evE W b e).bind fun s e => .of e (bin2 o r s)
  | .cmp o a b, e => (evE W a e).bind fun r e => if r.loose && !pureE b then .stuck else (evE W b e).bind fun s e => .of e ((cmp2 o r.d s.d).map fun k => .of (.bl k))
  | .chain o p a b c, e => (evE W a e).bind fun r e => match r.d with
    | .int i => (evE W b e).bind fun s e => (match s.d with
      | .int j => (match cmp2 o (.int i) (.int j) with
        | some true => (evE W c e).bind fun t e => (match t.d with
          | .int l => Out.of e ((cmp2 p (.int j) (.int l)).map fun k => .of (.bl k))
          | _ => .stuck)
        | some false => .ok (.of (.bl false)) e
        | none => .stuck)
      | _ => .stuck)
    | _ => .stuck
  | .boo k v es, e => evB W k v es e
  | .ite c a b, e => ((evE W c e).bind fun r e => Out.of e r.d.truth).bind fun k e => if k = true then evE W a e else evE W b e
  | .tup es, e => (evEs W es e).bind fun rs e => if rs.any RV.loose then .stuck else if lenOk rs.length then .ok (.of (.tup (rs.map RV.d))) e else .stuck
  | .lst es, e => (evEs W es e).bind fun rs e => if rs.any RV.loose then .stuck else if lenOk rs.length then .ok ⟨.lst (rs.map RV.m), false⟩ e else .stuck
  | .dict ks vs, e => match ks, vs with
    | [], [] => .ok ⟨.dct [] [], false⟩ e
    | _, _ => .stuck
  | .sub a i, e => (evE W a e).bind fun r e => if r.loose && !pureE i then .stuck else (evE W i e).bind fun s e => .of e (subR r s.d)
  | .slc k es, e => (evEs W es e).bind fun rs e => .of e (slcF k rs)
  | .slc3 a b c, e => (evE W a e).bind fun r e => if r.loose && !(pureE b && pureE c) then .stuck else (evE W b e).bind fun s e => match s.d with
    | .int i => (evE W c e).bind fun t e => (match t.d with
      | .int j => Out.of e (cutR r (some i) (some j))
      | _ => .stuck)
    | _ => .stuck
  | .rev a, e => (evE W a e).bind fun r e => .of e (revR r)
  | .attr a f, e => (evE W a e).bind fun r e => .of e (attrR r f)
  | .call f es _ pm, e => (evAs W es e).bind fun as e => (callA W.C W.cs f as pm e).bind fun m e => .ok ⟨m, false⟩ e
  | .meth c f m o es pm, e => (evA W o e).bind fun a e => if isObj c m (argM e a) then (evAs W es e).bind fun as e => (callA W.C W.cs f (a :: as) (.arg 0 :: pm) e).bind fun m e => .ok ⟨m, false⟩ e else .stuck
  | .new c f es pm, e => (evAs W es e).bind fun as e => (newA W.C W.cs c f as pm e).bind fun m e => .ok ⟨m, false⟩ e
  | .bi b es, e => (evEs W es e).bind fun rs e => .of e (biF b rs)
  | .bm b o es, e => (evE W o e).bind fun r e => if r.loose && !pureEs es then .stuck else if bmTy b r.d then (evEs W es e).bind fun rs e => .of e (bmF b r rs) else .stuck
  | .mut b o es, e => (evP W o e).bind fun p e => if lstAt e p.1 p.2 && (p.2.isEmpty || pureEs es) then (evEs W es e).bind fun rs e =>
      match e.mod p.1 (M.mod (muF b rs) p.2) with
      | some (r, e') => .ok r e'
      | none => .stuck else .stuck
  | .lc vs t it ifs el, e => (evIt W it e).bind fun p e =>
      (loopC (fun d e => if vs.all (plainAt e) then tset t d (wipeE vs e) else none) (fun e => (evTs W ifs e).nox) (fun e => (evE W el e).nox) p.1 [] e).bind fun acc e' =>
        if vs.all (plainAt e') && vs.all (plainAt e) then .ok ⟨.lst acc, false⟩ (unshut p.2 (backE e vs (wipeE vs e'))) else .stuck
  | .frz a, e => (evE W a e).bind fun r e => if r.loose then .stuck else .ok (.of r.d) e
  | .un u a, e => (evE W a e).bind fun r e => .of e (unF u r)
  | .tupv es, e => (evEs W es e).bind fun rs e => if lenOk rs.length then .ok ⟨.tup (rs.map RV.m), true⟩ e else .stuck
  | .eqo neg c f a b, e => (evE W a e).bind fun r e => if r.loose && !pureE b then .stuck else (evE W b e).bind fun s e => .of e (eqoF W.C neg c f r s)
  | .tupm es, e => (evEs W es e).bind fun rs e => if rs.any RV.loose then .stuck else if lenOk rs.length then .ok ⟨.tup (rs.map RV.m), false⟩ e else .stuck
def evB (W : Wd) : Bool → Bool → List E → Env → Out RV
  | _, _, [], _ => .stuck
  | _, _, [a], e => evE W a e
  | k, v, a :: es, e => ((evE W a e).bind fun r e => Out.of e (if v && !r.d.isBl then none else r.d.truth)).bind fun b e => if b = k then evB W k v es e else .ok (.of (.bl b)) e
def evEs (W : Wd) : List E → Env → Out (List RV)
  | [], e => .ok [] e
  | a :: es, e => (evE W a e).bind fun r e => if r.loose && !pureEs es then .stuck else (evEs W es e).bind fun rs e => .ok (r :: rs) e
def evTs (W : Wd) : List E → Env → Out Bool
  | [], e => .ok true e
  | a :: es, e => ((evE W a e).bind fun r e => Out.of e r.d.truth).bind fun b e => if b = true then evTs W es e else .ok false e
def evA (W : Wd) : E → Env → Out Arg
  | .var i, e => match e.at i with
    | .ok m w => if m.isNode then (if w then .ok (.bor i) e else .stuck) else .ok (.val m) e
    | .no => .stuck
  | a, e => (evE W a e).bind fun r e => match r.sto with
    | some m => .ok (.val m) e
    | none => .stuck
def evAs (W : Wd) : List E → Env → Out (List Arg)
  | [], e => .ok [] e
  | a :: es, e => (evA W a e).bind fun r e => (evAs W es e).bind fun rs e => .ok (r :: rs) e
def evP (W : Wd) : E → Env → Out (Nat × List Step)
  | .var i, e => if pathOk e i [] then .ok (i, []) e else .stuck
  | .attr a f, e => (evP W a e).bind fun (i, ps) e => if pathOk e i (ps ++ [.fld f]) then .ok (i, ps ++ [.fld f]) e else .stuck
  | .sub a k, e => (evP W a e).bind fun (i, ps) e => if pureE k then (evE W k e).bind fun r e => if pathOk e i (ps ++ [.key r.d]) then .ok (i, ps ++ [.key r.d]) e else .stuck else .stuck
  | _, _ => .stuck
def evIt (W : Wd) : It → Env → Out (List D × List Nat)
  | .list a, e => (evE W a e).bind fun r e => srcF true a r e
  | .range es, e => (evEs W es e).bind fun rs e => match range? (rs.map RV.d) with
    | some ns => .ok (ns.map .int, []) e
    | none => .stuck
  | .enum a, e => ((evE W a e).bind fun r e => srcF false a r e).bind fun p e => .ok (p.1.zipIdx.map fun (d, i) => .tup [.int i, d], p.2) e
  | .zip a b, e => ((evE W a e).bind fun r e => srcF false a r e).bind fun p e => (((evE W b e).bind fun r e => srcF false b r e).nox).bind fun q e => .ok ((p.1.zip q.1).map fun (x, y) => .tup [x, y], q.2 ++ p.2) e
  | .revd a, e => ((evE W a e).bind fun r e => srcF false a r e).bind fun p e => .ok (p.1.reverse, p.2) e
  | .items a, e => (evE W a e).bind fun r e => match r.m, shut a r e with
    | .fz (.dct ks vs), some (sh, e) => .ok ((ks.zip vs).map fun (k, v) => .tup [keyD k, v], sh) e
    | .dct ks ms, some (sh, e) => (match fzs? ms with | some vs => .ok ((ks.zip vs).map fun (k, v) => .tup [keyD k, v], sh) e | none => .stuck)
    | _, _ => .stuck
  | .keys a, e => (evE W a e).bind fun r e => match r.m, shut a r e with
    | .fz (.dct ks _), some (sh, e) => .ok (ks.map keyD, sh) e
    | .dct ks _, some (sh, e) => .ok (ks.map keyD, sh) e
    | _, _ => .stuck
  | .vals a, e => (evE W a e).bind fun r e => match r.m, shut a r e with
    | .fz (.dct _ vs), some (sh, e) => .ok (vs, sh) e
    | .dct _ ms, some (sh, e) => (match fzs? ms with | some vs => .ok (vs, sh) e | none => .stuck)
    | _, _ => .stuck
end

/-! ### statements -/
mutual
def T.asgs : T → List Nat
  | .nm i => [i]
  | .tup ts => T.asgsL ts
def T.asgsL : List T → List Nat
  | [] => []
  | t :: ts => t.asgs ++ T.asgsL ts
end
mutual
def Tg.asgs : Tg → List Nat
  | .nm i => [i]
  | .tup ts => Tg.asgsL ts
  | _ => []
def Tg.asgsL : List Tg → List Nat
  | [] => []
  | t :: ts => t.asgs ++ Tg.asgsL ts
end
mutual
def S.asgs : S → List Nat
  | .asg t _ => t.asgs
  | .par is _ => is
  | .aug i _ _ => [i]
  | .iff _ a b => S.asgsL a ++ S.asgsL b
  | .forr t _ b => t.asgs ++ S.asgsL b
  | .whil _ b => S.asgsL b
  | _ => []
def S.asgsL : List S → List Nat
  | [] => []
  | s :: ss => s.asgs ++ S.asgsL ss
end
def setPar : List Nat → List RV → Env → Option Env
  | [], [], e => some e
  | i :: is, r :: rs, e => r.sto.bind fun m => (e.put i m).bind fun e' => setPar is rs e'
  | _, _, _ => none
mutual
def tgset (W : Wd) : Tg → M → Env → Out Unit
  | .nm i, m, e => (match e.put i m with
    | some e' => .ok () e'
    | none => .stuck)
  | .tup ts, m, e => match m with
    | .fz (.tup ds) => if ds.length = ts.length then tgsets W ts (ds.map .fz) e else .stuck
    | .tup ms => if ms.length = ts.length then tgsets W ts ms e else .stuck
    | _ => .stuck
  | .sub p k, m, e => (evP W p e).bind fun (i, ps) e => if !ps.isEmpty && !pureE k then .stuck else (evE W k e).bind fun r e =>
      match e.mod i (M.mod (setSub r.d m) ps) with
      | some (_, e') => .ok () e'
      | none => .stuck
  | .fld p f, m, e => (evP W p e).bind fun (i, ps) e =>
      match e.mod i (M.mod (setFld f m) ps) with
      | some (_, e') => .ok () e'
      | none => .stuck
def tgsets (W : Wd) : List Tg → List M → Env → Out Unit
  | [], [], e => .ok () e
  | t :: ts, d :: ds, e => (tgset W t d e).bind fun _ e => tgsets W ts ds e
  | _, _, _ => .stuck
end
def openO (sh : List Nat) : Out Fl → Out Fl
  | .ok f e => .ok f (unshut sh e)
  | .exc c ds e => .exc c ds (unshut sh e)
  | .stuck => .stuck
mutual
def evS (W : Wd) : S → Env → Out Fl
  | .expr a, e => (evE W a e).bind fun _ e => .ok .nx e
  | .asg t a, e => (evE W a e).bind fun r e => match r.sto with
    | some m => (tgset W t m e).bind fun _ e => .ok .nx e
    | none => .stuck
  | .par is es, e => (evEs W es e).bind fun rs e => match setPar is rs e with
    | some e => .ok .nx e
    | none => .stuck
  | .aug i o a, e => match e.at i with
    | .ok (.fz (.int x)) _ => (evE W a e).bind fun r e => match r.d with
      | .int y => (match arith o x y with
        | some z => (match e.put i (.fz (.int z)) with
          | some e' => .ok .nx e'
          | none => .stuck)
        | none => .stuck)
      | _ => .stuck
    | _ => .stuck
  | .ret none, e => .ok (.rt (.fz .non)) e
  | .ret (some a), e => (evE W a e).bind fun r e => match r.sto with
    | some m => .ok (.rt m) e
    | none => .stuck
  | .iff c a b, e => ((evE W c e).bind fun r e => Out.of e r.d.truth).bind fun k e => if k = true then evSs W a e else evSs W b e
  | .forr t it b, e => (evIt W it e).bind fun p e => openO p.2 (loopF (tset t) (evSs W b) p.1 e)
  | .whil c b, e => loopW (fun e => (evE W c e).bind fun r e => Out.of e r.d.truth) (evSs W b) WF e
  | .pass, e => .ok .nx e
  | .brk, e => .ok .bk e
  | .cont, e => .ok .ct e
  | .never, _ => .stuck
  | .frz i, e => match e.at i with
    | .ok m true => .ok .nx (e.set i (.ok (.fz m.toD) true))
    | _ => .stuck
def evSs (W : Wd) : List S → Env → Out Fl
  | [], e => .ok .nx e
  | s :: ss, e => match evS W s e with
    | .ok .nx e => evSs W ss e
    | .ok f e => .ok f e
    | .exc c ds e => .exc c ds e
    | .stuck => .stuck
end
/-- a def: its slots, its parameters, which of them come back, its body -/
structure Fd where
  n : Nat
  np : Nat
  inout : List Bool
  body : List S
def outsOf : List Bool → Env → List (Option M)
  | b :: bs, s :: e => (if b then (match s with | .ok m true => some m | _ => none) else none) :: outsOf bs e
  | _, _ => []
def callN (T : List Fd) (cl : List ClsI) (cs : List D) : Nat → Calls
  | 0 => fun _ _ => .stuck
  | k + 1 => fun f ms => match T[f]? with
    | none => .stuck
    | some fd => if ms.length = fd.np then
        (match evSs ⟨callN T cl cs k, cl, cs⟩ fd.body (ms.map (Sl.ok · true) ++ List.replicate (fd.n - fd.np) .no) with
        | .ok (.rt m) e => .ok m (outsOf fd.inout e)
        | .ok .nx e => .ok (.fz .non) (outsOf fd.inout e)
        | .exc c ds e => .exc c ds (outsOf fd.inout e)
        | _ => .stuck) else .stuck
end Pv
/-! Pv: how data and trees lie in the abstract heap. -/
namespace Pv
open PySem L2

/-- where the classes and defs stand -/
structure Gm where
  cls : Nat → Addr
  fn : Nat → Addr
  xcls : Nat → Addr
  xfs : Nat → List Str
abbrev AP := Addr → Prop
section
variable (K : PySem.W.Frag) (Γ : Gm)
def tupAt (H : Hp) (F : AP) (a : Addr) (xs : List V) : Prop := (F a ∧ H a = some (.tup xs)) ∨ ((∀ H', SqT K H' a xs) ∧ ∀ x ∈ xs, ∃ s, x = V.str s)
def scrAt (H : Hp) (F : AP) (a : Addr) (xs : List V) : Prop := SqL K H a xs ∧ (F a ∨ ∀ H', SqL K H' a xs)
mutual
def RepD (H : Hp) (F : AP) : D → V → Prop
  | .non, v => v = .non
  | .bl b, v => v = .bl b
  | .int i, v => v = .int i
  | .str x, v => v = .str x
  | .lst ds, v => ∃ a xs, v = .ref a ∧ F a ∧ H a = some (.lst xs) ∧ RepDs H F ds xs
  | .tup ds, v => ∃ a xs, v = .ref a ∧ tupAt K H F a xs ∧ RepDs H F ds xs
  | .dct ks ds, v => ∃ a xs, v = .ref a ∧ F a ∧ Rd H a (.dK (ks.zip xs)) ∧ ks.length = xs.length ∧ RepDs H F ds xs
  | .set ns, v => ∃ a, v = .ref a ∧ F a ∧ H a = some (.set (fun i => decide (i ∈ ns)) ns.length)
  | .obj c fs ds, v => ∃ a dx xs, v = .ref a ∧ F a ∧ H a = some (.ins (Γ.cls c) dx (fs.zip xs)) ∧ fs.length = xs.length ∧ RepDs H F ds xs
  | .fn f, v => v = .ref (Γ.fn f)
  | .scr ns, v => ∃ a, v = .ref a ∧ scrAt K H F a (ns.map V.int)
def RepDs (H : Hp) (F : AP) : List D → List V → Prop
  | [], xs => xs = []
  | d :: ds, xs => ∃ x r, xs = x :: r ∧ RepD H F d x ∧ RepDs H F ds r
end
mutual
/-- x: it may be written -/
def RepM (x : Bool) (H : Hp) (F : AP) : M → V → List Addr → Prop
  | .fz d, v, fp => fp = [] ∧ RepD K Γ H F d v
  | .lst ms, v, fp => ∃ a xs fs, v = .ref a ∧ fp = a :: fs ∧ H a = some (.lst xs) ∧ RepMs x H F ms xs fs
  | .tup ms, v, fp => ∃ a xs fs, v = .ref a ∧ fp = a :: fs ∧ H a = some (.tup xs) ∧ RepMs x H F ms xs fs
  | .dct ks ms, v, fp => ∃ a xs fs, v = .ref a ∧ fp = a :: fs ∧ (if x then H a = some (.dK (ks.zip xs)) else Rd H a (.dK (ks.zip xs))) ∧ ks.length = xs.length ∧ RepMs x H F ms xs fs
  | .obj c ns ms, v, fp => ∃ a dx xs fs, v = .ref a ∧ fp = a :: fs ∧ H a = some (.ins (Γ.cls c) dx (ns.zip xs)) ∧ ns.length = xs.length ∧ RepMs x H F ms xs fs
def RepMs (x : Bool) (H : Hp) (F : AP) : List M → List V → List Addr → Prop
  | [], xs, fp => xs = [] ∧ fp = []
  | m :: ms, xs, fp => ∃ v r f1 f2, xs = v :: r ∧ fp = f1 ++ f2 ∧ RepM x H F m v f1 ∧ RepMs x H F ms r f2
end
end

section
variable {K : PySem.W.Frag} {Γ : Gm} {H H' : Hp} {F F' : AP}
/-- what is at F stays -/
structure Ext (H H' : Hp) (F F' : AP) : Prop where
  sub : ∀ a, F a → F' a
  at_ : ∀ a o, F a → H a = some o → H' a = some o ∨ ∃ ob, (H' a = some (.frz ob o) ∧ ∃ kvs, o = .dK kvs)
theorem Ext.refl : Ext H H F F := ⟨fun _ h => h, fun _ _ _ h => .inl h⟩
theorem Ext.of (s : ∀ a, F a → F' a) (e : ∀ a o, F a → H a = some o → H' a = some o) : Ext H H' F F' := ⟨s, fun a o f h => .inl (e a o f h)⟩
theorem Ext.lst (x : Ext H H' F F') {a : Addr} {o : HO} (f : F a) (h : H a = some o) (n : ∀ kvs, o ≠ .dK kvs) : H' a = some o := by
  rcases x.at_ a o f h with e | ⟨ob, _, kvs, e⟩
  · exact e
  · exact absurd e (n kvs)
theorem Ext.rd (x : Ext H H' F F') {a : Addr} {o : HO} (f : F a) (h : Rd H a o) : Rd H' a o := by
  rcases h with h | ⟨ob, h⟩
  · rcases x.at_ a o f h with e | ⟨ob, e, _⟩
    · exact .inl e
    · exact .inr ⟨ob, e⟩
  · exact .inr ⟨ob, x.lst f h fun _ z => nomatch z⟩
theorem SqT.ext {a : Addr} {xs : List V} (x : Ext H H' F F') (h : tupAt K H F a xs) : tupAt K H' F' a xs := by
  rcases h with ⟨f, h⟩ | h
  · exact .inl ⟨x.sub a f, x.lst f h fun _ z => nomatch z⟩
  · exact .inr h
theorem tupAt.sq {a : Addr} {xs : List V} (h : tupAt K H F a xs) : SqT K H a xs := by
  rcases h with ⟨f, h⟩ | h
  · exact .inl (.inl h)
  · exact h.1 H
theorem SqL.ext {a : Addr} {xs : List V} (x : Ext H H' F F') (h : scrAt K H F a xs) : scrAt K H' F' a xs := by
  obtain ⟨h, f | f⟩ := h
  · refine ⟨?_, .inl (x.sub a f)⟩
    rcases h with h | h
    · exact .inl (x.rd f h)
    · exact .inr h
  · exact ⟨f H', .inr f⟩
mutual
theorem RepD.ext (x : Ext H H' F F') : ∀ {d : D} {v : V}, RepD K Γ H F d v → RepD K Γ H' F' d v
  | .non, _, h => h
  | .bl _, _, h => h
  | .int _, _, h => h
  | .str _, _, h => h
  | .lst _, _, ⟨a, xs, e, f, h, r⟩ => ⟨a, xs, e, x.sub a f, x.lst f h (fun _ z => nomatch z), RepDs.ext x r⟩
  | .tup _, _, ⟨a, xs, e, h, r⟩ => ⟨a, xs, e, SqT.ext x h, RepDs.ext x r⟩
  | .dct _ _, _, ⟨a, xs, e, f, h, l, r⟩ => ⟨a, xs, e, x.sub a f, x.rd f h, l, RepDs.ext x r⟩
  | .set _, _, ⟨a, e, f, h⟩ => ⟨a, e, x.sub a f, x.lst f h (fun _ z => nomatch z)⟩
  | .obj _ _ _, _, ⟨a, dx, xs, e, f, h, l, r⟩ => ⟨a, dx, xs, e, x.sub a f, x.lst f h (fun _ z => nomatch z), l, RepDs.ext x r⟩
  | .fn _, _, h => h
  | .scr _, _, ⟨a, e, h⟩ => ⟨a, e, SqL.ext x h⟩
theorem RepDs.ext (x : Ext H H' F F') : ∀ {ds : List D} {vs : List V}, RepDs K Γ H F ds vs → RepDs K Γ H' F' ds vs
  | [], _, h => h
  | _ :: _, _, ⟨y, r, e, h, t⟩ => ⟨y, r, e, RepD.ext x h, RepDs.ext x t⟩
end
/-- what is owned stays, too (what is only read: a dict may be locked) -/
abbrev Own (b : Bool) (H H' : Hp) (fp : List Addr) : Prop := ∀ a o, a ∈ fp → H a = some o → H' a = some o ∨ (b = false ∧ ∃ ob kvs, o = .dK kvs ∧ H' a = some (.frz ob o))
theorem Own.of {b : Bool} {fp : List Addr} (h : ∀ a o, a ∈ fp → H a = some o → H' a = some o) : Own b H H' fp := fun a o f e => .inl (h a o f e)
theorem Own.lst {b : Bool} {fp : List Addr} (x : Own b H H' fp) {a : Addr} {o : HO} (f : a ∈ fp) (h : H a = some o) (n : ∀ kvs, o ≠ .dK kvs) : H' a = some o := by
  rcases x a o f h with e | ⟨_, ob, kvs, e, _⟩
  · exact e
  · exact absurd e (n kvs)
theorem Own.rd {fp : List Addr} (x : Own false H H' fp) {a : Addr} {o : HO} (f : a ∈ fp) (h : Rd H a o) : Rd H' a o := by
  rcases h with h | ⟨ob, h⟩
  · rcases x a o f h with e | ⟨_, ob, kvs, _, e⟩
    · exact .inl e
    · exact .inr ⟨ob, e⟩
  · exact .inr ⟨ob, x.lst f h fun _ z => nomatch z⟩
theorem Own.ex {fp : List Addr} (x : Own true H H' fp) {a : Addr} {o : HO} (f : a ∈ fp) (h : H a = some o) : H' a = some o := by
  rcases x a o f h with e | ⟨e, _⟩
  · exact e
  · cases e
mutual
theorem RepM.ext {b : Bool} (x : Ext H H' F F') : ∀ {m : M} {v : V} {fp : List Addr}, RepM K Γ b H F m v fp → Own b H H' fp → RepM K Γ b H' F' m v fp
  | .fz _, _, _, ⟨e, h⟩, _ => ⟨e, h.ext x⟩
  | .lst _, _, _, ⟨a, xs, fs, e, ef, h, r⟩, o => ⟨a, xs, fs, e, ef, o.lst (by rw [ef]; exact List.mem_cons_self) h (fun _ z => nomatch z), RepMs.ext x r fun c u hc => o c u (by rw [ef]; exact List.mem_cons_of_mem _ hc)⟩
  | .tup _, _, _, ⟨a, xs, fs, e, ef, h, r⟩, o => ⟨a, xs, fs, e, ef, o.lst (by rw [ef]; exact List.mem_cons_self) h (fun _ z => nomatch z), RepMs.ext x r fun c u hc => o c u (by rw [ef]; exact List.mem_cons_of_mem _ hc)⟩
  | .dct _ _, _, _, ⟨a, xs, fs, e, ef, h, l, r⟩, o => ⟨a, xs, fs, e, ef, by
      have ha : a ∈ _ := (show a ∈ a :: fs from List.mem_cons_self)
      rw [← ef] at ha
      cases b with
      | true => exact Own.ex o ha h
      | false => exact Own.rd o ha h, l, RepMs.ext x r fun c u hc => o c u (by rw [ef]; exact List.mem_cons_of_mem _ hc)⟩
  | .obj _ _ _, _, _, ⟨a, dx, xs, fs, e, ef, h, l, r⟩, o => ⟨a, dx, xs, fs, e, ef, o.lst (by rw [ef]; exact List.mem_cons_self) h (fun _ z => nomatch z), l, RepMs.ext x r fun c u hc => o c u (by rw [ef]; exact List.mem_cons_of_mem _ hc)⟩
theorem RepMs.ext {b : Bool} (x : Ext H H' F F') : ∀ {ms : List M} {vs : List V} {fp : List Addr}, RepMs K Γ b H F ms vs fp → Own b H H' fp → RepMs K Γ b H' F' ms vs fp
  | [], _, _, h, _ => h
  | _ :: _, _, _, ⟨v, r, f1, f2, e, ef, h, t⟩, o => ⟨v, r, f1, f2, e, ef, h.ext x fun a u ha => o a u (by rw [ef]; exact List.mem_append_left _ ha), RepMs.ext x t fun a u ha => o a u (by rw [ef]; exact List.mem_append_right _ ha)⟩
end
-- what is owned is there
mutual
theorem RepM.has {b : Bool} : ∀ {m : M} {v : V} {fp : List Addr}, RepM K Γ b H F m v fp → ∀ a ∈ fp, ∃ o, H a = some o
  | .fz _, _, _, ⟨e, _⟩, a, h => by rw [e] at h; cases h
  | .lst _, _, _, ⟨c, xs, fs, e, ef, h, r⟩, a, ha => by
    rw [ef] at ha
    rcases List.mem_cons.mp ha with rfl | ha
    · exact ⟨_, h⟩
    · exact RepMs.has r a ha
  | .tup _, _, _, ⟨c, xs, fs, e, ef, h, r⟩, a, ha => by
    rw [ef] at ha
    rcases List.mem_cons.mp ha with rfl | ha
    · exact ⟨_, h⟩
    · exact RepMs.has r a ha
  | .dct _ _, _, _, ⟨c, xs, fs, e, ef, h, l, r⟩, a, ha => by
    rw [ef] at ha
    rcases List.mem_cons.mp ha with rfl | ha
    · cases b with
      | true => exact ⟨_, h⟩
      | false => exact h.elim (fun q => ⟨_, q⟩) fun ⟨_, q⟩ => ⟨_, q⟩
    · exact RepMs.has r a ha
  | .obj _ _ _, _, _, ⟨c, dx, xs, fs, e, ef, h, l, r⟩, a, ha => by
    rw [ef] at ha
    rcases List.mem_cons.mp ha with rfl | ha
    · exact ⟨_, h⟩
    · exact RepMs.has r a ha
theorem RepMs.has {b : Bool} : ∀ {ms : List M} {vs : List V} {fp : List Addr}, RepMs K Γ b H F ms vs fp → ∀ a ∈ fp, ∃ o, H a = some o
  | [], _, _, ⟨_, e⟩, a, h => by rw [e] at h; cases h
  | _ :: _, _, _, ⟨v, r, f1, f2, e, ef, h, t⟩, a, ha => by
    rw [ef] at ha
    rcases List.mem_append.mp ha with ha | ha
    · exact h.has a ha
    · exact RepMs.has t a ha
end
-- a tree that may be written may be read
mutual
theorem RepM.weak : ∀ {m : M} {v : V} {fp : List Addr}, RepM K Γ true H F m v fp → RepM K Γ false H F m v fp
  | .fz _, _, _, h => h
  | .lst _, _, _, ⟨a, xs, fs, e, ef, h, r⟩ => ⟨a, xs, fs, e, ef, h, RepMs.weak r⟩
  | .tup _, _, _, ⟨a, xs, fs, e, ef, h, r⟩ => ⟨a, xs, fs, e, ef, h, RepMs.weak r⟩
  | .dct _ _, _, _, ⟨a, xs, fs, e, ef, h, l, r⟩ => ⟨a, xs, fs, e, ef, .inl h, l, RepMs.weak r⟩
  | .obj _ _ _, _, _, ⟨a, dx, xs, fs, e, ef, h, l, r⟩ => ⟨a, dx, xs, fs, e, ef, h, l, RepMs.weak r⟩
theorem RepMs.weak : ∀ {ms : List M} {vs : List V} {fp : List Addr}, RepMs K Γ true H F ms vs fp → RepMs K Γ false H F ms vs fp
  | [], _, _, h => h
  | _ :: _, _, _, ⟨v, r, f1, f2, e, ef, h, t⟩ => ⟨v, r, f1, f2, e, ef, h.weak, RepMs.weak t⟩
end
-- a tree as data, its footprint within F'
mutual
theorem RepM.freeze {b : Bool} : ∀ {m : M} {v : V} {fp : List Addr}, RepM K Γ b H F m v fp → (∀ a, F a → F' a) → (∀ a ∈ fp, F' a) → RepD K Γ H F' m.toD v
  | .fz _, _, _, ⟨_, h⟩, s, _ => h.ext (.of s fun _ _ _ q => q)
  | .lst _, _, _, ⟨a, xs, fs, e, ef, h, r⟩, s, f => ⟨a, xs, e, f a (by rw [ef]; exact List.mem_cons_self), h, RepMs.freeze r s fun c hc => f c (by rw [ef]; exact List.mem_cons_of_mem _ hc)⟩
  | .tup _, _, _, ⟨a, xs, fs, e, ef, h, r⟩, s, f => ⟨a, xs, e, .inl ⟨f a (by rw [ef]; exact List.mem_cons_self), h⟩, RepMs.freeze r s fun c hc => f c (by rw [ef]; exact List.mem_cons_of_mem _ hc)⟩
  | .dct _ _, _, _, ⟨a, xs, fs, e, ef, h, l, r⟩, s, f => ⟨a, xs, e, f a (by rw [ef]; exact List.mem_cons_self), by
      cases b with
      | true => exact .inl h
      | false => exact h, l, RepMs.freeze r s fun c hc => f c (by rw [ef]; exact List.mem_cons_of_mem _ hc)⟩
  | .obj _ _ _, _, _, ⟨a, dx, xs, fs, e, ef, h, l, r⟩, s, f => ⟨a, dx, xs, e, f a (by rw [ef]; exact List.mem_cons_self), h, l, RepMs.freeze r s fun c hc => f c (by rw [ef]; exact List.mem_cons_of_mem _ hc)⟩
theorem RepMs.freeze {b : Bool} : ∀ {ms : List M} {vs : List V} {fp : List Addr}, RepMs K Γ b H F ms vs fp → (∀ a, F a → F' a) → (∀ a ∈ fp, F' a) → RepDs K Γ H F' (M.toDs ms) vs
  | [], _, _, ⟨h, _⟩, _, _ => h
  | _ :: _, _, _, ⟨v, r, f1, f2, e, ef, h, t⟩, s, f => ⟨v, r, e, h.freeze s fun a ha => f a (by rw [ef]; exact List.mem_append_left _ ha), RepMs.freeze t s fun a ha => f a (by rw [ef]; exact List.mem_append_right _ ha)⟩
end
def Any : AP := fun _ => True
theorem RepM.any {b : Bool} {m : M} {v : V} {fp : List Addr} (h : RepM K Γ b H F m v fp) : RepD K Γ H Any m.toD v := h.freeze (fun _ _ => trivial) fun _ _ => trivial
theorem RepDs.len : ∀ {ds : List D} {vs : List V}, RepDs K Γ H F ds vs → ds.length = vs.length
  | [], _, h => by rw [show _ = [] from h]; rfl
  | _ :: _, _, ⟨_, _, e, _, t⟩ => by rw [e, List.length_cons, List.length_cons, RepDs.len t]
theorem RepMs.len {b : Bool} : ∀ {ms : List M} {vs : List V} {fp : List Addr}, RepMs K Γ b H F ms vs fp → ms.length = vs.length
  | [], _, _, ⟨h, _⟩ => by rw [h]; rfl
  | _ :: _, _, _, ⟨_, _, _, _, e, _, _, t⟩ => by rw [e, List.length_cons, List.length_cons, RepMs.len t]
theorem RepDs.get : ∀ {ds : List D} {vs : List V} {i : Nat} {d : D}, RepDs K Γ H F ds vs → ds[i]? = some d → ∃ v, vs[i]? = some v ∧ RepD K Γ H F d v
  | [], _, _, _, _, e => by simp at e
  | _ :: _, _, 0, _, ⟨x, r, e, h, _⟩, e2 => by simp at e2; subst e2; exact ⟨x, by rw [e]; rfl, h⟩
  | _ :: _, _, i + 1, _, ⟨x, r, e, _, t⟩, e2 => by
    obtain ⟨v, h1, h2⟩ := RepDs.get (i := i) t (by simpa using e2)
    exact ⟨v, by rw [e]; simpa using h1, h2⟩
theorem RepDs.app : ∀ {ds es : List D} {vs ws : List V}, RepDs K Γ H F ds vs → RepDs K Γ H F es ws → RepDs K Γ H F (ds ++ es) (vs ++ ws)
  | [], _, _, _, h, t => by rw [show _ = [] from h]; exact t
  | _ :: _, _, _, _, ⟨x, r, e, h, t⟩, u => ⟨x, r ++ _, by rw [e]; rfl, h, RepDs.app t u⟩
theorem RepDs.drop : ∀ {ds : List D} {vs : List V} (n : Nat), RepDs K Γ H F ds vs → RepDs K Γ H F (ds.drop n) (vs.drop n)
  | _, _, 0, h => h
  | [], _, n + 1, h => by rw [show _ = [] from h]; rfl
  | _ :: _, _, n + 1, ⟨x, r, e, _, t⟩ => by rw [e]; exact RepDs.drop n t
theorem RepDs.take : ∀ {ds : List D} {vs : List V} (n : Nat), RepDs K Γ H F ds vs → RepDs K Γ H F (ds.take n) (vs.take n)
  | _, _, 0, _ => rfl
  | [], _, n + 1, h => by rw [show _ = [] from h]; rfl
  | _ :: _, _, n + 1, ⟨x, r, e, h, t⟩ => by rw [e]; exact ⟨x, r.take n, rfl, h, RepDs.take n t⟩
theorem RepDs.rep {ds : List D} {vs : List V} (h : RepDs K Γ H F ds vs) : ∀ n : Nat, RepDs K Γ H F (List.replicate n ds).flatten (List.replicate n vs).flatten
  | 0 => rfl
  | n + 1 => by rw [List.replicate_succ, List.replicate_succ, List.flatten_cons, List.flatten_cons]; exact h.app (RepDs.rep h n)
theorem RepDs.rev : ∀ {ds : List D} {vs : List V}, RepDs K Γ H F ds vs → RepDs K Γ H F ds.reverse vs.reverse
  | [], _, h => by rw [show _ = [] from h]; rfl
  | _ :: _, _, ⟨x, r, e, h, t⟩ => by rw [e, List.reverse_cons, List.reverse_cons]; exact (RepDs.rev t).app ⟨x, [], rfl, h, rfl⟩
/-- the ints of data -/
theorem RepDs.ints : ∀ {ds : List D} {vs : List V} {ns : List Int}, RepDs K Γ H F ds vs → ints? ds = some ns → vs = ns.map V.int
  | [], _, _, h, e => by cases e; exact h
  | .int i :: ds, _, ns, ⟨x, r, e, h, t⟩, q => by
    unfold ints? at q
    cases z : ints? ds with
    | none => rw [z] at q; cases q
    | some ms => rw [z] at q; cases q; rw [e, RepDs.ints t z, show x = _ from h]; rfl
  | .non :: _, _, _, _, q => nomatch q
  | .bl _ :: _, _, _, _, q => nomatch q
  | .str _ :: _, _, _, _, q => nomatch q
  | .lst _ :: _, _, _, _, q => nomatch q
  | .tup _ :: _, _, _, _, q => nomatch q
  | .dct _ _ :: _, _, _, _, q => nomatch q
  | .set _ :: _, _, _, _, q => nomatch q
  | .obj _ _ _ :: _, _, _, _, q => nomatch q
  | .fn _ :: _, _, _, _, q => nomatch q
  | .scr _ :: _, _, _, _, q => nomatch q
theorem RepDs.bls : ∀ {ds : List D} {vs : List V} {ns : List Bool}, RepDs K Γ H F ds vs → bls? ds = some ns → vs = ns.map V.bl
  | [], _, _, h, e => by cases e; exact h
  | .bl i :: ds, _, ns, ⟨x, r, e, h, t⟩, q => by
    unfold bls? at q
    cases z : bls? ds with
    | none => rw [z] at q; cases q
    | some ms => rw [z] at q; cases q; rw [e, RepDs.bls t z, show x = _ from h]; rfl
  | .non :: _, _, _, _, q => nomatch q
  | .int _ :: _, _, _, _, q => nomatch q
  | .str _ :: _, _, _, _, q => nomatch q
  | .lst _ :: _, _, _, _, q => nomatch q
  | .tup _ :: _, _, _, _, q => nomatch q
  | .dct _ _ :: _, _, _, _, q => nomatch q
  | .set _ :: _, _, _, _, q => nomatch q
  | .obj _ _ _ :: _, _, _, _, q => nomatch q
  | .fn _ :: _, _, _, _, q => nomatch q
  | .scr _ :: _, _, _, _, q => nomatch q
theorem RepDs.of_ints : ∀ ns : List Int, RepDs K Γ H F (ns.map .int) (ns.map V.int)
  | [] => rfl
  | n :: ns => ⟨.int n, ns.map V.int, rfl, rfl, RepDs.of_ints ns⟩
/-- the data among trees -/
theorem RepMs.fzs {b : Bool} : ∀ {ms : List M} {vs : List V} {fp : List Addr} {ds : List D}, RepMs K Γ b H F ms vs fp → fzs? ms = some ds → RepDs K Γ H F ds vs ∧ fp = []
  | [], _, _, _, ⟨h, f⟩, e => by cases e; exact ⟨h, f⟩
  | .fz d :: ms, _, _, ds, ⟨v, r, f1, f2, e, ef, ⟨e1, h⟩, t⟩, q => by
    unfold fzs? at q
    cases z : fzs? ms with
    | none => rw [z] at q; cases q
    | some es =>
      rw [z] at q; cases q
      obtain ⟨h1, h2⟩ := RepMs.fzs t z
      exact ⟨⟨v, r, e, h, h1⟩, by rw [ef, e1, h2]; rfl⟩
  | .lst _ :: _, _, _, _, _, q => nomatch q
  | .tup _ :: _, _, _, _, _, q => nomatch q
  | .dct _ _ :: _, _, _, _, _, q => nomatch q
  | .obj _ _ _ :: _, _, _, _, _, q => nomatch q
theorem RepMs.of_fz {b : Bool} : ∀ {ds : List D} {vs : List V}, RepDs K Γ H F ds vs → RepMs K Γ b H F (ds.map M.fz) vs []
  | [], _, h => ⟨h, rfl⟩
  | _ :: _, _, ⟨x, r, e, h, t⟩ => ⟨x, r, [], [], e, rfl, ⟨rfl, h⟩, RepMs.of_fz t⟩
theorem fzs_map : ∀ ds : List D, fzs? (ds.map M.fz) = some ds
  | [] => rfl
  | d :: ds => by show (fzs? (ds.map M.fz)).map _ = _; rw [fzs_map ds]; rfl
theorem toDs_fz : ∀ ds : List D, M.toDs (ds.map M.fz) = ds
  | [] => rfl
  | d :: ds => by show d :: M.toDs (ds.map M.fz) = _; rw [toDs_fz ds]
theorem toDs_len : ∀ ms : List M, (M.toDs ms).length = ms.length
  | [] => rfl
  | m :: ms => by show (M.toDs ms).length + 1 = _; rw [toDs_len ms]; rfl
end
end Pv
/-! Pv: the state of a frame, what a step may do, what an operation leaves. -/
namespace Pv
open PySem L2
section
variable (K : PySem.W.Frag) (Γ : Gm)
def RepSl (H : Hp) (F G : AP) : Sl → Option V → List Addr → Prop
  | .no, _, fp => fp = []
  | .ok m true, v, fp => ∃ u, v = some u ∧ RepM K Γ true H F m u fp
  | .ok m false, v, fp => fp = [] ∧ ∃ u fq, v = some u ∧ RepM K Γ false H F m u fq ∧ ∀ a ∈ fq, G a
def RepEnv (H : Hp) (F G : AP) : Env → St → List Addr → Prop
  | [], σ, ow => σ = [] ∧ ow = []
  | s :: e, σ, ow => ∃ v r f1 f2, σ = v :: r ∧ ow = f1 ++ f2 ∧ RepSl K Γ H F G s v f1 ∧ RepEnv H F G e r f2
/-- the state: F what is data, G what is shut, P what else must stand, ow what the slots own -/
structure Rst (H : Hp) (F G P : AP) (e : Env) (σ : St) (ow : List Addr) : Prop where
  rep : RepEnv K Γ H F G e σ ow
  nd : ow.Nodup
  dF : ∀ a ∈ ow, ¬ F a
  dG : ∀ a ∈ ow, ¬ G a
  dP : ∀ a ∈ ow, ¬ P a
  iF : ∀ a, F a → ∃ o, H a = some o
  iG : ∀ a, G a → ∃ o, H a = some o
  iP : ∀ a, P a → ∃ o, H a = some o
/-- what a step may do -/
structure Stp (H : Hp) (F : AP) (ow : List Addr) (H' : Hp) (F' : AP) (ow' : List Addr) : Prop where
  frame : ∀ a o, H a = some o → a ∉ ow → H' a = some o
  sub : ∀ a, F a → F' a
  new : ∀ a, F' a → F a ∨ a ∈ ow ∨ H a = none
  own : ∀ a ∈ ow', a ∈ ow ∨ H a = none
/-- temporaries -/
structure Sep (H : Hp) (F G P : AP) (ow fp : List Addr) : Prop where
  nd : fp.Nodup
  has : ∀ a ∈ fp, ∃ o, H a = some o
  dF : ∀ a ∈ fp, ¬ F a
  dG : ∀ a ∈ fp, ¬ G a
  dP : ∀ a ∈ fp, ¬ P a
  dO : ∀ a ∈ fp, a ∉ ow
def RepR (H : Hp) (F : AP) (r : RV) (v : V) (fp : List Addr) : Prop := if r.al = true then fp = [] ∧ ∃ fq, RepM K Γ false H F r.m v fq else RepM K Γ true H F r.m v fp
def RepRs (H : Hp) (F : AP) : List RV → List V → List Addr → Prop
  | [], vs, fp => vs = [] ∧ fp = []
  | r :: rs, vs, fp => ∃ v t f1 f2, vs = v :: t ∧ fp = f1 ++ f2 ∧ RepR K Γ H F r v f1 ∧ RepRs H F rs t f2
/-- what is shut stays so -/
def LK (e e' : Env) : Prop := ∀ i m, e.at i = .ok m false → e'.at i = .ok m false
def LR (σ σ' : St) (e e' : Env) : Prop := ∀ i m, e'.at i = .ok m false → e.at i = .ok m false ∧ σ'[i]? = σ[i]?
def Res (H : Hp) (F G P : AP) (e : Env) (σ : St) (ow : List Addr) (r : RV) (e' : Env) (v : V) (H' : Hp) : Prop :=
  ∃ F' ow' fp, Rst K Γ H' F' G P e' σ ow' ∧ Sep H' F' G P ow' fp ∧ Stp H F ow H' F' (ow' ++ fp) ∧ RepR K Γ H' F' r v fp ∧ LK e e' ∧ LR σ σ e e'
def ResL (H : Hp) (F G P : AP) (e : Env) (σ : St) (ow : List Addr) (rs : List RV) (e' : Env) (vs : List V) (H' : Hp) : Prop :=
  ∃ F' ow' fp, Rst K Γ H' F' G P e' σ ow' ∧ Sep H' F' G P ow' fp ∧ Stp H F ow H' F' (ow' ++ fp) ∧ RepRs K Γ H' F' rs vs fp ∧ LK e e' ∧ LR σ σ e e'
/-- what an operation on values leaves; fr: the temporaries that it was given -/
def OpRes (H : Hp) (F : AP) (fr : List Addr) (r : RV) (z : V) (H' : Hp) : Prop :=
  ∃ (F' : AP) (fp : List Addr), (∀ a, F a → F' a) ∧ (∀ a, F' a → F a ∨ a ∈ fr ∨ H a = none) ∧ (∀ a o, H a = some o → H' a = some o) ∧ RepR K Γ H' F' r z fp ∧ fp.Nodup ∧ (∀ a ∈ fp, ¬ F' a ∧ (H a = none ∨ a ∈ fr)) ∧ (∀ a, F' a → ∃ o, H' a = some o)
/-- an exception with its fields -/
def XRep (H : Hp) (F : AP) (c : Nat) (ds : List D) (cls : Value) (d : Option Addr) : Prop :=
  cls = .ref (Γ.xcls c) ∧ ∃ dd xs, d = some dd ∧ H dd = some (.xd ((Γ.xfs c).zip xs)) ∧ (Γ.xfs c).length = xs.length ∧ RepDs K Γ H F ds xs
def ResX (H : Hp) (F G P : AP) (e : Env) (σ : St) (ow : List Addr) (c : Nat) (ds : List D) (e' : Env) (cls : Value) (d : Option Addr) (H' : Hp) : Prop :=
  ∃ F' ow', Rst K Γ H' F' G P e' σ ow' ∧ Stp H F ow H' F' ow' ∧ XRep K Γ H' F' c ds cls d ∧ LK e e' ∧ LR σ σ e e'
end

section
variable {K : PySem.W.Frag} {Γ : Gm} {H H' H1 H2 : Hp} {F F' F1 F2 G G' P P' : AP} {e e' e1 e2 : Env} {σ : St} {ow ow' ow1 ow2 fp fr : List Addr} {r s : RV} {v x y z : V}
theorem LK.refl : LK e e := fun _ _ h => h
theorem LK.trans (a : LK e e1) (b : LK e1 e2) : LK e e2 := fun i m h => b i m (a i m h)
theorem LR.refl : LR σ σ e e := fun _ _ h => ⟨h, rfl⟩
theorem LR.trans {σ1 σ2 : St} (a : LR σ σ1 e e1) (b : LR σ1 σ2 e1 e2) : LR σ σ2 e e2 := fun i m h =>
  let ⟨h1, q1⟩ := b i m h
  let ⟨h2, q2⟩ := a i m h1
  ⟨h2, q1.trans q2⟩
theorem Stp.refl : Stp H F ow H F ow := ⟨fun _ _ h _ => h, fun _ h => h, fun _ h => .inl h, fun _ h => .inl h⟩
theorem Stp.trans {ow1' : List Addr} (a : Stp H F ow H1 F1 ow1) (b : Stp H1 F1 ow1' H2 F2 ow2) (h : ∀ x ∈ ow1', x ∈ ow1) : Stp H F ow H2 F2 ow2 := by
  have nn : ∀ c, H1 c = none → c ∈ ow ∨ H c = none := fun c q => by
    cases z : H c with
    | none => exact .inr rfl
    | some o =>
      by_cases hc : c ∈ ow
      · exact .inl hc
      · rw [a.frame c o z hc] at q; cases q
  have oo : ∀ c, c ∈ ow1' → c ∈ ow ∨ H c = none := fun c q => a.own c (h c q)
  refine ⟨fun c o q n => b.frame c o (a.frame c o q n) fun z => ?_, fun c q => b.sub c (a.sub c q), fun c q => ?_, fun c q => ?_⟩
  · rcases oo c z with w | w
    · exact n w
    · rw [q] at w; cases w
  · rcases b.new c q with w | w | w
    · exact a.new c w
    · exact .inr (oo c w)
    · exact .inr (nn c w)
  · rcases b.own c q with w | w
    · exact oo c w
    · exact nn c w
theorem Stp.less {ow1' : List Addr} (a : Stp H F ow H1 F1 ow1) (h : ∀ x ∈ ow1', x ∈ ow1) : Stp H F ow H1 F1 ow1' := ⟨a.frame, a.sub, a.new, fun c q => a.own c (h c q)⟩
theorem Rst.keepF (R : Rst K Γ H F G P e σ ow) (S : Stp H F ow H' F' ow') : ∀ a o, F a → H a = some o → H' a = some o := fun a o f q => S.frame a o q fun z => R.dF a z f
theorem Rst.keepG (R : Rst K Γ H F G P e σ ow) (S : Stp H F ow H' F' ow') : ∀ a o, G a → H a = some o → H' a = some o := fun a o f q => S.frame a o q fun z => R.dG a z f
theorem Rst.keepP (R : Rst K Γ H F G P e σ ow) (S : Stp H F ow H' F' ow') : ∀ a o, P a → H a = some o → H' a = some o := fun a o f q => S.frame a o q fun z => R.dP a z f
theorem Rst.ext (R : Rst K Γ H F G P e σ ow) (S : Stp H F ow H' F' ow') : Ext H H' F F' := .of S.sub (R.keepF S)
theorem Sep.nil : Sep H F G P ow [] := ⟨List.nodup_nil, fun _ h => (nomatch h), fun _ h => (nomatch h), fun _ h => (nomatch h), fun _ h => (nomatch h), fun _ h => (nomatch h)⟩
/-- a temporary put under what stands -/
theorem Rst.push (R : Rst K Γ H F G P e σ ow) (S : Sep H F G P ow fp) : Rst K Γ H F G (fun a => P a ∨ a ∈ fp) e σ ow :=
  ⟨R.rep, R.nd, R.dF, R.dG, fun a h z => z.elim (R.dP a h) fun z => S.dO a z h, R.iF, R.iG, fun a h => h.elim (R.iP a) (S.has a)⟩
theorem Rst.pop (R : Rst K Γ H F G P e σ ow) (h : ∀ a, P' a → P a) : Rst K Γ H F G P' e σ ow := ⟨R.rep, R.nd, R.dF, R.dG, fun a q z => R.dP a q (h a z), R.iF, R.iG, fun a q => R.iP a (h a q)⟩
/-- the state of the slots behind a change of the heap that they do not see -/
theorem RepEnv.ext (x : Ext H H' F F') : ∀ {e : Env} {σ : St} {ow : List Addr}, RepEnv K Γ H F G e σ ow → (∀ a o, a ∈ ow → H a = some o → H' a = some o) →
    (∀ a o, G a → H a = some o → H' a = some o ∨ ∃ ob kvs, o = .dK kvs ∧ H' a = some (.frz ob o)) → RepEnv K Γ H' F' G e σ ow
  | [], _, _, h, _, _ => h
  | s :: e, _, _, ⟨v, r, f1, f2, e1, e2, h, t⟩, o, g => ⟨v, r, f1, f2, e1, e2, by
      cases s with
      | no => exact h
      | ok m w => cases w with
        | true =>
          obtain ⟨u, eu, hm⟩ := h
          exact ⟨u, eu, hm.ext x (.of fun a ob ha => o a ob (by rw [e2]; exact List.mem_append_left _ ha))⟩
        | false =>
          obtain ⟨z, u, fq, eu, hm, hg⟩ := h
          exact ⟨z, u, fq, eu, hm.ext x (fun a ob ha q => (g a ob (hg a ha) q).elim .inl fun z => .inr ⟨rfl, z⟩), hg⟩, RepEnv.ext x t (fun a ob ha => o a ob (by rw [e2]; exact List.mem_append_right _ ha)) g⟩
/-- everything stands, more is data -/
theorem Rst.grow (R : Rst K Γ H F G P e σ ow) (s : ∀ a, F a → F' a) (k : ∀ a o, H a = some o → H' a = some o) (d : ∀ a ∈ ow, ¬ F' a) (i : ∀ a, F' a → ∃ o, H' a = some o) : Rst K Γ H' F' G P e σ ow :=
  ⟨R.rep.ext (.of s fun a o _ => k a o) (fun a o _ => k a o) fun a o _ q => .inl (k a o q), R.nd, d, R.dG, R.dP, i, fun a h => let ⟨o, q⟩ := R.iG a h; ⟨o, k a o q⟩, fun a h => let ⟨o, q⟩ := R.iP a h; ⟨o, k a o q⟩⟩
theorem RepR.ext (h : RepR K Γ H F r v fp) (s : ∀ a, F a → F' a) (k : ∀ a o, (F a ∨ a ∈ fp ∨ r.loose = true) → H a = some o → H' a = some o) : RepR K Γ H' F' r v fp := by
  obtain ⟨m, al⟩ := r
  unfold RepR at h ⊢
  cases al with
  | false =>
    rw [if_neg (by simp)] at h ⊢
    exact h.ext (.of s fun a o f => k a o (.inl f)) (.of fun a o f => k a o (.inr (.inl f)))
  | true =>
    rw [if_pos rfl] at h ⊢
    obtain ⟨ef, fq, hm⟩ := h
    cases m with
    | fz d =>
      obtain ⟨ef2, hd⟩ := hm
      exact ⟨ef, fq, ef2, hd.ext (.of s fun a o f => k a o (.inl f))⟩
    | lst ms => exact ⟨ef, fq, hm.ext (.of s fun a o f => k a o (.inl f)) (.of fun a o f => k a o (.inr (.inr rfl)))⟩
    | tup ms => exact ⟨ef, fq, hm.ext (.of s fun a o f => k a o (.inl f)) (.of fun a o f => k a o (.inr (.inr rfl)))⟩
    | dct ks ms => exact ⟨ef, fq, hm.ext (.of s fun a o f => k a o (.inl f)) (.of fun a o f => k a o (.inr (.inr rfl)))⟩
    | obj c fs ms => exact ⟨ef, fq, hm.ext (.of s fun a o f => k a o (.inl f)) (.of fun a o f => k a o (.inr (.inr rfl)))⟩
theorem RepR.any (h : RepR K Γ H F r v fp) : RepD K Γ H Any r.d v := by
  unfold RepR at h
  split at h
  · obtain ⟨_, fq, hm⟩ := h; exact hm.any
  · exact h.any
theorem RepRs.ext : ∀ {rs : List RV} {vs : List V} {fp : List Addr}, RepRs K Γ H F rs vs fp → (∀ a, F a → F' a) → (∀ a o, H a = some o → H' a = some o) → RepRs K Γ H' F' rs vs fp
  | [], _, _, h, _, _ => h
  | _ :: _, _, _, ⟨v, t, f1, f2, e1, e2, h, q⟩, s, k => ⟨v, t, f1, f2, e1, e2, h.ext s fun a o _ => k a o, RepRs.ext q s k⟩
theorem Res.refl (R : Rst K Γ H F G P e σ ow) {d : D} (h : RepD K Γ H F d v) : Res K Γ H F G P e σ ow (.of d) e v H :=
  ⟨F, ow, [], R, .nil, by rw [List.append_nil]; exact .refl, by show RepM K Γ true H F (.fz d) v []; exact ⟨rfl, h⟩, .refl, .refl⟩
theorem ResL.nil (R : Rst K Γ H F G P e σ ow) : ResL K Γ H F G P e σ ow [] e [] H := ⟨F, ow, [], R, .nil, by rw [List.append_nil]; exact .refl, ⟨rfl, rfl⟩, .refl, .refl⟩
theorem Res.one (h : Res K Γ H F G P e σ ow r e' v H') : ResL K Γ H F G P e σ ow [r] e' [v] H' := by
  obtain ⟨F', ow', fp, R, S, T, q, l⟩ := h
  exact ⟨F', ow', fp, R, S, T, ⟨v, [], fp, [], rfl, by simp, q, rfl, rfl⟩, l⟩
/-- an operand and those behind it: the first is under what stands -/
theorem Res.cons {rs : List RV} {vs : List V} {F1 : AP} {ow1 fp1 : List Addr} (R1 : Rst K Γ H1 F1 G P e1 σ ow1) (S1 : Sep H1 F1 G P ow1 fp1) (T1 : Stp H F ow H1 F1 (ow1 ++ fp1)) (q1 : RepR K Γ H1 F1 r v fp1) (l1 : LK e e1) (lr1 : LR σ σ e e1)
    (h2 : ResL K Γ H1 F1 G (fun a => P a ∨ a ∈ fp1) e1 σ ow1 rs e2 vs H2) (hl : r.loose = true → ∀ a o, H1 a = some o → H2 a = some o) : ResL K Γ H F G P e σ ow (r :: rs) e2 (v :: vs) H2 := by
  obtain ⟨F2, ow2, fp2, R2, S2, T2, q2, l2, lr2⟩ := h2
  have k1 : ∀ a o, a ∈ fp1 → H1 a = some o → H2 a = some o := fun a o f q => T2.frame a o q (S1.dO a f)
  have n1 : ∀ a ∈ fp1, ¬ F2 a := fun a f z => by
    rcases T2.new a z with w | w | w
    · exact S1.dF a f w
    · exact S1.dO a f w
    · obtain ⟨o, q⟩ := S1.has a f
      rw [q] at w; cases w
  have o1 : ∀ a ∈ fp1, a ∉ ow2 ++ fp2 := fun a f z => by
    rcases T2.own a z with w | w
    · exact S1.dO a f w
    · obtain ⟨o, q⟩ := S1.has a f
      rw [q] at w; cases w
  refine ⟨F2, ow2, fp1 ++ fp2, R2.pop fun a h => .inl h, ⟨?_, fun a h => ?_, fun a h => ?_, fun a h => ?_, fun a h => ?_, fun a h => ?_⟩, ?_, ⟨v, vs, fp1, fp2, rfl, rfl, ?_, q2⟩, l1.trans l2, lr1.trans lr2⟩
  · exact List.nodup_append.mpr ⟨S1.nd, S2.nd, fun a ha b hb z => by subst z; exact o1 a ha (List.mem_append_right _ hb)⟩
  · rcases List.mem_append.mp h with h | h
    · obtain ⟨o, q⟩ := S1.has a h; exact ⟨o, k1 a o h q⟩
    · exact S2.has a h
  · rcases List.mem_append.mp h with h | h
    · exact n1 a h
    · exact S2.dF a h
  · rcases List.mem_append.mp h with h | h
    · exact S1.dG a h
    · exact S2.dG a h
  · rcases List.mem_append.mp h with h | h
    · exact S1.dP a h
    · exact fun z => S2.dP a h (.inl z)
  · rcases List.mem_append.mp h with h | h
    · exact fun z => o1 a h (List.mem_append_left _ z)
    · exact S2.dO a h
  · have T := T1.trans T2 fun x hx => List.mem_append_left _ hx
    refine ⟨T.frame, T.sub, T.new, fun a h => ?_⟩
    rcases List.mem_append.mp h with h | h
    · exact T.own a (List.mem_append_left _ h)
    · rcases List.mem_append.mp h with h | h
      · exact T1.own a (List.mem_append_right _ h)
      · exact T.own a (List.mem_append_right _ h)
  · refine q1.ext T2.sub fun a o c q => ?_
    rcases c with c | c | c
    · exact R1.keepF (T2.less fun x hx => hx) a o c q
    · exact k1 a o c q
    · exact hl c a o q
theorem RepEnv.has : ∀ {e : Env} {σ : St} {ow : List Addr}, RepEnv K Γ H F G e σ ow → ∀ a ∈ ow, ∃ o, H a = some o
  | [], _, _, ⟨_, e⟩, a, h => by rw [e] at h; cases h
  | s :: e, _, _, ⟨v, r, f1, f2, e1, e2, h, t⟩, a, ha => by
    rw [e2] at ha
    rcases List.mem_append.mp ha with ha | ha
    · cases s with
      | no => rw [show f1 = [] from h] at ha; cases ha
      | ok m w => cases w with
        | true => obtain ⟨u, _, hm⟩ := h; exact hm.has a ha
        | false => obtain ⟨z, _⟩ := h; rw [z] at ha; cases ha
    · exact RepEnv.has t a ha
theorem Rst.has (R : Rst K Γ H F G P e σ ow) : ∀ a ∈ ow, ∃ o, H a = some o := R.rep.has
/-- an operation behind its operands -/
theorem fin {F1 : AP} {ow1 : List Addr} (R1 : Rst K Γ H1 F1 G P e1 σ ow1) (S1 : Sep H1 F1 G P ow1 fr) (T1 : Stp H F ow H1 F1 (ow1 ++ fr)) (l1 : LK e e1) (lr1 : LR σ σ e e1)
    (h : OpRes K Γ H1 F1 fr r z H2) : Res K Γ H F G P e σ ow r e1 z H2 := by
  obtain ⟨F2, fp, sb, nw, kp, q, nd, df, iF⟩ := h
  have d2 : ∀ a ∈ ow1, ¬ F2 a := fun a h f => by
    rcases nw a f with w | w | w
    · exact R1.dF a h w
    · exact S1.dO a w h
    · obtain ⟨o, q⟩ := R1.has a h
      rw [q] at w; cases w
  have R2 := R1.grow sb kp d2 iF
  have T2 : Stp H1 F1 (ow1 ++ fr) H2 F2 (ow1 ++ fp) := ⟨fun a o q _ => kp a o q, sb, fun a h => by
      rcases nw a h with w | w | w
      · exact .inl w
      · exact .inr (.inl (List.mem_append_right _ w))
      · exact .inr (.inr w), fun a h => by
      rcases List.mem_append.mp h with h | h
      · exact .inl (List.mem_append_left _ h)
      · rcases (df a h).2 with w | w
        · exact .inr w
        · exact .inl (List.mem_append_right _ w)⟩
  have hz : ∀ a ∈ fp, ∃ o, H2 a = some o := fun a h => by
    unfold RepR at q
    split at q
    · rw [q.1] at h; cases h
    · exact q.has a h
  refine ⟨F2, ow1, fp, R2, ⟨nd, hz, fun a h => (df a h).1, fun a h z => ?_, fun a h z => ?_, fun a h z => ?_⟩, T1.trans T2 fun x hx => hx, q, l1, lr1⟩
  · rcases (df a h).2 with w | w
    · obtain ⟨o, q⟩ := R1.iG a z; rw [q] at w; cases w
    · exact S1.dG a w z
  · rcases (df a h).2 with w | w
    · obtain ⟨o, q⟩ := R1.iP a z; rw [q] at w; cases w
    · exact S1.dP a w z
  · rcases (df a h).2 with w | w
    · obtain ⟨o, q⟩ := R1.has a z; rw [q] at w; cases w
    · exact S1.dO a w z
/-- a scalar, or data that stand -/
theorem OpRes.data (R1 : ∀ a, F a → ∃ o, H a = some o) {d : D} (h : RepD K Γ H F d z) : OpRes K Γ H F fr (.of d) z H :=
  ⟨F, [], fun _ h => h, fun _ h => .inl h, fun _ _ h => h, by show RepM K Γ true H F (.fz d) z []; exact ⟨rfl, h⟩, List.nodup_nil, fun _ h => (nomatch h), R1⟩
end
end Pv
/-! Pv: readings by the evaluator. -/
namespace Pv
open PySem L2
section
variable (K : PySem.W.Frag) (Γ : Gm) (W : WX)
/-- what is wanted behind an outcome -/
def OutE (H : Hp) (F G P : AP) (env : Env) (σ : St) (ow : List Addr) (pu : Bool) (Q : V → Hp → Prop) : Out RV → Prop
  | .ok r e => ∀ v H', Res K Γ H F G P env σ ow r e v H' → (pu = true → e = env ∧ ∀ a o, H a = some o → H' a = some o) → Q v H'
  | .exc c ds e => ∀ cls d H', ResX K Γ H F G P env σ ow c ds e cls d H' → W cls d σ H'
  | .stuck => False
def OutL (H : Hp) (F G P : AP) (env : Env) (σ : St) (ow : List Addr) (pu : Bool) (Q : List V → Hp → Prop) : Out (List RV) → Prop
  | .ok r e => ∀ v H', ResL K Γ H F G P env σ ow r e v H' → (pu = true → e = env ∧ ∀ a o, H a = some o → H' a = some o) → Q v H'
  | .exc c ds e => ∀ cls d H', ResX K Γ H F G P env σ ow c ds e cls d H' → W cls d σ H'
  | .stuck => False
def rdE (o : Env → Out RV) (pu : Bool) : TE := fun σ H Q => ∃ F G P env ow, Rst K Γ H F G P env σ ow ∧ OutE K Γ W H F G P env σ ow pu Q (o env)
def rdL (o : Env → Out (List RV)) (pu : Bool) : TA := fun σ H Q => ∃ F G P env ow, Rst K Γ H F G P env σ ow ∧ OutL K Γ W H F G P env σ ow pu Q (o env)
end
section
variable {K : PySem.W.Frag} {Γ : Gm} {W : WX} {H H' H1 H2 : Hp} {F F' F1 F2 G G' P P' : AP} {e e' e1 e2 env : Env} {σ : St} {ow ow' ow1 ow2 fp fr : List Addr} {r s : RV} {v x y z : V}
theorem OutE.mono {pu : Bool} {Q Q' : V → Hp → Prop} {o : Out RV} (h : OutE K Γ W H F G P env σ ow pu Q o) (q : ∀ v H', Q v H' → Q' v H') : OutE K Γ W H F G P env σ ow pu Q' o := by
  cases o with
  | ok r e => exact fun v H' a b => q v H' (h v H' a b)
  | exc c ds e => exact h
  | stuck => exact h
theorem rdE.mono {o : Env → Out RV} {pu : Bool} {Q Q' : V → Hp → Prop} (h : rdE K Γ W o pu σ H Q) (q : ∀ v H', Q v H' → Q' v H') : rdE K Γ W o pu σ H Q' :=
  let ⟨F, G, P, env, ow, R, k⟩ := h
  ⟨F, G, P, env, ow, R, k.mono q⟩
/-- an exception behind a step -/
theorem ResX.after {c : Nat} {ds : List D} {cls : Value} {d : Option Addr} {fp1 : List Addr} (T1 : Stp H F ow H1 F1 (ow1 ++ fp1)) (l1 : LK e e1) (lr1 : LR σ σ e e1)
    (h : ResX K Γ H1 F1 G (fun a => P a ∨ a ∈ fp1) e1 σ ow1 c ds e2 cls d H2) : ResX K Γ H F G P e σ ow c ds e2 cls d H2 := by
  obtain ⟨F2, ow2, R2, T2, x2, l2, lr2⟩ := h
  exact ⟨F2, ow2, R2.pop fun a h => .inl h, T1.trans T2 fun x hx => List.mem_append_left _ hx, x2, l1.trans l2, lr1.trans lr2⟩
/-- the operands one by one -/
theorem rd_cons {oa : Env → Out RV} {os : Env → Out (List RV)} {pa ps : Bool} {Q : List V → Hp → Prop}
    (h : rdL K Γ W (fun e => (oa e).bind fun r e => if (r.loose && !ps) = true then Out.stuck else (os e).bind fun rs e => Out.ok (r :: rs) e) (pa && ps) σ H Q) :
    rdE K Γ W oa pa σ H fun x H1 => rdL K Γ W os ps σ H1 fun xs H2 => Q (x :: xs) H2 := by
  obtain ⟨F, G, P, env, ow, R, k⟩ := h
  refine ⟨F, G, P, env, ow, R, ?_⟩
  cases ha : oa env with
  | stuck => simp only [ha, Out.bind] at k; exact k
  | exc c ds e1 => simp only [ha, Out.bind] at k; exact k
  | ok r e1 =>
    simp only [ha, Out.bind] at k
    intro v H1 ⟨F1, ow1, fp1, R1, S1, T1, q1, l1, lr1⟩ pu1
    refine ⟨F1, G, _, e1, ow1, R1.push S1, ?_⟩
    cases hl : (r.loose && !ps) with
    | true => simp only [hl, if_true] at k; exact k.elim
    | false =>
      simp only [hl, Bool.false_eq_true, if_false] at k
      cases hs : os e1 with
      | stuck => simp only [hs] at k; exact k
      | exc c ds e2 =>
        simp only [hs] at k
        exact fun cls d H2 x => k cls d H2 (x.after T1 l1 lr1)
      | ok rs e2 =>
        simp only [hs] at k
        intro vs H2 h2 pu2
        refine k (v :: vs) H2 (Res.cons R1 S1 T1 q1 l1 lr1 h2 fun lo => ?_) fun pp => ?_
        · rw [lo] at hl
          have : ps = true := by simpa using hl
          exact (pu2 this).2
        · rw [Bool.and_eq_true] at pp
          obtain ⟨p1, p2⟩ := pp
          obtain ⟨a1, b1⟩ := pu1 p1
          obtain ⟨a2, b2⟩ := pu2 p2
          exact ⟨a2.trans a1, fun a o q => b2 a o (b1 a o q)⟩
theorem rd_nil {Q : List V → Hp → Prop} (h : rdL K Γ W (fun e => Out.ok [] e) true σ H Q) : Q [] H := by
  obtain ⟨F, G, P, env, ow, R, k⟩ := h
  exact k [] H (.nil R) fun _ => ⟨rfl, fun _ _ h => h⟩
theorem rd_two {oa ob : Env → Out RV} {pa pb : Bool} {Q : List V → Hp → Prop}
    (h : rdL K Γ W (fun e => (oa e).bind fun r e => if (r.loose && !pb) = true then Out.stuck else (ob e).bind fun s e => Out.ok [r, s] e) (pa && pb) σ H Q) :
    rdE K Γ W oa pa σ H fun x H1 => rdE K Γ W ob pb σ H1 fun y H2 => Q [x, y] H2 := by
  have h' := rd_cons (os := fun e => (ob e).bind fun r e => if (r.loose && !true) = true then Out.stuck else (Out.ok ([] : List RV) e).bind fun rs e => Out.ok (r :: rs) e) (ps := pb) (oa := oa) (pa := pa) (K := K) (Γ := Γ) (W := W) (σ := σ) (H := H) (Q := Q) (by
    obtain ⟨F, G, P, env, ow, R, k⟩ := h
    refine ⟨F, G, P, env, ow, R, ?_⟩
    cases ha : oa env with
    | stuck => simp only [ha, Out.bind] at k; exact False.elim k
    | exc c ds e1 => simp only [ha, Out.bind] at k ⊢; exact k
    | ok r e1 =>
      simp only [ha, Out.bind] at k ⊢
      cases hl : (r.loose && !pb) with
      | true => simp only [hl, if_true] at k; exact k.elim
      | false =>
        simp only [hl, Bool.false_eq_true, if_false] at k ⊢
        cases hb : ob e1 with
        | stuck => simp only [hb] at k; exact False.elim k
        | exc c ds e2 => simp only [hb] at k ⊢; exact k
        | ok s e2 => simpa only [hb, Bool.not_true, Bool.and_false, Bool.false_eq_true, if_false] using k)
  refine h'.mono fun x H1 h1 => ?_
  have h2 := rd_cons (oa := ob) (pa := pb) (os := fun e => Out.ok ([] : List RV) e) (ps := true) (K := K) (Γ := Γ) (W := W) (σ := σ) (H := H1) (Q := fun xs H2 => Q (x :: xs) H2) (by rw [Bool.and_true]; exact h1)
  exact h2.mono fun y H2 h3 => rd_nil h3
/-- an operation upon operands that have been reckoned -/
theorem rd_fin {os : Env → Out (List RV)} {f : List RV → Option RV} {pu : Bool} {Q : V → Hp → Prop} {ro : List V → Hp → VK → Prop}
    (h : rdE K Γ W (fun e => (os e).bind fun rs e => Out.of e (f rs)) pu σ H Q)
    (hf : ∀ rs r vs H F fr, (∀ a, F a → ∃ o, H a = some o) → (∀ a ∈ fr, ∃ o, H a = some o) → (∀ a ∈ fr, ¬ F a) → fr.Nodup → RepRs K Γ H F rs vs fr → f rs = some r → ∀ Q, (∀ z H', OpRes K Γ H F fr r z H' → Q z H') → ro vs H Q) :
    rdL K Γ W os pu σ H fun vs H1 => ro vs H1 Q := by
  obtain ⟨F, G, P, env, ow, R, k⟩ := h
  refine ⟨F, G, P, env, ow, R, ?_⟩
  cases ha : os env with
  | stuck => simp only [ha, Out.bind] at k; exact k
  | exc c ds e1 => simp only [ha, Out.bind] at k; exact k
  | ok rs e1 =>
    simp only [ha, Out.bind] at k
    intro vs H1 ⟨F1, ow1, fr, R1, S1, T1, q1, l1, lr1⟩ pu1
    cases hr : f rs with
    | none => simp only [hr, Out.of] at k; exact k.elim
    | some r =>
      simp only [hr, Out.of] at k
      exact hf rs r vs H1 F1 fr R1.iF S1.has S1.dF S1.nd q1 hr Q fun z H2 op => k z H2 (fin R1 S1 T1 l1 lr1 op) fun pp => ⟨(pu1 pp).1, fun a o q => by
        obtain ⟨F2, fp, _, _, kp, _⟩ := op
        exact kp a o ((pu1 pp).2 a o q)⟩
end
end Pv
/-! Pv: the operations, by the layer's rules. -/
namespace Pv
open PySem L2
section
variable {K : PySem.W.Frag} {Γ : Gm} {W : WX} {H H' H1 H2 : Hp} {F F' F1 F2 G G' P P' : AP} {e e' e1 e2 env : Env} {σ : St} {ow ow' ow1 ow2 fp fr fx fy : List Addr} {r s t : RV} {v x y z : V}
/-- an operation of two operands -/
theorem rd_op2 {oa ob : Env → Out RV} {pa pb : Bool} {f : RV → RV → Option RV} {Q : V → Hp → Prop} {ro : R2}
    (h : rdE K Γ W (fun e => (oa e).bind fun r e => if (r.loose && !pb) = true then Out.stuck else (ob e).bind fun s e => Out.of e (f r s)) (pa && pb) σ H Q)
    (hf : ∀ r s t x y H F fx fy, (∀ a, F a → ∃ o, H a = some o) → (∀ a ∈ fx ++ fy, ∃ o, H a = some o) → (∀ a ∈ fx ++ fy, ¬ F a) → (fx ++ fy).Nodup → RepR K Γ H F r x fx → RepR K Γ H F s y fy → f r s = some t → ∀ Q, (∀ z H', OpRes K Γ H F (fx ++ fy) t z H' → Q z H') → ro x y H Q) :
    rdE K Γ W oa pa σ H fun x H1 => rdE K Γ W ob pb σ H1 fun y H2 => ro x y H2 Q := by
  have h1 := rd_fin (os := fun e => (oa e).bind fun r e => if (r.loose && !pb) = true then Out.stuck else (ob e).bind fun s e => Out.ok [r, s] e) (f := fun rs => match rs with | [r, s] => f r s | _ => none) (ro := fun vs H Q => ∀ x y, vs = [x, y] → ro x y H Q) (K := K) (Γ := Γ) (W := W) (pu := pa && pb) (σ := σ) (H := H) (Q := Q) (by
    obtain ⟨F, G, P, env, ow, R, k⟩ := h
    refine ⟨F, G, P, env, ow, R, ?_⟩
    cases ha : oa env with
    | stuck => simp only [ha, Out.bind] at k; exact False.elim k
    | exc c ds e1 => simp only [ha, Out.bind] at k ⊢; exact k
    | ok r e1 =>
      simp only [ha, Out.bind] at k ⊢
      cases hl : (r.loose && !pb) with
      | true => simp only [hl, if_true] at k; exact False.elim k
      | false =>
        simp only [hl, Bool.false_eq_true, if_false] at k ⊢
        cases hb : ob e1 with
        | stuck => simp only [hb] at k; exact False.elim k
        | exc c ds e2 => simp only [hb] at k ⊢; exact k
        | ok s e2 => simpa only [hb] using k)
    (fun rs r vs H F fr a1 a2 a3 a4 q hr Q hq x y ev => by
      subst ev
      cases rs with
      | nil => cases hr
      | cons r1 t1 => cases t1 with
        | nil => cases hr
        | cons r2 t2 => cases t2 with
          | cons _ _ => cases hr
          | nil =>
            obtain ⟨v1, w1, f1, g1, e1, e2, q1, v2, w2, f2, g2, e3, e4, q2, e5, e6⟩ := q
            subst e3
            subst e4
            obtain rfl : x = v1 := (List.cons.inj e1).1
            obtain rfl : y = v2 := (List.cons.inj (List.cons.inj e1).2).1
            subst e6
            rw [List.append_nil] at e2
            subst e2
            exact hf r1 r2 r x y H F f1 f2 a1 a2 a3 a4 q1 q2 hr Q hq)
  have h2 := rd_two h1
  exact h2.mono fun x H1 h3 => h3.mono fun y H2 h4 => h4 x y rfl
/-- .. of one -/
theorem rd_op1 {oa : Env → Out RV} {pa : Bool} {f : RV → Option RV} {Q : V → Hp → Prop} {ro : V → Hp → VK → Prop}
    (h : rdE K Γ W (fun e => (oa e).bind fun r e => Out.of e (f r)) pa σ H Q)
    (hf : ∀ r t x H F fx, (∀ a, F a → ∃ o, H a = some o) → (∀ a ∈ fx, ∃ o, H a = some o) → (∀ a ∈ fx, ¬ F a) → fx.Nodup → RepR K Γ H F r x fx → f r = some t → ∀ Q, (∀ z H', OpRes K Γ H F fx t z H' → Q z H') → ro x H Q) :
    rdE K Γ W oa pa σ H fun x H1 => ro x H1 Q := by
  obtain ⟨F, G, P, env, ow, R, k⟩ := h
  refine ⟨F, G, P, env, ow, R, ?_⟩
  cases ha : oa env with
  | stuck => simp only [ha, Out.bind] at k; exact k
  | exc c ds e1 => simp only [ha, Out.bind] at k; exact k
  | ok r e1 =>
    simp only [ha, Out.bind] at k
    intro v H1 ⟨F1, ow1, fr, R1, S1, T1, q1, l1, lr1⟩ pu1
    cases hr : f r with
    | none => simp only [hr, Out.of] at k; exact k.elim
    | some t =>
      simp only [hr, Out.of] at k
      exact hf r t v H1 F1 fr R1.iF S1.has S1.dF S1.nd q1 hr Q fun z H2 op => k z H2 (fin R1 S1 T1 l1 lr1 op) fun pp => ⟨(pu1 pp).1, fun a o q => by
        obtain ⟨F2, fp, _, _, kp, _⟩ := op
        exact kp a o ((pu1 pp).2 a o q)⟩

/-! ### what stands behind a value -/
theorem RepR.int {i : Int} (h : RepR K Γ H F r x fp) (e : r.d = .int i) : x = .int i := by
  have q := h.any; rw [e] at q; exact q
theorem RepR.bl {i : Bool} (h : RepR K Γ H F r x fp) (e : r.d = .bl i) : x = .bl i := by
  have q := h.any; rw [e] at q; exact q
theorem RepR.lst {ds : List D} (h : RepR K Γ H F r x fp) (e : r.lst? = some ds) : ∃ a vs, x = .ref a ∧ H a = some (.lst vs) ∧ RepDs K Γ H (fun c => F c ∨ c ∈ fp) ds vs := by
  obtain ⟨m, al⟩ := r
  unfold RV.lst? at e
  split at e
  · rename_i es hm
    cases e
    obtain rfl : m = .fz (.lst ds) := hm
    have h' : RepD K Γ H F (.lst ds) x := by
      unfold RepR at h
      split at h
      · obtain ⟨_, _, _, h⟩ := h; exact h
      · exact h.2
    obtain ⟨a, xs, e1, _, e2, q⟩ := h'
    exact ⟨a, xs, e1, e2, q.ext (.of (fun _ h => .inl h) fun _ _ _ q => q)⟩
  · rename_i ms hm
    obtain rfl : m = .lst ms := hm
    cases al with
    | true =>
      rw [if_pos rfl] at e
      unfold RepR at h
      rw [if_pos rfl] at h
      obtain ⟨_, fq, a, xs, fs, e1, e2, e3, q⟩ := h
      exact ⟨a, xs, e1, e3, (q.fzs e).1.ext (.of (fun _ h => .inl h) fun _ _ _ q => q)⟩
    | false =>
      rw [if_neg (by simp)] at e
      cases e
      unfold RepR at h
      rw [if_neg (by simp)] at h
      obtain ⟨a, xs, fs, e1, e2, e3, q⟩ := h
      exact ⟨a, xs, e1, e3, RepMs.freeze q (fun _ h => .inl h) fun c hc => .inr (by rw [e2]; exact List.mem_cons_of_mem _ hc)⟩
  · cases e
/-- data: what holds of a value that is data -/
theorem RepR.fzd {d : D} (h : RepR K Γ H F r x fp) (e : r.m = .fz d) : RepD K Γ H F d x ∧ fp = [] := by
  obtain ⟨m, al⟩ := r
  obtain rfl : m = .fz d := e
  unfold RepR at h
  split at h
  · obtain ⟨e1, _, _, h⟩ := h; exact ⟨h, e1⟩
  · exact ⟨h.2, h.1⟩

/-! ### what an operation leaves -/
theorem op_new {ds : List D} {vs : List V} {p : Addr} (iF : ∀ a, F a → ∃ o, H a = some o) (iR : ∀ a ∈ fr, ∃ o, H a = some o) (hp : H p = none) (h : RepDs K Γ H (fun c => F c ∨ c ∈ fr) ds vs) :
    OpRes K Γ H F fr (.nl ds) (.ref p) (upd H p (.lst vs)) := by
  have kp : ∀ a o, H a = some o → upd H p (.lst vs) a = some o := fun a o q => by rw [upd_ne (ne_of_none q hp)]; exact q
  have np : ¬ (F p ∨ p ∈ fr) := fun z => by
    rcases z with z | z
    · obtain ⟨o, q⟩ := iF p z; rw [hp] at q; cases q
    · obtain ⟨o, q⟩ := iR p z; rw [hp] at q; cases q
  refine ⟨fun c => F c ∨ c ∈ fr, [p], fun _ h => .inl h, fun a h => h.elim .inl fun h => .inr (.inl h), kp, ?_, by simp, fun a h => ?_, fun a h => ?_⟩
  · show RepM K Γ true _ _ (.lst (ds.map M.fz)) (.ref p) [p]
    exact ⟨p, vs, [], rfl, rfl, upd_same, RepMs.of_fz (h.ext (.of (fun _ h => h) fun a o _ q => kp a o q))⟩
  · rw [List.mem_singleton.mp h]; exact ⟨np, .inl hp⟩
  · rcases h with h | h
    · obtain ⟨o, q⟩ := iF a h; exact ⟨o, kp a o q⟩
    · obtain ⟨o, q⟩ := iR a h; exact ⟨o, kp a o q⟩
theorem op_tup {ds : List D} {vs : List V} {p : Addr} (iF : ∀ a, F a → ∃ o, H a = some o) (iR : ∀ a ∈ fr, ∃ o, H a = some o) (hp : H p = none) (h : RepDs K Γ H (fun c => F c ∨ c ∈ fr) ds vs) :
    OpRes K Γ H F fr (.of (.tup ds)) (.ref p) (upd H p (.tup vs)) := by
  have kp : ∀ a o, H a = some o → upd H p (.tup vs) a = some o := fun a o q => by rw [upd_ne (ne_of_none q hp)]; exact q
  refine ⟨fun c => F c ∨ c ∈ fr ∨ c = p, [], fun _ h => .inl h, fun a h => h.elim .inl fun h => h.elim (fun h => .inr (.inl h)) fun h => .inr (.inr (by rw [h]; exact hp)), kp, ?_, List.nodup_nil, fun _ h => (nomatch h), fun a h => ?_⟩
  · show RepM K Γ true _ _ (.fz (.tup ds)) (.ref p) []
    exact ⟨rfl, p, vs, rfl, .inl ⟨.inr (.inr rfl), upd_same⟩, h.ext (.of (fun _ h => h.elim .inl fun h => .inr (.inl h)) fun a o _ q => kp a o q)⟩
  · rcases h with h | h | h
    · obtain ⟨o, q⟩ := iF a h; exact ⟨o, kp a o q⟩
    · obtain ⟨o, q⟩ := iR a h; exact ⟨o, kp a o q⟩
    · exact ⟨_, by rw [h]; exact upd_same⟩
theorem op_sc (iF : ∀ a, F a → ∃ o, H a = some o) {d : D} {v : V} (h : ∀ F, RepD K Γ H F d v) : OpRes K Γ H F fr (.of d) v H := OpRes.data iF (h F)
end

/-! ### arithmetic, comparisons -/
section
variable {X : Cx} {Γ : Gm}
def opS : Op2 → Operator
  | .add => .Add | .sub => .Sub | .mul => .Mult | .fdiv => .FloorDiv | .mod => .Mod | .pow => .Pow | .shl => .LShift | .shr => .RShift | .band => .BitAnd | .bor => .BitOr
def cmS : Cm → CmpOp
  | .eq => .Eq | .ne => .NotEq | .lt => .Lt | .le => .LtE | .gt => .Gt | .ge => .GtE | .is => .Is | .isn => .IsNot | .mem => .In | .nmem => .NotIn
/-- the layer's rule for an operator, all its ways -/
def roA : Op2 → R2
  | .add => rI0 fun i j => .int (i + j)
  | .sub => rI0 fun i j => .int (i - j)
  | .mul => fun x y H Q => rI CMul (fun i j => .int (i * j)) x y H Q ∨ rI CMulW (fun i j => .int (i * j)) x y H Q
  | .fdiv => fun x y H Q => rI CDiv (fun i j => .int (i / j)) x y H Q ∨ rI CDivW (fun i j => .int (i / j)) x y H Q
  | .mod => rI (fun _ j => 0 < j) fun i j => .int (i % j)
  | .pow => rI CPow fun i j => .int (i ^ j.toNat)
  | .shl => fun x y H Q => rI CPow (fun i j => .int (i * 2 ^ j.toNat)) x y H Q ∨ rI CShl (fun i j => .int (i * 2 ^ j.toNat)) x y H Q
  | .shr => rI (fun _ j => 0 ≤ j) fun i j => .int (i / 2 ^ j.toNat)
  | .band => rI0 fun i j => .int (Builtin.bitAnd i j)
  | .bor => rI0 fun i j => .int (Builtin.bitOr i j)
theorem roA_ok : ∀ o, OpR X (binaryOp (opS o)) (roA o)
  | .add => op_add | .sub => op_sub | .mul => op_mul.or op_mulW | .fdiv => op_fdiv.or op_fdivW | .mod => op_mod | .pow => op_pow | .shl => op_shl.or op_shlW | .shr => op_shr | .band => op_and | .bor => op_or
theorem small64_iff {i : Int} (h : small64 i = true) : -(2 ^ 64) < i ∧ i < 2 ^ 64 := by
  unfold small64 at h; rw [Bool.and_eq_true, decide_eq_true_eq, decide_eq_true_eq] at h; exact h
theorem roA_of {o : Op2} {i j k : Int} {H : Hp} {Q : VK} (h : arith o i j = some k) (q : Q (.int k) H) : roA o (.int i) (.int j) H Q := by
  cases o <;> simp only [arith] at h
  case add => cases h; exact ⟨i, j, rfl, rfl, q⟩
  case sub => cases h; exact ⟨i, j, rfl, rfl, q⟩
  case band => cases h; exact ⟨i, j, rfl, rfl, q⟩
  case bor => cases h; exact ⟨i, j, rfl, rfl, q⟩
  case mul =>
    split at h
    · rename_i c; cases h
      rw [Bool.or_eq_true, Bool.or_eq_true, decide_eq_true_eq] at c
      rcases c with (c | c) | c
      · exact .inl ⟨i, j, rfl, rfl, .inl (small64_iff c), q⟩
      · exact .inl ⟨i, j, rfl, rfl, .inr (small64_iff c), q⟩
      · exact .inr ⟨i, j, rfl, rfl, c, q⟩
    · cases h
  case fdiv =>
    split at h
    · rename_i c; cases h
      rw [Bool.and_eq_true, Bool.or_eq_true, decide_eq_true_eq, decide_eq_true_eq, decide_eq_true_eq] at c
      rcases c with ⟨c0, c | c⟩
      · exact .inl ⟨i, j, rfl, rfl, ⟨c0, c⟩, q⟩
      · exact .inr ⟨i, j, rfl, rfl, ⟨c0, c⟩, q⟩
    · cases h
  case mod =>
    split at h
    · rename_i c; cases h
      rw [decide_eq_true_eq] at c
      exact ⟨i, j, rfl, rfl, c, q⟩
    · cases h
  case pow =>
    split at h
    · rename_i c; cases h
      rw [Bool.and_eq_true, Bool.and_eq_true, decide_eq_true_eq, decide_eq_true_eq] at c
      have := small64_iff c.2
      exact ⟨i, j, rfl, rfl, ⟨c.1.1, c.1.2, by omega⟩, q⟩
    · cases h
  case shl =>
    split at h
    · rename_i c; cases h
      rw [Bool.and_eq_true, Bool.or_eq_true, Bool.and_eq_true, decide_eq_true_eq, decide_eq_true_eq, decide_eq_true_eq] at c
      rcases c with ⟨c0, c | c⟩
      · have := small64_iff c.2
        exact .inl ⟨i, j, rfl, rfl, ⟨c0, c.1, by omega⟩, q⟩
      · exact .inr ⟨i, j, rfl, rfl, ⟨c0, c⟩, q⟩
    · cases h
  case shr =>
    split at h
    · rename_i c; cases h
      rw [decide_eq_true_eq] at c
      exact ⟨i, j, rfl, rfl, c, q⟩
    · cases h
/-- the rule with lists -/
def roB (o : Op2) : R2 := fun x y H Q => roA o x y H Q ∨ match o with
  | .add => rCat x y H Q
  | .mul => rRep x y H Q
  | _ => False
theorem roB_ok (o : Op2) : OpR X (binaryOp (opS o)) (roB o) := by
  have no : OpR X (binaryOp (opS o)) (fun _ _ _ _ => False) := fun _ _ _ _ _ _ _ _ _ _ _ _ h => h.elim
  cases o
  case add => exact (roA_ok .add).or op_cat
  case mul => exact (roA_ok .mul).or op_rep
  all_goals exact (roA_ok _).or no
theorem sizeLine_val : sizeLine = 16777216 := by decide +kernel
theorem lenOk_iff {n : Nat} (h : lenOk n = true) : n ≤ sizeLine := by rw [sizeLine_val]; exact of_decide_eq_true h
theorem bin2_ok {K : PySem.W.Frag} (o : Op2) : ∀ r s t x y H F fx fy, (∀ a, F a → ∃ o, H a = some o) → (∀ a ∈ fx ++ fy, ∃ o, H a = some o) → (∀ a ∈ fx ++ fy, ¬ F a) → (fx ++ fy).Nodup → RepR K Γ H F r x fx → RepR K Γ H F s y fy →
    bin2 o r s = some t → ∀ Q, (∀ z H', OpRes K Γ H F (fx ++ fy) t z H' → Q z H') → roB o x y H Q := by
  intro r s t x y H F fx fy iF iR dF nd hr hs hf Q hq
  unfold bin2 at hf
  split at hf
  · rename_i i j ei ej
    cases ha : arith o i j with
    | none => rw [ha] at hf; cases hf
    | some k =>
      rw [ha] at hf; cases hf
      rw [hr.int ei, hs.int ej]
      exact .inl (roA_of ha (hq _ _ (op_sc iF fun _ => rfl)))
  · rename_i k ej hn
    split at hf
    · rename_i xs ex
      split at hf
      · rename_i c
        cases hf
        rw [Bool.and_eq_true, Bool.and_eq_true, decide_eq_true_eq, decide_eq_true_eq] at c
        obtain ⟨a, vs, e1, e2, q⟩ := hr.lst ex
        rw [hs.int ej]
        refine .inr ⟨a, k, vs, e1, rfl, e2, c.1.2, c.1.1, ?_, fun p hp => hq _ _ (op_new iF iR hp ((q.rep _).ext (.of (fun _ h => h.elim .inl fun h => .inr (List.mem_append_left _ h)) fun _ _ _ q => q)))⟩
        rw [← q.len]; exact lenOk_iff c.2
      · cases hf
    · cases hf
  · split at hf
    · rename_i xs ys ex ey
      split at hf
      · rename_i c
        cases hf
        obtain ⟨a, vs, e1, e2, q⟩ := hr.lst ex
        obtain ⟨b, ws, e3, e4, q2⟩ := hs.lst ey
        refine .inr ⟨a, b, vs, ws, e1, e3, e2, e4, ?_, fun p hp => hq _ _ (op_new iF iR hp ((q.ext (.of (fun _ h => h.elim .inl fun h => .inr (List.mem_append_left _ h)) fun _ _ _ q => q)).app (q2.ext (.of (fun _ h => h.elim .inl fun h => .inr (List.mem_append_right _ h)) fun _ _ _ q => q))))⟩
        rw [← q.len, ← q2.len]; exact lenOk_iff c
      · cases hf
    · cases hf
end
end Pv
/-! Pv: the operations, further. -/
namespace Pv
open PySem L2
/-! ### data as the layer compares it -/
mutual
def D.py : D → PyData
  | .non => .none
  | .bl b => .bool b
  | .int i => .int i
  | .str x => .str x
  | .lst xs => .list (D.pys xs)
  | .tup xs => .tuple (D.pys xs)
  | _ => .none
def D.pys : List D → List PyData
  | [] => []
  | d :: ds => d.py :: D.pys ds
end
mutual
theorem shp_lay : ∀ {n : Nat} {d : D}, shp n d = true → d.py.canLay0 = true ∧ d.py.depth ≤ n
  | n, .non, _ => ⟨rfl, Nat.zero_le _⟩
  | n, .bl _, _ => ⟨rfl, Nat.zero_le _⟩
  | n, .int _, _ => ⟨rfl, Nat.zero_le _⟩
  | n, .str x, h => by
    have h' : PyData.strOk x = true := by unfold shp at h; exact h
    exact ⟨by show PyData.canLay0 (.str x) = true; unfold PyData.canLay0; exact h', by show PyData.depth (.str x) ≤ n; unfold PyData.depth; exact Nat.zero_le _⟩
  | n + 1, .lst xs, h => by
    have h' : shps n xs = true := by unfold shp at h; exact h
    obtain ⟨a, b⟩ := shps_lay h'
    exact ⟨by show PyData.canLay0 (.list (D.pys xs)) = true; unfold PyData.canLay0; exact a, by show PyData.depth (.list (D.pys xs)) ≤ n + 1; unfold PyData.depth; omega⟩
  | n + 1, .tup xs, h => by
    have h' : shps n xs = true := by unfold shp at h; exact h
    obtain ⟨a, b⟩ := shps_lay h'
    exact ⟨by show PyData.canLay0 (.tuple (D.pys xs)) = true; unfold PyData.canLay0; exact a, by show PyData.depth (.tuple (D.pys xs)) ≤ n + 1; unfold PyData.depth; omega⟩
  | 0, .lst xs, h => by unfold shp at h; cases h
  | 0, .tup xs, h => by unfold shp at h; cases h
  | n, .dct _ _, h => by unfold shp at h; cases h
  | n, .set _, h => by unfold shp at h; cases h
  | n, .obj _ _ _, h => by unfold shp at h; cases h
  | n, .fn _, h => by unfold shp at h; cases h
  | n, .scr _, h => by unfold shp at h; cases h
theorem shps_lay : ∀ {n : Nat} {ds : List D}, shps n ds = true → PyData.canLayAll0 (D.pys ds) = true ∧ PyData.depthAll (D.pys ds) ≤ n
  | n, [], _ => ⟨rfl, Nat.zero_le _⟩
  | n, d :: ds, h => by
    unfold shps at h
    rw [Bool.and_eq_true] at h
    obtain ⟨a, b⟩ := shp_lay h.1
    obtain ⟨a', b'⟩ := shps_lay h.2
    exact ⟨by show PyData.canLayAll0 (d.py :: D.pys ds) = true; unfold PyData.canLayAll0; rw [a, a']; rfl, by show PyData.depthAll (d.py :: D.pys ds) ≤ n; unfold PyData.depthAll; omega⟩
end
theorem shaped_of {d : D} (h : shp 40 d = true) : SeqAt.shaped d.py = true := by
  obtain ⟨a, b⟩ := shp_lay h
  unfold SeqAt.shaped
  rw [a, decide_eq_true (by omega)]; rfl
theorem shaped_all {ds : List D} (h : shps 40 ds = true) : SeqAt.shaped (.list (D.pys ds)) = true := by
  obtain ⟨a, b⟩ := shps_lay h
  unfold SeqAt.shaped
  rw [show PyData.canLay0 (.list (D.pys ds)) = true by unfold PyData.canLay0; exact a, decide_eq_true (show PyData.depth (.list (D.pys ds)) ≤ 64 by unfold PyData.depth; omega)]; rfl
mutual
theorem eqv_py : ∀ {n m : Nat} {a b : D}, shp n a = true → shp m b = true → PyData.eqv a.py b.py = eqD a b := by
  intro n m a b ha hb
  cases a <;> cases b <;> first
    | (exfalso; revert ha; unfold shp; cases n <;> simp; done)
    | (exfalso; revert hb; unfold shp; cases m <;> simp; done)
    | (simp only [D.py]; unfold PyData.eqv eqD; rfl)
    | skip
  all_goals (cases n with
    | zero => exfalso; revert ha; unfold shp; simp
    | succ n => cases m with
      | zero => exfalso; revert hb; unfold shp; simp
      | succ m =>
        unfold shp at ha hb
        simp only [D.py]
        unfold PyData.eqv eqD
        exact eqvs_py ha hb)
theorem eqvs_py : ∀ {n m : Nat} {as bs : List D}, shps n as = true → shps m bs = true → PyData.eqvAll (D.pys as) (D.pys bs) = eqDs as bs := by
  intro n m as bs ha hb
  cases as with
  | nil => cases bs with
    | nil => rfl
    | cons b bs => simp only [D.pys]; unfold PyData.eqvAll eqDs; rfl
  | cons a as => cases bs with
    | nil => simp only [D.pys]; unfold PyData.eqvAll eqDs; rfl
    | cons b bs =>
      unfold shps at ha hb
      rw [Bool.and_eq_true] at ha hb
      simp only [D.pys]
      unfold PyData.eqvAll eqDs
      rw [eqv_py ha.1 hb.1, eqvs_py ha.2 hb.2]
end
end Pv
/-! Pv: comparisons, items, slices. -/
namespace Pv
open PySem L2
section
variable {K : PySem.W.Frag} {Γ : Gm} {H H' : Hp} {F F' : AP} {r s t : RV} {v x y z : V} {fp fr : List Addr}
mutual
theorem dp_of : ∀ {n : Nat} {d : D} {v : V}, RepD K Γ H F d v → shp n d = true → Dp K H v d.py
  | n, .non, _, h, _ => by rw [show _ = _ from h]; exact .non
  | n, .bl _, _, h, _ => by rw [show _ = _ from h]; exact .bl _
  | n, .int _, _, h, _ => by rw [show _ = _ from h]; exact .int _
  | n, .str _, _, h, _ => by rw [show _ = _ from h]; exact .str _
  | n + 1, .lst _, _, ⟨a, xs, e, _, h, q⟩, c => by
    rw [e]; unfold shp at c
    exact .lst (SqL.of h) (dps_of q c)
  | n + 1, .tup _, _, ⟨a, xs, e, h, q⟩, c => by
    rw [e]; unfold shp at c
    exact .tup h.sq (dps_of q c)
  | 0, .lst xs, _, _, h => by unfold shp at h; cases h
  | 0, .tup xs, _, _, h => by unfold shp at h; cases h
  | n, .dct _ _, _, _, h => by unfold shp at h; cases h
  | n, .set _, _, _, h => by unfold shp at h; cases h
  | n, .obj _ _ _, _, _, h => by unfold shp at h; cases h
  | n, .fn _, _, _, h => by unfold shp at h; cases h
  | n, .scr _, _, _, h => by unfold shp at h; cases h
theorem dps_of : ∀ {n : Nat} {ds : List D} {vs : List V}, RepDs K Γ H F ds vs → shps n ds = true → DpAll K H vs (D.pys ds)
  | n, [], _, h, _ => by rw [show _ = _ from h]; exact .nil
  | n, d :: ds, _, ⟨x, r, e, h, q⟩, c => by
    rw [e]; unfold shps at c
    rw [Bool.and_eq_true] at c
    exact .cons (dp_of h c.1) (dps_of q c.2)
end
theorem flatV_of {d : D} (h : RepD K Γ H F d v) (c : flat d = true) : flatV v = true := by
  cases d <;> first | (cases c; done) | (rw [show v = _ from h]; rfl)
theorem flatVs_of : ∀ {ds : List D} {vs : List V}, RepDs K Γ H F ds vs → ds.all flat = true → vs.all flatV = true
  | [], _, h, _ => by rw [show _ = _ from h]; rfl
  | d :: ds, _, ⟨x, r, e, h, q⟩, c => by
    rw [List.all_cons, Bool.and_eq_true] at c
    rw [e, List.all_cons, flatV_of h c.1, flatVs_of q c.2]; rfl
theorem eqV_of {d e : D} {u : V} (h : RepD K Γ H F d v) (h' : RepD K Γ H F' e u) (c : flat d = true) (c' : flat e = true) : eqV v u = eqD d e := by
  cases d <;> first | (cases c; done) | skip
  all_goals (rw [show v = _ from h]; cases e <;> first | (cases c'; done) | (rw [show u = _ from h']; unfold eqV eqD; rfl))
theorem inV_of {e : D} {u : V} (h' : RepD K Γ H F' e u) (c' : flat e = true) : ∀ {ds : List D} {vs : List V}, RepDs K Γ H F ds vs → ds.all flat = true → inV u vs = ds.any fun z => eqD z e
  | [], _, h, _ => by rw [show _ = _ from h]; rfl
  | d :: ds, _, ⟨x, r, e1, h, q⟩, c => by
    rw [List.all_cons, Bool.and_eq_true] at c
    have ih := inV_of h' c' q c.2
    unfold inV at ih ⊢
    rw [e1, List.any_cons, List.any_cons, ih, eqV_of h h' c.1 c']
theorem any_eqv {n m : Nat} {e : D} (he : shp m e = true) : ∀ {ds : List D}, shps n ds = true → (D.pys ds).any (fun z => PyData.eqv z e.py) = ds.any fun z => eqD z e
  | [], _ => rfl
  | d :: ds, c => by
    unfold shps at c
    rw [Bool.and_eq_true] at c
    show ((PyData.eqv d.py e.py) || (D.pys ds).any _) = _
    rw [any_eqv he c.2, eqv_py c.1 he, List.any_cons]
theorem key_kV {d : D} {k : Key} (h : RepD K Γ H F d v) (e : d.key = some k) : v = kV k := by
  cases d <;> first | (cases e; done) | (cases e; rw [show v = _ from h]; rfl)
theorem valV_dget {α : Type} : ∀ {ks : List Key} {vs : List V} {k : Key}, ks.length = vs.length → valV (ks.zip vs) k = dget ks vs k
  | [], [], _, _ => rfl
  | a :: ks, v :: vs, k, h => by
    unfold valV dget
    rw [List.zip_cons_cons, List.find?_cons]
    by_cases c : a = k
    · rw [show decide ((a, v).1 = k) = true from decide_eq_true c, if_pos c]; rfl
    · rw [show decide ((a, v).1 = k) = false from decide_eq_false c, if_neg c]
      exact valV_dget (α := α) (by simpa using h)
  | [], _ :: _, _, h => by simp at h
  | _ :: _, [], _, h => by simp at h
theorem dget_len {α β : Type} : ∀ {ks : List Key} {vs : List α} {ws : List β} {k : Key}, vs.length = ws.length → (dget ks vs k).isSome = (dget ks ws k).isSome
  | [], _, _, _, _ => rfl
  | _ :: _, [], [], _, _ => rfl
  | a :: ks, v :: vs, w :: ws, k, h => by
    unfold dget
    split
    · rfl
    · exact dget_len (by simpa using h)
  | _ :: _, [], _ :: _, _, h => by simp at h
  | _ :: _, _ :: _, [], _, h => by simp at h
theorem dget_has {α : Type} : ∀ {ks : List Key} {vs : List α} {k : Key}, ks.length = vs.length → (dget ks vs k).isSome = ks.any fun z => decide (z = k)
  | [], [], _, _ => rfl
  | a :: ks, v :: vs, k, h => by
    unfold dget
    rw [List.any_cons]
    by_cases c : a = k
    · rw [if_pos c, decide_eq_true c]; rfl
    · rw [if_neg c, dget_has (by simpa using h), decide_eq_false c]; rfl
  | [], _ :: _, _, h => by simp at h
  | _ :: _, [], _, h => by simp at h
theorem dget_rep : ∀ {ks : List Key} {ds : List D} {vs : List V} {k : Key} {d : D}, RepDs K Γ H F ds vs → dget ks ds k = some d → ∃ v, dget ks vs k = some v ∧ RepD K Γ H F d v
  | [], _, _, _, _, _, h => by unfold dget at h; cases h
  | _ :: _, [], _, _, _, _, h => by unfold dget at h; cases h
  | a :: ks, d :: ds, _, k, d', ⟨x, r, e, h, q⟩, c => by
    unfold dget at c
    rw [e]
    unfold dget
    split at c
    · rename_i hk; cases c; exact ⟨x, by rw [if_pos hk], h⟩
    · rename_i hk; obtain ⟨v, h1, h2⟩ := dget_rep q c; exact ⟨v, by rw [if_neg hk]; exact h1, h2⟩
theorem dget_repM {b : Bool} : ∀ {ks : List Key} {ms : List M} {vs : List V} {fp : List Addr} {k : Key} {m : M}, RepMs K Γ b H F ms vs fp → dget ks ms k = some m → ∃ v fq, dget ks vs k = some v ∧ RepM K Γ b H F m v fq ∧ fq.Sublist fp
  | [], _, _, _, _, _, _, h => by unfold dget at h; cases h
  | _ :: _, [], _, _, _, _, _, h => by unfold dget at h; cases h
  | a :: ks, d :: ds, _, _, k, d', ⟨x, r, f1, f2, e, ef, h, q⟩, c => by
    unfold dget at c
    rw [e, ef]
    unfold dget
    split at c
    · rename_i hk; cases c; exact ⟨x, f1, by rw [if_pos hk], h, List.sublist_append_left _ _⟩
    · rename_i hk; obtain ⟨v, fq, h1, h2, h3⟩ := dget_repM q c; exact ⟨v, fq, by rw [if_neg hk]; exact h1, h2, h3.trans (List.sublist_append_right _ _)⟩
theorem getM : ∀ {b : Bool} {ms : List M} {vs : List V} {fp : List Addr} {i : Nat} {m : M}, RepMs K Γ b H F ms vs fp → ms[i]? = some m → ∃ v fq, vs[i]? = some v ∧ RepM K Γ b H F m v fq ∧ fq.Sublist fp
  | _, [], _, _, _, _, _, e => by simp at e
  | _, _ :: _, _, _, 0, _, ⟨x, r, f1, f2, e, ef, h, _⟩, e2 => by simp at e2; subst e2; exact ⟨x, f1, by rw [e]; rfl, h, by rw [ef]; exact List.sublist_append_left _ _⟩
  | _, _ :: _, _, _, i + 1, _, ⟨x, r, f1, f2, e, ef, _, t⟩, e2 => by
    obtain ⟨v, fq, h1, h2, h3⟩ := getM (i := i) t (by simpa using e2)
    exact ⟨v, fq, by rw [e]; simpa using h1, h2, by rw [ef]; exact h3.trans (List.sublist_append_right _ _)⟩
theorem atI_rep {ds : List D} {vs : List V} {i : Int} {d : D} (h : RepDs K Γ H F ds vs) (e : atI ds i = some d) : ∃ v, atI vs i = some v ∧ RepD K Γ H F d v := by
  unfold atI at e ⊢
  rw [← h.len]
  cases c : ixN ds.length i with
  | none => rw [c] at e; cases e
  | some j => rw [c] at e; exact h.get e
theorem atI_repM {b : Bool} {ms : List M} {vs : List V} {fp : List Addr} {i : Int} {m : M} (h : RepMs K Γ b H F ms vs fp) (e : atI ms i = some m) : ∃ v fq, atI vs i = some v ∧ RepM K Γ b H F m v fq ∧ fq.Sublist fp := by
  unfold atI at e ⊢
  rw [← h.len]
  cases c : ixN ms.length i with
  | none => rw [c] at e; cases e
  | some j => rw [c] at e; exact getM h e
/-- a part of a tree as a result -/
theorem op_part {m : M} {al : Bool} {fq : List Addr} (iF : ∀ a, F a → ∃ o, H a = some o) (hfr : al = false → fq.Sublist fr) (nd : fr.Nodup) (dF : ∀ a ∈ fr, ¬ F a) (h : if al = true then RepM K Γ false H F m z fq else RepM K Γ true H F m z fq) : OpRes K Γ H F fr ⟨m, al⟩ z H := by
  cases al with
  | true => exact ⟨F, [], fun _ h => h, fun _ h => .inl h, fun _ _ h => h, by unfold RepR; rw [if_pos rfl]; exact ⟨rfl, fq, by simpa using h⟩, List.nodup_nil, fun _ h => (nomatch h), iF⟩
  | false =>
    have s := hfr rfl
    exact ⟨F, fq, fun _ h => h, fun _ h => .inl h, fun _ _ h => h, by unfold RepR; rw [if_neg (by simp)]; simpa using h, nd.sublist s, fun a ha => ⟨dF a (s.subset ha), .inr (s.subset ha)⟩, iF⟩
end

section
variable {X : Cx} {Γ : Gm}
/-- k in d -/
def rDIn (neg : Bool) : R2 := fun y x H Q => ∃ a o, x = .ref a ∧ DGet H a y o ∧ Q (.bl (if neg then !o.isSome else o.isSome)) H
theorem op_din (hu : X.A.units + 1 < cLine) : OpR X (compareOp .In) (rDIn false) := by
  intro pins s σ H y x u v Q I ry rx ⟨a, o, ex, g, q⟩
  subst ex
  obtain rfl : v = Value.ref a := rx
  exact d_in hu I g ry fun s3 I3 => ⟨.bl o.isSome, H, I3, rfl, q⟩
theorem op_dnin (hu : X.A.units + 1 < cLine) : OpR X (compareOp .NotIn) (rDIn true) := by
  intro pins s σ H y x u v Q I ry rx ⟨a, o, ex, g, q⟩
  subst ex
  obtain rfl : v = Value.ref a := rx
  exact d_notIn hu I g ry fun s3 I3 => ⟨.bl (!o.isSome), H, I3, rfl, q⟩
def roC (K : PySem.W.Frag) : Cm → R2
  | .eq => rEqD K
  | .ne => rNeD K
  | .lt => rI0 fun i j => .bl (decide (i < j))
  | .le => rI0 fun i j => .bl (decide (i ≤ j))
  | .gt => rI0 fun i j => .bl (decide (j < i))
  | .ge => rI0 fun i j => .bl (decide (j ≤ i))
  | .is => fun x y H Q => y = .non ∧ Q (.bl (decide (x = .non))) H
  | .isn => fun x y H Q => y = .non ∧ Q (.bl (!decide (x = .non))) H
  | .mem => fun x y H Q => rIn K false x y H Q ∨ rInD K x y H Q ∨ rDIn false x y H Q
  | .nmem => fun x y H Q => rIn K true x y H Q ∨ rNotInD K x y H Q ∨ rDIn true x y H Q
theorem roC_ok (hu : X.A.units + 65 < cLine) : ∀ o, OpR X (compareOp (cmS o)) (roC X.K o)
  | .eq => op_eqD (by omega)
  | .ne => op_neD (by omega)
  | .lt => op_lt | .le => op_le | .gt => op_gt | .ge => op_ge
  | .is => op_isN | .isn => op_notN
  | .mem => op_in_seq.or ((op_inD hu).or (op_din (by omega)))
  | .nmem => op_notIn_seq.or ((op_notInD hu).or (op_dnin (by omega)))
theorem non_iff {K : PySem.W.Frag} {H : Hp} {F : AP} {d : D} {x : V} (h : RepD K Γ H F d x) : decide (x = .non) = d.none? := by
  cases d with
  | non => rw [show x = _ from h]; rfl
  | bl _ => rw [show x = _ from h]; rfl
  | int _ => rw [show x = _ from h]; rfl
  | str _ => rw [show x = _ from h]; rfl
  | fn _ => rw [show x = _ from h]; rfl
  | lst _ => obtain ⟨a, _, e, _⟩ := h; rw [e]; rfl
  | tup _ => obtain ⟨a, _, e, _⟩ := h; rw [e]; rfl
  | dct _ _ => obtain ⟨a, _, e, _⟩ := h; rw [e]; rfl
  | set _ => obtain ⟨a, e, _⟩ := h; rw [e]; rfl
  | obj _ _ _ => obtain ⟨a, _, _, e, _⟩ := h; rw [e]; rfl
  | scr _ => obtain ⟨a, e, _⟩ := h; rw [e]; rfl
theorem dget_at {K : PySem.W.Frag} {H : Hp} {F : AP} {ks : List Key} {ds : List D} {k : Key} {y v : V} {d : D} (h : RepD K Γ H F (.dct ks ds) y) (hv : RepD K Γ H F d v) (e : d.key = some k) : ∃ a xs, y = .ref a ∧ ks.length = xs.length ∧ DGet H a v (dget ks xs k) ∧ RepDs K Γ H F ds xs := by
  obtain ⟨a, xs, e1, _, h1, l, q⟩ := h
  exact ⟨a, xs, e1, l, .inl ⟨_, k, h1, key_kV hv e, (valV_dget (α := Nat) l).symm⟩, q⟩
theorem mem_ok {K : PySem.W.Frag} {H : Hp} {F : AP} {a b : D} {x y : V} {k : Bool} {Q : VK} (ha : RepD K Γ H F a x) (hb : RepD K Γ H F b y) (h : memD a b = some k) (q : Q (.bl k) H) : roC K .mem x y H Q := by
  cases b <;> first | (simp only [memD] at h; cases h; done) | skip
  case dct ks ds =>
    simp only [memD] at h
    cases e : a.key with
    | none => rw [e] at h; cases h
    | some z =>
      rw [e] at h; cases h
      obtain ⟨p, xs, e1, l, g, _⟩ := dget_at hb ha e
      exact .inr (.inr ⟨p, _, e1, g, by simp only [dget_has l, Bool.false_eq_true, if_false, if_true]; exact q⟩)
  case lst ds =>
    obtain ⟨p, xs, e1, _, h1, r⟩ := hb
    simp only [memD] at h
    split at h
    · rename_i c
      rw [Bool.and_eq_true] at c
      cases h
      exact .inl ⟨p, xs, e1, .inl (SqL.of h1), flatV_of ha c.1, flatVs_of r c.2, by simp only [inV_of ha c.1 r c.2, Bool.false_eq_true, if_false, if_true]; exact q⟩
    · split at h
      · rename_i _ c
        rw [Bool.and_eq_true] at c
        cases h
        exact .inr (.inl ⟨a.py, D.pys ds, dp_of ha c.1, by rw [e1]; exact .lst (SqL.of h1) (dps_of r c.2), shaped_of c.1, shaped_all c.2, by simp only [any_eqv c.1 c.2, Bool.false_eq_true, if_false, if_true]; exact q⟩)
      · cases h
  case tup ds =>
    obtain ⟨p, xs, e1, h1, r⟩ := hb
    simp only [memD] at h
    split at h
    · rename_i c
      rw [Bool.and_eq_true] at c
      cases h
      exact .inl ⟨p, xs, e1, .inr h1.sq, flatV_of ha c.1, flatVs_of r c.2, by simp only [inV_of ha c.1 r c.2, Bool.false_eq_true, if_false, if_true]; exact q⟩
    · cases h
theorem nmem_ok {K : PySem.W.Frag} {H : Hp} {F : AP} {a b : D} {x y : V} {k : Bool} {Q : VK} (ha : RepD K Γ H F a x) (hb : RepD K Γ H F b y) (h : memD a b = some k) (q : Q (.bl (!k)) H) : roC K .nmem x y H Q := by
  cases b <;> first | (simp only [memD] at h; cases h; done) | skip
  case dct ks ds =>
    simp only [memD] at h
    cases e : a.key with
    | none => rw [e] at h; cases h
    | some z =>
      rw [e] at h; cases h
      obtain ⟨p, xs, e1, l, g, _⟩ := dget_at hb ha e
      exact .inr (.inr ⟨p, _, e1, g, by simp only [dget_has l, Bool.false_eq_true, if_false, if_true]; exact q⟩)
  case lst ds =>
    obtain ⟨p, xs, e1, _, h1, r⟩ := hb
    simp only [memD] at h
    split at h
    · rename_i c
      rw [Bool.and_eq_true] at c
      cases h
      exact .inl ⟨p, xs, e1, .inl (SqL.of h1), flatV_of ha c.1, flatVs_of r c.2, by simp only [inV_of ha c.1 r c.2, Bool.false_eq_true, if_false, if_true]; exact q⟩
    · split at h
      · rename_i _ c
        rw [Bool.and_eq_true] at c
        cases h
        exact .inr (.inl ⟨a.py, D.pys ds, dp_of ha c.1, by rw [e1]; exact .lst (SqL.of h1) (dps_of r c.2), shaped_of c.1, shaped_all c.2, by simp only [any_eqv c.1 c.2, Bool.false_eq_true, if_false, if_true]; exact q⟩)
      · cases h
  case tup ds =>
    obtain ⟨p, xs, e1, h1, r⟩ := hb
    simp only [memD] at h
    split at h
    · rename_i c
      rw [Bool.and_eq_true] at c
      cases h
      exact .inl ⟨p, xs, e1, .inr h1.sq, flatV_of ha c.1, flatVs_of r c.2, by simp only [inV_of ha c.1 r c.2, Bool.false_eq_true, if_false, if_true]; exact q⟩
    · cases h
theorem cmp2_ok {K : PySem.W.Frag} (o : Cm) : ∀ r s t x y H F fx fy, (∀ a, F a → ∃ o, H a = some o) → (∀ a ∈ fx ++ fy, ∃ o, H a = some o) → (∀ a ∈ fx ++ fy, ¬ F a) → (fx ++ fy).Nodup → RepR K Γ H F r x fx → RepR K Γ H F s y fy →
    ((cmp2 o r.d s.d).map fun k => RV.of (.bl k)) = some t → ∀ Q, (∀ z H', OpRes K Γ H F (fx ++ fy) t z H' → Q z H') → roC K o x y H Q := by
  intro r s t x y H F fx fy iF iR dF nd hr hs hf Q hq
  have ha := hr.any
  have hb := hs.any
  generalize r.d = a at hf ha
  generalize s.d = b at hf hb
  cases hc : cmp2 o a b with
  | none => rw [hc] at hf; cases hf
  | some k =>
    rw [hc] at hf; cases hf
    have q : Q (.bl k) H := hq _ _ (op_sc iF fun _ => rfl)
    cases o <;> simp only [cmp2] at hc
    case eq =>
      split at hc
      · rename_i c
        rw [Bool.and_eq_true] at c
        cases hc
        exact ⟨a.py, b.py, dp_of ha c.1, dp_of hb c.2, shaped_of c.1, shaped_of c.2, by rw [eqv_py c.1 c.2]; exact q⟩
      · cases hc
    case ne =>
      split at hc
      · rename_i c
        rw [Bool.and_eq_true] at c
        cases hc
        exact ⟨a.py, b.py, dp_of ha c.1, dp_of hb c.2, shaped_of c.1, shaped_of c.2, by rw [eqv_py c.1 c.2]; exact q⟩
      · cases hc
    case lt => split at hc <;> cases hc; exact ⟨_, _, ha, hb, q⟩
    case le => split at hc <;> cases hc; exact ⟨_, _, ha, hb, q⟩
    case gt => split at hc <;> cases hc; exact ⟨_, _, ha, hb, q⟩
    case ge => split at hc <;> cases hc; exact ⟨_, _, ha, hb, q⟩
    case is =>
      split at hc
      · rename_i c
        cases hc
        have e : y = .non := by
          cases b <;> first | (cases c; done) | exact hb
        exact ⟨e, by rw [non_iff ha]; exact q⟩
      · cases hc
    case isn =>
      split at hc
      · rename_i c
        cases hc
        have e : y = .non := by
          cases b <;> first | (cases c; done) | exact hb
        exact ⟨e, by rw [non_iff ha]; exact q⟩
      · cases hc
    case mem => exact mem_ok ha hb hc q
    case nmem =>
      cases hm : memD a b with
      | none => rw [hm] at hc; cases hc
      | some j => rw [hm] at hc; cases hc; exact nmem_ok ha hb hm q
end
end Pv
/-! Pv: items, slices, attributes, sorting, built-in functions. -/
namespace Pv
open PySem PySem.Spec PyProof.Rows L2
/-! ### sorting -/
theorem insI_perm (x : Int) : ∀ l : List Int, (insI x l).Perm (x :: l)
  | [] => .refl _
  | y :: ys => by
    unfold insI
    split
    · exact .refl _
    · exact ((insI_perm x ys).cons y).trans (List.Perm.swap x y ys)
theorem sortI_perm : ∀ l : List Int, (sortI l).Perm l
  | [] => .refl _
  | x :: xs => (insI_perm x (sortI xs)).trans ((sortI_perm xs).cons x)
theorem insI_sorted (x : Int) : ∀ l : List Int, l.Pairwise (· ≤ ·) → (insI x l).Pairwise (· ≤ ·)
  | [], _ => List.pairwise_singleton _ _
  | y :: ys, h => by
    unfold insI
    split
    · rename_i c
      exact .cons (fun z hz => by
        rcases List.mem_cons.mp hz with rfl | hz
        · exact c
        · exact Int.le_trans c ((List.pairwise_cons.mp h).1 z hz)) h
    · rename_i c
      refine .cons (fun z hz => ?_) (insI_sorted x ys (List.pairwise_cons.mp h).2)
      rcases List.mem_cons.mp ((insI_perm x ys).mem_iff.mp hz) with rfl | hz
      · omega
      · exact (List.pairwise_cons.mp h).1 z hz
theorem sortI_sorted : ∀ l : List Int, (sortI l).Pairwise (· ≤ ·)
  | [] => .nil
  | x :: xs => insI_sorted x _ (sortI_sorted xs)
theorem sortI_uniq {a b : List Int} (h : a.Perm b) (s : a.Pairwise (· ≤ ·)) : a = sortI b := PySem.W.ksm_same (h.trans (sortI_perm b).symm) s (sortI_sorted b)
theorem leP_total (p q : Int × Int) : leP p q = true ∨ leP q p = true := by
  unfold leP
  by_cases h : p.1 = q.1
  · rw [if_pos h, if_pos h.symm, decide_eq_true_eq, decide_eq_true_eq]; omega
  · rw [if_neg h, if_neg (Ne.symm h), decide_eq_true_eq, decide_eq_true_eq]; omega
theorem leP_iff {p q : Int × Int} : leP p q = true ↔ p.1 < q.1 ∨ (p.1 = q.1 ∧ p.2 ≤ q.2) := by
  unfold leP
  by_cases h : p.1 = q.1
  · rw [if_pos h, decide_eq_true_eq]; omega
  · rw [if_neg h, decide_eq_true_eq]; omega
theorem leP_trans {p q r : Int × Int} (h : leP p q = true) (h' : leP q r = true) : leP p r = true := by
  rw [leP_iff] at h h' ⊢; omega
theorem leP_anti {p q : Int × Int} (h : leP p q = true) (h' : leP q p = true) : p = q := by
  rw [leP_iff] at h h'
  exact Prod.ext (by omega) (by omega)
theorem insP_perm (x : Int × Int) : ∀ l, (insP x l).Perm (x :: l)
  | [] => .refl _
  | y :: ys => by
    unfold insP
    split
    · exact .refl _
    · exact ((insP_perm x ys).cons y).trans (List.Perm.swap x y ys)
theorem sortP_perm : ∀ l, (sortP l).Perm l
  | [] => .refl _
  | x :: xs => (insP_perm x (sortP xs)).trans ((sortP_perm xs).cons x)
theorem insP_sorted (x : Int × Int) : ∀ l, l.Pairwise (fun a b => leP a b = true) → (insP x l).Pairwise (fun a b => leP a b = true)
  | [], _ => List.pairwise_singleton _ _
  | y :: ys, h => by
    unfold insP
    split
    · rename_i c
      exact .cons (fun z hz => by
        rcases List.mem_cons.mp hz with rfl | hz
        · exact c
        · exact leP_trans c ((List.pairwise_cons.mp h).1 z hz)) h
    · rename_i c
      refine .cons (fun z hz => ?_) (insP_sorted x ys (List.pairwise_cons.mp h).2)
      rcases List.mem_cons.mp ((insP_perm x ys).mem_iff.mp hz) with rfl | hz
      · exact (leP_total z y).elim (fun q => absurd q c) id
      · exact (List.pairwise_cons.mp h).1 z hz
theorem sortP_sorted : ∀ l, (sortP l).Pairwise (fun a b => leP a b = true)
  | [] => .nil
  | x :: xs => insP_sorted x _ (sortP_sorted xs)
theorem sortP_uniq {a b : List (Int × Int)} (h : a.Perm b) (s : a.Pairwise (fun a b => leP a b = true)) : a = sortP b :=
  (h.trans (sortP_perm b).symm).eq_of_pairwise (fun x y _ _ h1 h2 => leP_anti h1 h2) s (sortP_sorted b)
theorem maxI_of : ∀ {l : List Int} {m : Int}, m ∈ l → (∀ y ∈ l, y ≤ m) → maxI l = some m
  | [], _, h, _ => by cases h
  | [x], m, h, _ => by rw [List.mem_singleton.mp h]; rfl
  | x :: y :: ys, m, h, a => by
    show (maxI (y :: ys)).map _ = some m
    by_cases c : m ∈ y :: ys
    · rw [maxI_of c fun z hz => a z (List.mem_cons_of_mem _ hz)]
      have := a x List.mem_cons_self
      show some (if m ≤ x then x else m) = some m
      split
      · congr 1; omega
      · rfl
    · rcases List.mem_cons.mp h with rfl | h
      · cases e : maxI (y :: ys) with
        | none => cases ys <;> simp [maxI] at e; rename_i z zs; cases h2 : maxI (z :: zs) <;> simp [h2] at e; exact absurd h2 (by have := @maxI_some z zs; intro q; rw [q] at this; simp at this)
        | some k =>
          show some (if k ≤ m then m else k) = some m
          have hk : k ∈ y :: ys := maxI_mem e
          have := a k (List.mem_cons_of_mem _ hk)
          rw [if_pos this]
      · exact absurd h c
where
  maxI_some : ∀ {z : Int} {zs : List Int}, (maxI (z :: zs)).isSome = true
    | _, [] => rfl
    | z, y :: ys => by show ((maxI (y :: ys)).map _).isSome = true; rw [Option.isSome_map]; exact maxI_some
  maxI_mem : ∀ {l : List Int} {k : Int}, maxI l = some k → k ∈ l
    | [], _, h => by cases h
    | [x], k, h => by cases h; exact List.mem_cons_self
    | x :: y :: ys, k, h => by
      have h' : (maxI (y :: ys)).map (fun y => if y ≤ x then x else y) = some k := h
      cases e : maxI (y :: ys) with
      | none => rw [e] at h'; cases h'
      | some j =>
        rw [e] at h'
        have h2 : (if j ≤ x then x else j) = k := Option.some.inj h'
        split at h2
        · rw [← h2]; exact List.mem_cons_self
        · rw [← h2]; exact List.mem_cons_of_mem _ (maxI_mem e)
theorem minI_of : ∀ {l : List Int} {m : Int}, m ∈ l → (∀ y ∈ l, m ≤ y) → minI l = some m
  | [], _, h, _ => by cases h
  | [x], m, h, _ => by rw [List.mem_singleton.mp h]; rfl
  | x :: y :: ys, m, h, a => by
    show (minI (y :: ys)).map _ = some m
    by_cases c : m ∈ y :: ys
    · rw [minI_of c fun z hz => a z (List.mem_cons_of_mem _ hz)]
      have := a x List.mem_cons_self
      show some (if x ≤ m then x else m) = some m
      split
      · congr 1; omega
      · rfl
    · rcases List.mem_cons.mp h with rfl | h
      · obtain ⟨k, e⟩ := Option.isSome_iff_exists.mp (@minI_some y ys)
        rw [e]
        show some (if m ≤ k then m else k) = some m
        rw [if_pos (a k (List.mem_cons_of_mem _ (minI_mem e)))]
      · exact absurd h c
where
  minI_some : ∀ {z : Int} {zs : List Int}, (minI (z :: zs)).isSome = true
    | _, [] => rfl
    | z, y :: ys => by show ((minI (y :: ys)).map _).isSome = true; rw [Option.isSome_map]; exact minI_some
  minI_mem : ∀ {l : List Int} {k : Int}, minI l = some k → k ∈ l
    | [], _, h => by cases h
    | [x], k, h => by cases h; exact List.mem_cons_self
    | x :: y :: ys, k, h => by
      have h' : (minI (y :: ys)).map (fun y => if x ≤ y then x else y) = some k := h
      cases e : minI (y :: ys) with
      | none => rw [e] at h'; cases h'
      | some j =>
        rw [e] at h'
        have h2 : (if x ≤ j then x else j) = k := Option.some.inj h'
        split at h2
        · rw [← h2]; exact List.mem_cons_self
        · rw [← h2]; exact List.mem_cons_of_mem _ (minI_mem e)

section
variable {K : PySem.W.Frag} {Γ : Gm} {H H' : Hp} {F F' : AP} {r s t : RV} {v x y z : V} {fp fr : List Addr}
theorem RepR.seq {ds : List D} (h : RepR K Γ H F r x fp) (e : r.seq? = some ds) : ∃ a vs, x = .ref a ∧ (SqL K H a vs ∨ SqT K H a vs) ∧ RepDs K Γ H (fun c => F c ∨ c ∈ fp) ds vs := by
  unfold RV.seq? at e
  split at e
  · rename_i es he
    cases e
    obtain ⟨a, vs, e1, e2, q⟩ := h.lst he
    exact ⟨a, vs, e1, .inl (SqL.of e2), q⟩
  · split at e
    · rename_i es he
      cases e
      unfold RV.tup? at he
      split at he
      · rename_i ds hm
        cases he
        obtain ⟨⟨a, xs, e1, h1, q⟩, _⟩ := h.fzd hm
        exact ⟨a, xs, e1, .inr h1.sq, q.ext (.of (fun _ h => .inl h) fun _ _ _ q => q)⟩
      · cases he
    · split at e
      · rename_i ns hm
        cases e
        obtain ⟨⟨a, e1, h1⟩, _⟩ := h.fzd hm
        exact ⟨a, _, e1, .inl h1.1, RepDs.of_ints ns⟩
      · cases e
theorem RepR.node {m : M} (h : RepR K Γ H F r x fp) (e : r.m = m) (n : m.isNode = true) : ∃ fq, (if r.al = true then RepM K Γ false H F m x fq else RepM K Γ true H F m x fq) ∧ (r.al = false → fq = fp) := by
  obtain ⟨m', al⟩ := r
  obtain rfl : m' = m := e
  unfold RepR at h
  cases al with
  | true => rw [if_pos rfl] at h; obtain ⟨_, fq, hm⟩ := h; exact ⟨fq, by rw [if_pos rfl]; exact hm, fun z => nomatch z⟩
  | false => rw [if_neg (by simp)] at h; exact ⟨fp, by rw [if_neg (by simp)]; exact h, fun _ => rfl⟩
theorem lookup_fget {α : Type} : ∀ {ns : List Str} {xs : List α} {f : Str}, (ns.zip xs).lookup f = fget ns xs f
  | [], _, _ => rfl
  | _ :: _, [], _ => rfl
  | a :: ns, x :: xs, f => by
    unfold fget
    rw [List.zip_cons_cons, List.lookup_cons]
    by_cases c : f = a
    · rw [if_pos c, c]; simp
    · rw [if_neg c, beq_eq_false_iff_ne.mpr c]; exact lookup_fget
theorem fget_rep : ∀ {ns : List Str} {ds : List D} {vs : List V} {k : Str} {d : D}, RepDs K Γ H F ds vs → fget ns ds k = some d → ∃ v, fget ns vs k = some v ∧ RepD K Γ H F d v
  | [], _, _, _, _, _, h => by unfold fget at h; cases h
  | _ :: _, [], _, _, _, _, h => by unfold fget at h; cases h
  | a :: ks, d :: ds, _, k, d', ⟨x, r, e, h, q⟩, c => by
    unfold fget at c
    rw [e]
    unfold fget
    split at c
    · rename_i hk; cases c; exact ⟨x, by rw [if_pos hk], h⟩
    · rename_i hk; obtain ⟨v, h1, h2⟩ := fget_rep q c; exact ⟨v, by rw [if_neg hk]; exact h1, h2⟩
theorem fget_repM {b : Bool} : ∀ {ks : List Str} {ms : List M} {vs : List V} {fp : List Addr} {k : Str} {m : M}, RepMs K Γ b H F ms vs fp → fget ks ms k = some m → ∃ v fq, fget ks vs k = some v ∧ RepM K Γ b H F m v fq ∧ fq.Sublist fp
  | [], _, _, _, _, _, _, h => by unfold fget at h; cases h
  | _ :: _, [], _, _, _, _, _, h => by unfold fget at h; cases h
  | a :: ks, d :: ds, _, _, k, d', ⟨x, r, f1, f2, e, ef, h, q⟩, c => by
    unfold fget at c
    rw [e, ef]
    unfold fget
    split at c
    · rename_i hk; cases c; exact ⟨x, f1, by rw [if_pos hk], h, List.sublist_append_left _ _⟩
    · rename_i hk; obtain ⟨v, fq, h1, h2, h3⟩ := fget_repM q c; exact ⟨v, fq, by rw [if_neg hk]; exact h1, h2, h3.trans (List.sublist_append_right _ _)⟩
end

section
variable {X : Cx} {Γ : Gm}
def rDIx : R2 := fun x y H Q => ∃ a v, x = .ref a ∧ DGet H a y (some v) ∧ Q v H
theorem ix_dict (hu : X.A.units + 1 < cLine) : IxR X rDIx := by
  intro value slice pins s σ H x y v u Q I rx ry ⟨a, z, ex, g, q⟩ hs
  subst ex
  obtain rfl : v = Value.ref a := rx
  have hT := dict_typeIs I g
  unfold subscriptTail
  refine wpAny_bind ?_
  rw [getitemInPython_of_ne hT.not_modules]
  refine wpAny_bind (wpAny_specialOf hT PySem.F.slot_dict_getitem.lookup ?_)
  have fin : wpAny (model X.prog X.w) X.A (subscripted slice false (.ref a) u) (fun r s₃ => wpAny (model X.prog X.w) X.A (letTemporaryGo value (.ref a) r >>= fun _ => pure r) (EP X pins σ Q) X.xe s₃) X.xe s := by
    rw [hs]
    exact wpAny_operating (wpAny_mono (d_getItem (E := X.xe) (Q := EP X pins σ Q) hu I g ry fun w' s3 I3 rw' => ⟨z, H, I3, rw', q⟩) (fun r s₃ h₃ => wpAny_bind (wpAny_letTemporaryGo (wpAny_pure h₃))) fun _ _ x => x)
  first
    | exact wpAny_pure (wpAny_bind fin)
    | exact wpAny_bind (wpAny_pure (wpAny_bind fin))
    | exact wpAny_bind fin
def roIx (K : PySem.W.Frag) : R2 := fun x y H Q => rIx K x y H Q ∨ rDIx x y H Q
theorem roIx_ok (hu : X.A.units + 1 < cLine) : IxR X (roIx X.K) := ix_seq.or (ix_dict hu)
theorem subR_ok {K : PySem.W.Frag} : ∀ r s t x y H F fx fy, (∀ a, F a → ∃ o, H a = some o) → (∀ a ∈ fx ++ fy, ∃ o, H a = some o) → (∀ a ∈ fx ++ fy, ¬ F a) → (fx ++ fy).Nodup → RepR K Γ H F r x fx → RepR K Γ H F s y fy →
    subR r s.d = some t → ∀ Q, (∀ z H', OpRes K Γ H F (fx ++ fy) t z H' → Q z H') → roIx K x y H Q := by
  intro r s t x y H F fx fy iF iR dF nd hr hs hf Q hq
  have hb := hs.any
  generalize s.d = b at hf hb
  unfold subR at hf
  split at hf
  · rename_i ds k hm
    obtain ⟨⟨a, xs, e1, _, h1, q⟩, _⟩ := hr.fzd hm
    cases e : atI ds k with
    | none => rw [e] at hf; cases hf
    | some d =>
      rw [e] at hf; cases hf
      obtain ⟨v, e2, h2⟩ := atI_rep q e
      exact .inl (.inl ⟨a, xs, k, v, e1, hb, SqL.of h1, e2, hq _ _ (OpRes.data iF h2)⟩)
  · rename_i ds k hm
    obtain ⟨⟨a, xs, e1, h1, q⟩, _⟩ := hr.fzd hm
    cases e : atI ds k with
    | none => rw [e] at hf; cases hf
    | some d =>
      rw [e] at hf; cases hf
      obtain ⟨v, e2, h2⟩ := atI_rep q e
      exact .inl (.inr (.inl ⟨a, xs, k, v, e1, hb, h1.sq, e2, hq _ _ (OpRes.data iF h2)⟩))
  · rename_i ns k hm
    obtain ⟨⟨a, e1, h1⟩, _⟩ := hr.fzd hm
    cases e : atI ns k with
    | none => rw [e] at hf; cases hf
    | some n =>
      rw [e] at hf; cases hf
      have e2 : atI (ns.map V.int) k = some (.int n) := by
        unfold atI at e ⊢
        rw [List.length_map]
        cases c : ixN ns.length k with
        | none => rw [c] at e; cases e
        | some j =>
          rw [c] at e
          have e' : ns[j]? = some n := e
          show (ns.map V.int)[j]? = _
          rw [List.getElem?_map, e']; rfl
      exact .inl (.inl ⟨a, _, k, .int n, e1, hb, h1.1, e2, hq _ _ (op_sc iF fun _ => rfl)⟩)
  · rename_i k _ _ ks vs hm
    obtain ⟨hd, _⟩ := hr.fzd hm
    cases ek : k.key with
    | none => rw [ek] at hf; cases hf
    | some z =>
      rw [ek] at hf
      have hf' : (dget ks vs z).map RV.of = some t := hf
      cases e : dget ks vs z with
      | none => rw [e] at hf'; cases hf'
      | some d =>
        rw [e] at hf'; cases hf'
        have hb' : RepD K Γ H Any k y := hb
        obtain ⟨a, xs, e1, _, h1, l, q⟩ := hd
        obtain ⟨v, e2, h2⟩ := dget_rep q e
        exact .inr ⟨a, v, e1, .inl ⟨_, z, h1, key_kV hb' ek, by rw [valV_dget (α := Nat) l, e2]⟩, hq _ _ (OpRes.data iF h2)⟩
  · rename_i ms k hm
    obtain ⟨fq, hn, el⟩ := hr.node hm rfl
    cases e : atI ms k with
    | none => rw [e] at hf; cases hf
    | some m =>
      rw [e] at hf; cases hf
      cases hal : r.al with
      | true =>
        rw [hal, if_pos rfl] at hn
        obtain ⟨a, xs, fs, e1, e2, h1, q⟩ := hn
        obtain ⟨v, f2, e3, h2, sl⟩ := atI_repM q e
        exact .inl (.inl ⟨a, xs, k, v, e1, hb, SqL.of h1, e3, hq _ _ (by rw [hal]; exact op_part (al := true) (fq := f2) iF (fun z => nomatch z) nd dF (by rw [if_pos rfl]; exact h2))⟩)
      | false =>
        rw [hal, if_neg (by simp)] at hn
        obtain ⟨a, xs, fs, e1, e2, h1, q⟩ := hn
        obtain ⟨v, f2, e3, h2, sl⟩ := atI_repM q e
        have sub : f2.Sublist (fx ++ fy) := by
          rw [← el hal, e2]
          exact (sl.trans (List.sublist_cons_self _ _)).trans (List.sublist_append_left _ _)
        exact .inl (.inl ⟨a, xs, k, v, e1, hb, SqL.of h1, e3, hq _ _ (by rw [hal]; exact op_part (al := false) (fq := f2) iF (fun _ => sub) nd dF (by rw [if_neg (by simp)]; exact h2))⟩)
  · rename_i ms k hm
    obtain ⟨fq, hn, el⟩ := hr.node hm rfl
    cases e : atI ms k with
    | none => rw [e] at hf; cases hf
    | some m =>
      rw [e] at hf; cases hf
      cases hal : r.al with
      | true =>
        rw [hal, if_pos rfl] at hn
        obtain ⟨a, xs, fs, e1, e2, h1, q⟩ := hn
        obtain ⟨v, f2, e3, h2, sl⟩ := atI_repM q e
        exact .inl (.inr (.inl ⟨a, xs, k, v, e1, hb, SqT.of h1, e3, hq _ _ (by rw [hal]; exact op_part (al := true) (fq := f2) iF (fun z => nomatch z) nd dF (by rw [if_pos rfl]; exact h2))⟩))
      | false =>
        rw [hal, if_neg (by simp)] at hn
        obtain ⟨a, xs, fs, e1, e2, h1, q⟩ := hn
        obtain ⟨v, f2, e3, h2, sl⟩ := atI_repM q e
        have sub : f2.Sublist (fx ++ fy) := by
          rw [← el hal, e2]
          exact (sl.trans (List.sublist_cons_self _ _)).trans (List.sublist_append_left _ _)
        exact .inl (.inr (.inl ⟨a, xs, k, v, e1, hb, SqT.of h1, e3, hq _ _ (by rw [hal]; exact op_part (al := false) (fq := f2) iF (fun _ => sub) nd dF (by rw [if_neg (by simp)]; exact h2))⟩))
  · rename_i k _ _ ks ms hm
    obtain ⟨fq, hn, el⟩ := hr.node hm rfl
    cases ek : k.key with
    | none => rw [ek] at hf; cases hf
    | some z =>
      rw [ek] at hf
      have hf' : (dget ks ms z).map (fun m => (⟨m, r.al⟩ : RV)) = some t := hf
      cases e : dget ks ms z with
      | none => rw [e] at hf'; cases hf'
      | some m =>
        rw [e] at hf'; cases hf'
        have hb' : RepD K Γ H Any k y := hb
        cases hal : r.al with
        | true =>
          rw [hal, if_pos rfl] at hn
          obtain ⟨a, xs, fs, e1, e2, h1, l, q⟩ := hn
          obtain ⟨v, f2, e3, h2, sl⟩ := dget_repM q e
          exact .inr ⟨a, v, e1, .inl ⟨_, z, h1, key_kV hb' ek, by rw [valV_dget (α := Nat) l, e3]⟩, hq _ _ (by rw [hal]; exact op_part (al := true) (fq := f2) iF (fun z => nomatch z) nd dF (by rw [if_pos rfl]; exact h2))⟩
        | false =>
          rw [hal, if_neg (by simp)] at hn
          obtain ⟨a, xs, fs, e1, e2, h1, l, q⟩ := hn
          obtain ⟨v, f2, e3, h2, sl⟩ := dget_repM q e
          have sub : f2.Sublist (fx ++ fy) := by
            rw [← el hal, e2]
            exact (sl.trans (List.sublist_cons_self _ _)).trans (List.sublist_append_left _ _)
          exact .inr ⟨a, v, e1, .inl ⟨_, z, .inl h1, key_kV hb' ek, by rw [valV_dget (α := Nat) l, e3]⟩, hq _ _ (by rw [hal]; exact op_part (al := false) (fq := f2) iF (fun _ => sub) nd dF (by rw [if_neg (by simp)]; exact h2))⟩
  · cases hf
/-- the attribute's rule, by value -/
def roFld (K : PySem.W.Frag) (f : Str) : V → Hp → VK → Prop := fun x H Q => ∃ a C dx fs v, x = .ref a ∧ H a = some (.ins C dx fs) ∧ L2.Cls K C ∧ NoAttr K C f ∧ fs.lookup f = some v ∧ Q v H
theorem attrR_ok {K : PySem.W.Frag} {f : Str} (hc : ∀ c, L2.Cls K (Γ.cls c)) (hn : ∀ c, NoAttr K (Γ.cls c) f) : ∀ r t x H F fx, (∀ a, F a → ∃ o, H a = some o) → (∀ a ∈ fx, ∃ o, H a = some o) → (∀ a ∈ fx, ¬ F a) → fx.Nodup → RepR K Γ H F r x fx →
    attrR r f = some t → ∀ Q, (∀ z H', OpRes K Γ H F fx t z H' → Q z H') → roFld K f x H Q := by
  intro r t x H F fx iF iR dF nd hr hf Q hq
  unfold attrR at hf
  split at hf
  · rename_i c fs vs hm
    obtain ⟨⟨a, dx, xs, e1, _, h1, l, q⟩, _⟩ := hr.fzd hm
    cases e : fget fs vs f with
    | none => rw [e] at hf; cases hf
    | some d =>
      rw [e] at hf; cases hf
      obtain ⟨v, e2, h2⟩ := fget_rep q e
      exact ⟨a, _, dx, _, v, e1, h1, hc c, hn c, by rw [lookup_fget, e2], hq _ _ (OpRes.data iF h2)⟩
  · rename_i c fs ms hm
    obtain ⟨fq, hn', el⟩ := hr.node hm rfl
    cases e : fget fs ms f with
    | none => rw [e] at hf; cases hf
    | some m =>
      rw [e] at hf; cases hf
      cases hal : r.al with
      | true =>
        rw [hal, if_pos rfl] at hn'
        obtain ⟨a, dx, xs, fs', e1, e2, h1, l, q⟩ := hn'
        obtain ⟨v, f2, e3, h2, sl⟩ := fget_repM q e
        exact ⟨a, _, dx, _, v, e1, h1, hc c, hn c, by rw [lookup_fget, e3], hq _ _ (by rw [hal]; exact op_part (al := true) (fq := f2) iF (fun z => nomatch z) nd dF (by rw [if_pos rfl]; exact h2))⟩
      | false =>
        rw [hal, if_neg (by simp)] at hn'
        obtain ⟨a, dx, xs, fs', e1, e2, h1, l, q⟩ := hn'
        obtain ⟨v, f2, e3, h2, sl⟩ := fget_repM q e
        have sub : f2.Sublist fx := by
          rw [← el hal, e2]
          exact sl.trans (List.sublist_cons_self _ _)
        exact ⟨a, _, dx, _, v, e1, h1, hc c, hn c, by rw [lookup_fget, e3], hq _ _ (by rw [hal]; exact op_part (al := false) (fq := f2) iF (fun _ => sub) nd dF (by rw [if_neg (by simp)]; exact h2))⟩
  · cases hf
end
end Pv
/-! Pv: slices, built-in functions and methods. -/
namespace Pv
open PySem L2
section
variable {K : PySem.W.Frag} {Γ : Gm} {W : WX} {H H' H1 H2 : Hp} {F F' F1 F2 G G' P P' : AP} {e e' e1 e2 env : Env} {σ : St} {ow ow' ow1 ow2 fp fr fx fy : List Addr} {r s t : RV} {v x y z : V}
/-- a receiver, then arguments -/
theorem rd_bm {oa : Env → Out RV} {os : Env → Out (List RV)} {pa ps : Bool} {f : RV → List RV → Option RV} {Q : V → Hp → Prop} {ro : V → List V → Hp → VK → Prop} {pty : D → Bool}
    (h : rdE K Γ W (fun e => (oa e).bind fun r e => if (r.loose && !ps) = true then Out.stuck else if pty r.d = true then (os e).bind fun rs e => Out.of e (f r rs) else Out.stuck) (pa && ps) σ H Q)
    (hf : ∀ r rs t x vs H F fx fy, (∀ a, F a → ∃ o, H a = some o) → (∀ a ∈ fx ++ fy, ∃ o, H a = some o) → (∀ a ∈ fx ++ fy, ¬ F a) → (fx ++ fy).Nodup → RepR K Γ H F r x fx → RepRs K Γ H F rs vs fy → f r rs = some t → ∀ Q, (∀ z H', OpRes K Γ H F (fx ++ fy) t z H' → Q z H') → ro x vs H Q) :
    rdE K Γ W oa pa σ H fun x H1 => (∃ r F fp, pty r.d = true ∧ RepR K Γ H1 F r x fp) ∧ rdL K Γ W os ps σ H1 fun xs H2 => ro x xs H2 Q := by
  obtain ⟨F, G, P, env, ow, R, k⟩ := h
  refine ⟨F, G, P, env, ow, R, ?_⟩
  cases ha : oa env with
  | stuck => simp only [ha, Out.bind] at k; exact k
  | exc c ds e1 => simp only [ha, Out.bind] at k; exact k
  | ok r e1 =>
    simp only [ha, Out.bind] at k
    intro v H1 ⟨F1, ow1, fp1, R1, S1, T1, q1, l1, lr1⟩ pu1
    cases hl : (r.loose && !ps) with
    | true => simp only [hl, if_true] at k; exact k.elim
    | false =>
      simp only [hl, Bool.false_eq_true, if_false] at k
      cases hty : pty r.d with
      | false => simp only [hty, Bool.false_eq_true, if_false] at k; exact k.elim
      | true =>
      simp only [hty, if_true] at k
      refine ⟨⟨r, F1, fp1, hty, q1⟩, F1, G, _, e1, ow1, R1.push S1, ?_⟩
      cases hs : os e1 with
      | stuck => simp only [hs] at k; exact k.elim
      | exc c ds e2 =>
        simp only [hs] at k
        exact fun cls d H2 x => k cls d H2 (x.after T1 l1 lr1)
      | ok rs e2 =>
        simp only [hs] at k
        cases ht : f r rs with
        | none => simp only [ht, Out.of] at k; exact k.elim
        | some t =>
          simp only [ht, Out.of] at k
          intro vs H2 h2 pu2
          have hc := Res.cons R1 S1 T1 q1 l1 lr1 h2 fun lo => by
            rw [lo] at hl
            have : ps = true := by simpa using hl
            exact (pu2 this).2
          obtain ⟨F2, ow2, fr, R2, S2, T2, q2, l2, lr2⟩ := hc
          obtain ⟨v', w', f1, f2, ev, ef, qa, qb⟩ := q2
          obtain rfl : v = v' := (List.cons.inj ev).1
          obtain rfl : vs = w' := (List.cons.inj ev).2
          subst ef
          refine hf r rs t v vs H2 F2 f1 f2 R2.iF S2.has S2.dF S2.nd qa qb ht Q fun z H3 op => k z H3 (fin R2 S2 T2 l2 lr2 op) fun pp => ?_
          rw [Bool.and_eq_true] at pp
          obtain ⟨a1, b1⟩ := pu1 pp.1
          obtain ⟨a2, b2⟩ := pu2 pp.2
          obtain ⟨F3, fp, _, _, kp, _⟩ := op
          exact ⟨a2.trans a1, fun a o q => kp a o (b2 a o (b1 a o q))⟩
/-- the lists, one by one -/
theorem RepRs.one {vs : List V} (h : RepRs K Γ H F [r] vs fp) : ∃ v, vs = [v] ∧ RepR K Γ H F r v fp := by
  obtain ⟨v, t, f1, f2, e1, e2, q, e3, e4⟩ := h
  subst e3 e4
  rw [List.append_nil] at e2
  subst e2
  exact ⟨v, e1, q⟩
theorem RepRs.two {vs : List V} (h : RepRs K Γ H F [r, s] vs fp) : ∃ v w f1 f2, vs = [v, w] ∧ fp = f1 ++ f2 ∧ RepR K Γ H F r v f1 ∧ RepR K Γ H F s w f2 := by
  obtain ⟨v, t, f1, f2, e1, e2, q, h⟩ := h
  obtain ⟨w, e3, q2⟩ := h.one
  subst e3
  exact ⟨v, w, f1, f2, e1, e2, q, q2⟩
theorem cut_rep {ds : List D} {vs : List V} (h : RepDs K Γ H F ds vs) (l u : Option Int) : RepDs K Γ H F (cutL ds l u) (cutV vs l u) := by
  unfold cutL cutV
  rw [← h.len]
  exact (h.drop _).take _
theorem cut_ints (ns : List Int) (l u : Option Int) : cutV (ns.map V.int) l u = (cutL ns l u).map V.int := by
  unfold cutL cutV
  rw [List.length_map, ← List.map_drop, ← List.map_take]
/-- a slice's rule -/
def roSl (K : PySem.W.Frag) : V → Option Int → Option Int → Hp → VK → Prop := fun x lo hi H Q => rSlL K x lo hi H Q ∨ rSlT K x lo hi H Q
theorem roSl_ok {X : Cx} : SlR X (roSl X.K) := sl_list.or sl_tup
theorem cutR_ok {l u : Option Int} (iF : ∀ a, F a → ∃ o, H a = some o) (iR : ∀ a ∈ fr, ∃ o, H a = some o) (hs : ∀ a ∈ fx, a ∈ fr) (hr : RepR K Γ H F r x fx) (hf : cutR r l u = some t) (Q : VK) (hq : ∀ z H', OpRes K Γ H F fr t z H' → Q z H') : roSl K x l u H Q := by
  unfold cutR at hf
  split at hf
  · rename_i ds hd
    cases hf
    obtain ⟨a, vs, e1, e2, q⟩ := hr.lst hd
    exact .inl ⟨a, vs, e1, SqL.of e2, fun p hp => hq _ _ (op_new iF iR hp ((cut_rep q l u).ext (.of (fun _ h => h.elim .inl fun h => .inr (hs _ h)) fun _ _ _ q => q)))⟩
  · split at hf
    · rename_i ns hm
      cases hf
      obtain ⟨⟨a, e1, h1⟩, _⟩ := hr.fzd hm
      exact .inl ⟨a, _, e1, h1.1, fun p hp => hq _ _ (op_new iF iR hp (by rw [cut_ints]; exact RepDs.of_ints _))⟩
    · rename_i ds hm
      split at hf
      · cases hf
      · rename_i c
        cases hf
        obtain ⟨⟨a, xs, e1, h1, q⟩, _⟩ := hr.fzd hm
        exact .inr ⟨a, xs, e1, h1.sq, by rw [← q.len]; exact c, fun p hp => hq _ _ (op_tup iF iR hp ((cut_rep q l u).ext (.of (fun _ h => .inl h) fun _ _ _ q => q)))⟩
    · cases hf
theorem RV.i_of {i : Int} (h : r.i? = some i) (hr : RepR K Γ H F r x fp) : x = .int i := by
  unfold RV.i? at h
  split at h
  · rename_i j e; cases h; exact hr.int e
  · cases h
end
end Pv
/-! Pv: built-in functions and methods by value. -/
namespace Pv
open PySem L2
section
variable {X : Cx} {Γ : Gm} {K : PySem.W.Frag} {H H' : Hp} {F F' : AP} {r s t : RV} {v x y z : V} {fp fr fx fy : List Addr}
theorem call_lenDR : CallR X (.builtin "len") (fun xs H Q => ∃ a kvs, xs = [V.ref a] ∧ Rd H a (.dK kvs) ∧ Q (.int kvs.length) H) := by
  intro pins s σ H xs us Q I r h
  obtain ⟨a, kvs, rfl, ha, q⟩ := h
  obtain ⟨u, rfl, ru⟩ := vals1 r
  cases ru
  exact d_len I ha fun t s' I' => ⟨.int kvs.length, H, I', ⟨t, rfl⟩, q⟩
def biV : Bi → Value
  | .len => .builtin "len" | .sum => .builtin "sum" | .max1 => .builtin "max" | .min1 => .builtin "min" | .max2 => .builtin "max" | .min2 => .builtin "min"
  | .abs => .builtin "abs" | .all => .builtin "all" | .any => .builtin "any" | .int => .type "int" | .list => .type "list" | .tuple => .type "tuple"
  | .sorted => .builtin "sorted" | .set => .type "set" | .isi _ => .builtin "isinstance" | .lrange1 => .type "list" | .lrange2 => .type "list" | .dict => .type "dict"
def roBi (K : PySem.W.Frag) : Bi → List V → Hp → VK → Prop
  | .len => fun xs H Q => (∃ p ys, xs = [.ref p] ∧ (SqL K H p ys ∨ SqT K H p ys) ∧ Q (.int ys.length) H) ∨ ∃ a kvs, xs = [V.ref a] ∧ Rd H a (.dK kvs) ∧ Q (.int kvs.length) H
  | .sum => rSum K
  | .max1 => rMax K
  | .min1 => rMin K
  | .max2 => fun xs H Q => ∃ i j, xs = [.int i, .int j] ∧ Q (.int (if j > i then j else i)) H
  | .min2 => fun xs H Q => ∃ i j, xs = [.int i, .int j] ∧ Q (.int (if j < i then j else i)) H
  | .abs => fun xs H Q => ∃ i, xs = [.int i] ∧ Q (.int (if i < 0 then -i else i)) H
  | .all => rAll K
  | .any => rAny K
  | .int => fun xs H Q => (∃ i, xs = [.int i] ∧ Q (.int i) H) ∨ ∃ k, xs = [.bl k] ∧ Q (.int (if k then 1 else 0)) H
  | .list => fun xs H Q => ∃ p ys, xs = [.ref p] ∧ (SqL K H p ys ∨ SqT K H p ys) ∧ ∀ l, H l = none → Q (.ref l) (upd H l (.lst ys))
  | .tuple => fun xs H Q => ∃ p ys, xs = [.ref p] ∧ ((SqL K H p ys ∧ ∀ l, H l = none → Q (.ref l) (upd H l (.tup ys))) ∨ (SqT K H p ys ∧ Q (.ref p) H))
  | .sorted => fun xs H Q => rSortedI K xs H Q ∨ rSortedPO K xs H Q ∨ ∃ (a : Addr) (kvs : List (Key × V)) (ks : List Int), xs = [.ref a] ∧ Rd H a (.dK kvs) ∧ kvs.map (·.1) = ks.map Sum.inl ∧ ks.length < 64 ∧
      ∀ (ys : List Int) (p : Addr), ys.Perm ks → ys.Pairwise (· ≤ ·) → H p = none → Q (.ref p) (upd H p (.lst (ys.map V.int)))
  | _ => fun _ _ _ => False
theorem roBi_ok (hc : X.calm = true) : ∀ b, CallR X (biV b) (roBi X.K b)
  | .len => call_len_seq.or call_lenDR
  | .sum => cr_sum hc | .max1 => cr_max hc | .min1 => cr_min hc | .max2 => call_max2 hc | .min2 => call_min2 hc | .abs => call_abs
  | .all => cr_all hc | .any => cr_any hc | .int => call_int1 | .list => call_list_of | .tuple => call_tuple_of
  | .sorted => cr_sortedI.or (cr_sortedPO.or (call_sortedDI hc))
  | .set => fun _ _ _ _ _ _ _ _ _ h => h.elim
  | .isi _ => fun _ _ _ _ _ _ _ _ _ h => h.elim
  | .lrange1 => fun _ _ _ _ _ _ _ _ _ h => h.elim
  | .lrange2 => fun _ _ _ _ _ _ _ _ _ h => h.elim
  | .dict => fun _ _ _ _ _ _ _ _ _ h => h.elim
theorem lstAny {ds : List D} (h : RepR K Γ H F r x fp) (e : r.d = .lst ds) : ∃ a vs, x = .ref a ∧ H a = some (.lst vs) ∧ RepDs K Γ H Any ds vs := by
  have q := h.any
  rw [e] at q
  obtain ⟨a, vs, e1, _, e2, q⟩ := q
  exact ⟨a, vs, e1, e2, q⟩
theorem pairs_of {vs : List V} : ∀ {ds : List D} {vs : List V} {ps : List (Int × Int)}, RepDs K Γ H F ds vs → pairs? ds = some ps →
    ds = ps.map pairD ∧ (∀ (i : Nat) v, vs[i]? = some v → ∃ t p, ps[i]? = some p ∧ v = .ref t ∧ H t = some (.tup [.int p.1, .int p.2]) ∧ F t)
  | [], _, ps, h, e => by
    cases e
    exact ⟨rfl, fun i v q => by rw [show _ = [] from h] at q; simp at q⟩
  | d :: ds, _, ps, ⟨x, r, e1, h, t⟩, e => by
    unfold pairs? at e
    split at e
    · cases ‹_ :: _ = []›
    · rename_i i j es he
      have he1 : d = .tup [.int i, .int j] := (List.cons.inj he).1
      have he2 : ds = es := (List.cons.inj he).2
      subst he2
      cases z : pairs? ds with
      | none => rw [z] at e; cases e
      | some qs =>
        rw [z] at e; cases e
        obtain ⟨h1, h2⟩ := pairs_of (vs := r) t z
        subst he1
        obtain ⟨a, xs, ea, ht, v1, r1, ex1, hv1, v2, r2, ex2, hv2, hn⟩ := h
        have hv1' : v1 = .int i := hv1
        have hv2' : v2 = .int j := hv2
        have hn' : r2 = [] := hn
        subst hv1' hv2' hn' ex2
        subst ex1
        refine ⟨by rw [List.map_cons, ← h1], fun k v q => ?_⟩
        rw [e1] at q
        cases k with
        | zero =>
          have : v = x := by simpa using q.symm
          subst this
          rcases ht with ⟨f, ht⟩ | ⟨_, ht⟩
          · exact ⟨a, (i, j), rfl, ea, ht, f⟩
          · obtain ⟨s, q⟩ := ht _ List.mem_cons_self
            cases q
        | succ k =>
          obtain ⟨t, p, a1, a2⟩ := h2 k v (by simpa using q)
          exact ⟨t, p, by simpa using a1, a2⟩
    · cases e
theorem rep_pairs : ∀ {vs : List V} {ps : List (Int × Int)}, vs.length = ps.length → (∀ (i : Nat) v, vs[i]? = some v → ∃ t p, ps[i]? = some p ∧ v = .ref t ∧ H t = some (.tup [.int p.1, .int p.2]) ∧ F t) → RepDs K Γ H F (ps.map pairD) vs
  | [], [], _, _ => rfl
  | v :: vs, p :: ps, l, h => by
    obtain ⟨t, q, e, ev, ht, f⟩ := h 0 v rfl
    obtain rfl : p = q := by simpa using e
    exact ⟨v, vs, rfl, ⟨t, _, ev, .inl ⟨f, ht⟩, _, _, rfl, rfl, _, _, rfl, rfl, rfl⟩, rep_pairs (by simpa using l) fun i u q => by
      obtain ⟨t, p, a, b⟩ := h (i + 1) u (by simpa using q)
      exact ⟨t, p, by simpa using a, b⟩⟩
  | [], _ :: _, l, _ => by simp at l
  | _ :: _, [], l, _ => by simp at l
theorem biF_ok (b : Bi) : ∀ rs t vs H F fr, (∀ a, F a → ∃ o, H a = some o) → (∀ a ∈ fr, ∃ o, H a = some o) → (∀ a ∈ fr, ¬ F a) → fr.Nodup → RepRs K Γ H F rs vs fr → (match b with | .isi _ => false | .lrange1 => false | .lrange2 => false | .set => false | _ => true) = true → biF b rs = some t →
    ∀ Q, (∀ z H', OpRes K Γ H F fr t z H' → Q z H') → roBi K b vs H Q := by
  intro rs t vs H F fr iF iR dF nd hr hb hf Q hq
  unfold biF at hf
  split at hf
  · -- len
    rename_i r
    obtain ⟨v, rfl, h⟩ := hr.one
    have ha := h.any
    cases e : lenD r.d with
    | none => rw [e] at hf; cases hf
    | some n =>
      rw [e] at hf; cases hf
      have q : Q (.int (n : Int)) H := hq _ _ (op_sc iF fun _ => rfl)
      generalize r.d = d at e ha
      cases d <;> first | (cases e; done) | skip
      case lst ds =>
        obtain ⟨a, xs, e1, _, h1, q1⟩ := ha
        cases e
        exact .inl ⟨a, xs, by rw [e1], .inl (SqL.of h1), by rw [← q1.len]; exact q⟩
      case tup ds =>
        obtain ⟨a, xs, e1, h1, q1⟩ := ha
        cases e
        exact .inl ⟨a, xs, by rw [e1], .inr h1.sq, by rw [← q1.len]; exact q⟩
      case dct ks ds =>
        obtain ⟨a, xs, e1, _, h1, l, q1⟩ := ha
        cases e
        exact .inr ⟨a, _, by rw [e1], h1, by rw [List.length_zip, ← l, Nat.min_self]; exact q⟩
      case scr ns =>
        obtain ⟨a, e1, h1⟩ := ha
        cases e
        exact .inl ⟨a, _, by rw [e1], .inl h1.1, by rw [List.length_map]; exact q⟩
  · -- sum
    rename_i r
    obtain ⟨v, rfl, h⟩ := hr.one
    split at hf
    · rename_i ds e
      obtain ⟨a, xs, e1, h1, q1⟩ := lstAny h e
      cases e2 : ints? ds with
      | none => rw [e2] at hf; cases hf
      | some ns =>
        rw [e2] at hf; cases hf
        exact ⟨a, ns, by rw [e1], by rw [← q1.ints e2]; exact SqL.of h1, hq _ _ (op_sc iF fun _ => rfl)⟩
    · cases hf
  · -- max1
    rename_i r
    obtain ⟨v, rfl, h⟩ := hr.one
    split at hf
    · rename_i ds e
      obtain ⟨a, xs, e1, h1, q1⟩ := lstAny h e
      cases e2 : ints? ds with
      | none => rw [e2] at hf; cases hf
      | some ns =>
        rw [e2] at hf
        have hf' : (maxI ns).map (fun k => RV.of (.int k)) = some t := hf
        cases e3 : maxI ns with
        | none => rw [e3] at hf'; cases hf'
        | some k =>
          rw [e3] at hf'; cases hf'
          exact ⟨a, ns, by rw [e1], by rw [← q1.ints e2]; exact SqL.of h1, by cases ns <;> simp_all [maxI], fun m hm hy => by
            have := maxI_of hm hy
            rw [e3] at this
            cases this
            exact hq _ _ (op_sc iF fun _ => rfl)⟩
    · cases hf
  · -- min1
    rename_i r
    obtain ⟨v, rfl, h⟩ := hr.one
    split at hf
    · rename_i ds e
      obtain ⟨a, xs, e1, h1, q1⟩ := lstAny h e
      cases e2 : ints? ds with
      | none => rw [e2] at hf; cases hf
      | some ns =>
        rw [e2] at hf
        have hf' : (minI ns).map (fun k => RV.of (.int k)) = some t := hf
        cases e3 : minI ns with
        | none => rw [e3] at hf'; cases hf'
        | some k =>
          rw [e3] at hf'; cases hf'
          exact ⟨a, ns, by rw [e1], by rw [← q1.ints e2]; exact SqL.of h1, by cases ns <;> simp_all [minI], fun m hm hy => by
            have := minI_of hm hy
            rw [e3] at this
            cases this
            exact hq _ _ (op_sc iF fun _ => rfl)⟩
    · cases hf
  · -- max2
    rename_i r s
    obtain ⟨v, w, f1, f2, rfl, _, h1, h2⟩ := hr.two
    split at hf
    · rename_i i j e1 e2
      cases hf
      exact ⟨i, j, by rw [h1.int e1, h2.int e2], hq _ _ (op_sc iF fun _ => rfl)⟩
    · cases hf
  · -- min2
    rename_i r s
    obtain ⟨v, w, f1, f2, rfl, _, h1, h2⟩ := hr.two
    split at hf
    · rename_i i j e1 e2
      cases hf
      exact ⟨i, j, by rw [h1.int e1, h2.int e2], hq _ _ (op_sc iF fun _ => rfl)⟩
    · cases hf
  · -- abs
    rename_i r
    obtain ⟨v, rfl, h⟩ := hr.one
    split at hf
    · rename_i i e; cases hf
      exact ⟨i, by rw [h.int e], hq _ _ (op_sc iF fun _ => rfl)⟩
    · cases hf
  · -- all
    rename_i r
    obtain ⟨v, rfl, h⟩ := hr.one
    split at hf
    · rename_i ds e
      obtain ⟨a, xs, e1, h1, q1⟩ := lstAny h e
      cases e2 : bls? ds with
      | none => rw [e2] at hf; cases hf
      | some ns =>
        rw [e2] at hf; cases hf
        exact ⟨a, ns, by rw [e1], by rw [← q1.bls e2]; exact SqL.of h1, hq _ _ (op_sc iF fun _ => rfl)⟩
    · cases hf
  · -- any
    rename_i r
    obtain ⟨v, rfl, h⟩ := hr.one
    split at hf
    · rename_i ds e
      obtain ⟨a, xs, e1, h1, q1⟩ := lstAny h e
      cases e2 : bls? ds with
      | none => rw [e2] at hf; cases hf
      | some ns =>
        rw [e2] at hf; cases hf
        exact ⟨a, ns, by rw [e1], by rw [← q1.bls e2]; exact SqL.of h1, hq _ _ (op_sc iF fun _ => rfl)⟩
    · cases hf
  · -- int
    rename_i r
    obtain ⟨v, rfl, h⟩ := hr.one
    split at hf
    · rename_i i e; cases hf
      exact .inl ⟨i, by rw [h.int e], hq _ _ (op_sc iF fun _ => rfl)⟩
    · rename_i k e; cases hf
      exact .inr ⟨k, by rw [h.bl e], hq _ _ (op_sc iF fun _ => rfl)⟩
    · cases hf
  · -- list
    rename_i r
    obtain ⟨v, rfl, h⟩ := hr.one
    split at hf
    · rename_i ds e
      split at hf
      · cases hf
        obtain ⟨a, xs, e1, h1, q1⟩ := h.seq e
        exact ⟨a, xs, by rw [e1], h1, fun l hl => hq _ _ (op_new iF iR hl q1)⟩
      · cases hf
    · cases hf
  · -- tuple
    rename_i r
    obtain ⟨v, rfl, h⟩ := hr.one
    split at hf
    · rename_i ds e
      split at hf
      · cases hf
        obtain ⟨a, xs, e1, h1, q1⟩ := h.lst e
        exact ⟨a, xs, by rw [e1], .inl ⟨SqL.of h1, fun l hl => hq _ _ (op_tup iF iR hl q1)⟩⟩
      · cases hf
    · cases hf
  · cases hb
  · -- sorted
    rename_i r
    obtain ⟨v, rfl, h⟩ := hr.one
    split at hf
    · rename_i ds e
      split at hf
      · rename_i ns e2
        split at hf
        · cases hf
          obtain ⟨a, xs, e1, h1, q1⟩ := lstAny h e
          refine .inl ⟨a, ns, by rw [e1], by rw [← q1.ints e2]; exact SqL.of h1, fun ns' p hp hs hn => ?_⟩
          rw [sortI_uniq hp hs]
          exact hq _ _ (op_new iF iR hn (RepDs.of_ints _))
        · cases hf
      · split at hf
        · rename_i es el
          split at hf
          · rename_i ps ep
            split at hf
            · cases hf
              obtain ⟨a, xs, e1, h1, q1⟩ := h.lst el
              obtain ⟨eds, hx⟩ := pairs_of (vs := xs) q1 ep
              have hl : xs.length = ps.length := by rw [← q1.len, eds, List.length_map]
              -- the key of an item
              let k : V → Int × Int := fun v => match v with
                | .ref t => match H t with
                  | some (.tup [.int i, .int j]) => (i, j)
                  | _ => (0, 0)
                | _ => (0, 0)
              have hk : ∀ t (p : Int × Int), H t = some (.tup [.int p.1, .int p.2]) → k (.ref t) = p := fun t p q => by
                show (match H t with | some (.tup [.int i, .int j]) => (i, j) | _ => ((0 : Int), (0 : Int))) = p
                rw [q]
              have hmem : ∀ x ∈ xs, ∃ t, x = .ref t ∧ H t = some (.tup [.int (k x).1, .int (k x).2]) ∧ (F t ∨ t ∈ fr) := fun x hx' => by
                obtain ⟨i, hi, rfl⟩ := List.mem_iff_getElem.mp hx'
                obtain ⟨t, p, _, ev, ht, f⟩ := hx i _ (List.getElem?_eq_getElem hi)
                refine ⟨t, ev, ?_, f⟩
                rw [ev, hk t p ht]; exact ht
              have hkm : xs.map k = ps := by
                apply List.ext_getElem?
                intro i
                rw [List.getElem?_map]
                cases c : xs[i]? with
                | none =>
                  have : ps.length ≤ i := by rw [← hl]; exact List.getElem?_eq_none_iff.mp c
                  rw [List.getElem?_eq_none_iff.mpr this]; rfl
                | some u =>
                  obtain ⟨t, p, ep', ev, ht, _⟩ := hx i u c
                  rw [ep', ev]
                  show some (k (.ref t)) = some p
                  rw [hk t p ht]
              refine .inr (.inl ⟨a, xs, k, by rw [e1], SqL.of h1, fun x hx' => ?_, fun ys p hsr hst hn => ?_⟩)
              · obtain ⟨t, a1, a2, _⟩ := hmem x hx'; exact ⟨t, a1, a2⟩
              · have hperm := hst.perm
                have hsk : ys.map k = sortP ps := by
                  refine sortP_uniq (by rw [← hkm]; exact hperm.map k) ?_
                  rw [List.pairwise_map]
                  refine hsr.imp fun {x y} q => ?_
                  have := SrtO.lexB_no.mp q
                  rw [leP_iff]; omega
                refine hq _ _ (op_new iF iR hn ?_)
                rw [← hsk]
                refine rep_pairs (by rw [List.length_map]) fun i u c => ?_
                obtain ⟨t, a1, a2, f⟩ := hmem u (hperm.mem_iff.mp (List.mem_of_getElem? c))
                exact ⟨t, k u, by rw [List.getElem?_map, c]; rfl, a1, a2, f⟩
            · cases hf
          · cases hf
        · cases hf
    · rename_i ks ds e
      have q := h.any
      rw [e] at q
      obtain ⟨a, xs, e1, _, h1, l, q1⟩ := q
      split at hf
      · rename_i ns e2
        split at hf
        · rename_i c
          cases hf
          have hks : ks = ns.map Sum.inl := by
            clear hq hr h h1 l q1 e
            induction ks generalizing ns with
            | nil => cases e2; rfl
            | cons k ks ih =>
              cases k with
              | inr s => exact nomatch e2
              | inl i =>
                have e3 : (ints? (ks.map keyD)).map (i :: ·) = some ns := e2
                cases z : ints? (ks.map keyD) with
                | none => rw [z] at e3; cases e3
                | some ms =>
                  rw [z] at e3
                  cases e3
                  have hm : ms.length < 64 := by have := of_decide_eq_true c; rw [List.length_cons] at this; omega
                  rw [ih ms z (decide_eq_true hm), List.map_cons]
          refine .inr (.inr ⟨a, _, ns, by rw [e1], h1, by rw [List.map_fst_zip (by omega), hks], of_decide_eq_true c, fun ys p hp hs hn => ?_⟩)
          rw [sortI_uniq hp hs]
          exact hq _ _ (op_new iF iR hn (RepDs.of_ints _))
        · cases hf
      · cases hf
    · cases hf
  · cases hb
  · cases hb
  · cases hb
  · cases hf
end
end Pv
/-! Pv: places: how a node stands within the tree of a slot, and what changes when it is written. -/
namespace Pv
open PySem L2
/-- the value at a path -/
def PathV (H : Hp) : M → V → List Step → V → Prop
  | _, u, [], v => v = u
  | .obj _ fs ms, u, .fld s :: ps, v => ∃ a C dx xs j m x, u = .ref a ∧ H a = some (.ins C dx (fs.zip xs)) ∧ fs.length = xs.length ∧ fidx fs s = some j ∧ ms[j]? = some m ∧ xs[j]? = some x ∧ PathV H m x ps v
  | .lst ms, u, .key d :: ps, v => ∃ a xs i j m x, u = .ref a ∧ H a = some (.lst xs) ∧ d.i? = some i ∧ ixN ms.length i = some j ∧ ms[j]? = some m ∧ xs[j]? = some x ∧ PathV H m x ps v
  | .dct ks ms, u, .key d :: ps, v => ∃ a xs k j m x, u = .ref a ∧ H a = some (.dK (ks.zip xs)) ∧ ks.length = xs.length ∧ d.key = some k ∧ kidx ks k = some j ∧ ms[j]? = some m ∧ xs[j]? = some x ∧ PathV H m x ps v
  | .tup ms, u, .key d :: ps, v => ∃ a xs i j m x, u = .ref a ∧ H a = some (.tup xs) ∧ d.i? = some i ∧ ixN ms.length i = some j ∧ ms[j]? = some m ∧ xs[j]? = some x ∧ PathV H m x ps v
  | _, _, _, _ => False
section
variable {K : PySem.W.Frag} {Γ : Gm} {H H' H2 : Hp} {F F' : AP}
theorem PathV.keep (k : ∀ a o, H a = some o → H' a = some o) : ∀ {ps : List Step} {m : M} {u v : V}, PathV H m u ps v → PathV H' m u ps v
  | [], m, u, v, h => by cases m <;> exact h
  | .fld s :: ps, .obj c fs ms, u, v, ⟨a, C, dx, xs, j, m, x, e, h, l, r1, r2, r3, q⟩ => ⟨a, C, dx, xs, j, m, x, e, k _ _ h, l, r1, r2, r3, PathV.keep k q⟩
  | .key d :: ps, .lst ms, u, v, ⟨a, xs, i, j, m, x, e, h, r0, r1, r2, r3, q⟩ => ⟨a, xs, i, j, m, x, e, k _ _ h, r0, r1, r2, r3, PathV.keep k q⟩
  | .key d :: ps, .tup ms, u, v, ⟨a, xs, i, j, m, x, e, h, r0, r1, r2, r3, q⟩ => ⟨a, xs, i, j, m, x, e, k _ _ h, r0, r1, r2, r3, PathV.keep k q⟩
  | .key d :: ps, .dct ks ms, u, v, ⟨a, xs, kk, j, m, x, e, h, l, r0, r1, r2, r3, q⟩ => ⟨a, xs, kk, j, m, x, e, k _ _ h, l, r0, r1, r2, r3, PathV.keep k q⟩
  | .fld s :: ps, .fz _, _, _, h => False.elim h
  | .fld s :: ps, .lst _, _, _, h => False.elim h
  | .fld s :: ps, .dct _ _, _, _, h => False.elim h
  | .fld s :: ps, .tup _, _, _, h => False.elim h
  | .key d :: ps, .fz _, _, _, h => False.elim h
  | .key d :: ps, .obj _ _ _, _, _, h => False.elim h
/-- one item of a list of trees, and what stands beside it -/
theorem RepMs.split : ∀ {ms : List M} {vs : List V} {fp : List Addr} {j : Nat} {m : M}, RepMs K Γ true H F ms vs fp → ms[j]? = some m →
    ∃ x f1 fq f2, vs[j]? = some x ∧ fp = f1 ++ (fq ++ f2) ∧ RepM K Γ true H F m x fq ∧
      ∀ {H2 : Hp} {F2 : AP} {m2 : M} {fq2 : List Addr}, Ext H H2 F F2 → (∀ a o, (a ∈ f1 ∨ a ∈ f2) → H a = some o → H2 a = some o) → RepM K Γ true H2 F2 m2 x fq2 → RepMs K Γ true H2 F2 (ms.set j m2) vs (f1 ++ (fq2 ++ f2))
  | [], _, _, _, _, _, e => by simp at e
  | m0 :: ms, _, _, 0, m, ⟨x, r, f1, f2, e, ef, h, t⟩, e2 => by
    obtain rfl : m0 = m := by simpa using e2
    refine ⟨x, [], f1, f2, by rw [e]; rfl, by rw [ef]; rfl, h, fun {H2 F2 m2 fq2} ex ow q => ⟨x, r, fq2, f2, e, rfl, q, RepMs.ext ex t (.of fun a o ha => ow a o (.inr ha))⟩⟩
  | m0 :: ms, _, _, j + 1, m, ⟨x, r, f1, f2, e, ef, h, t⟩, e2 => by
    obtain ⟨y, g1, gq, g2, a1, a2, a3, a4⟩ := RepMs.split (j := j) t (by simpa using e2)
    refine ⟨y, f1 ++ g1, gq, g2, by rw [e]; simpa using a1, by rw [ef, a2, List.append_assoc], a3, fun {H2 F2 m2 fq2} ex ow q => ?_⟩
    refine ⟨x, r, f1, g1 ++ (fq2 ++ g2), e, by rw [List.append_assoc], h.ext ex (.of fun a o ha => ow a o (.inl (List.mem_append_left _ ha))), ?_⟩
    exact a4 ex (fun a o ha => ow a o (ha.elim (fun z => .inl (List.mem_append_right _ z)) .inr)) q
/-- a node within a tree: it is turned, the rest stands -/
theorem RepM.at_path {α : Type} {f : M → Option (M × α)} : ∀ {ps : List Step} {m m2 : M} {u v : V} {fp : List Addr} {a : α}, RepM K Γ true H F m u fp → PathV H m u ps v → M.mod f ps m = some (m2, a) →
    ∃ n n2 f1 fq f2, f n = some (n2, a) ∧ fp = f1 ++ (fq ++ f2) ∧ RepM K Γ true H F n v fq ∧
      ∀ {H2 : Hp} {F2 : AP} {fq2 : List Addr}, Ext H H2 F F2 → (∀ a o, (a ∈ f1 ∨ a ∈ f2) → H a = some o → H2 a = some o) → RepM K Γ true H2 F2 n2 v fq2 → RepM K Γ true H2 F2 m2 u (f1 ++ (fq2 ++ f2))
  | [], m, m2, u, v, fp, a, h, p, e => by
    have e1 : v = u := by cases m <;> exact p
    have e2 : f m = some (m2, a) := by cases m <;> exact e
    subst e1
    exact ⟨m, m2, [], fp, [], e2, by simp, h, fun {H2 F2 fq2} _ _ q => by simpa using q⟩
  | .fld s :: ps, .obj c fs ms, m2, u, v, fp, a, ⟨b, dx, xs, gs, e1, e2, hb, l, q⟩, ⟨b', C, dx', xs', j, n, x, e1', hb', l', r1, r2, r3, p⟩, e => by
    obtain rfl : b = b' := V.ref.inj (e1.symm.trans e1')
    rw [hb] at hb'
    have ez : fs.zip xs = fs.zip xs' := (HO.ins.inj (Option.some.inj hb')).2.2
    have exs : xs = xs' := by
      have := congrArg (List.map Prod.snd) ez
      rwa [List.map_snd_zip (by omega), List.map_snd_zip (by omega)] at this
    subst exs
    unfold M.mod at e
    rw [r1] at e
    have e' : (ms[j]?).bind (fun m => (M.mod f ps m).map fun (m', a) => (M.obj c fs (ms.set j m'), a)) = some (m2, a) := e
    rw [r2] at e'
    have e'' : (M.mod f ps n).map (fun (m', a) => (M.obj c fs (ms.set j m'), a)) = some (m2, a) := e'
    cases hm : M.mod f ps n with
    | none => rw [hm] at e''; cases e''
    | some w =>
      obtain ⟨n2, a2⟩ := w
      rw [hm] at e''
      cases e''
      obtain ⟨y, g1, gq, g2, a1, a2', a3, a4⟩ := RepMs.split q r2
      obtain rfl : x = y := Option.some.inj (r3.symm.trans a1)
      obtain ⟨n', n2', f1, fq, f2, b1, b2, b3, b4⟩ := RepM.at_path a3 p hm
      refine ⟨n', n2', b :: g1 ++ f1, fq, f2 ++ g2, b1, by rw [e2, a2', b2]; simp, b3, fun {H2 F2 fq2} ex ow q2 => ?_⟩
      have hb2 : H2 b = _ := ow b _ (.inl (by simp)) hb
      refine ⟨b, dx, xs, g1 ++ (f1 ++ (fq2 ++ f2) ++ g2), e1, by simp, hb2, l, ?_⟩
      refine a4 ex (fun a o ha => ow a o (ha.elim (fun z => .inl (by simp [z])) fun z => .inr (by simp [z]))) ?_
      exact b4 ex (fun a o ha => ow a o (ha.elim (fun z => .inl (by simp [z])) fun z => .inr (by simp [z]))) q2
  | .key d :: ps, .lst ms, m2, u, v, fp, a, ⟨b, xs, gs, e1, e2, hb, q⟩, ⟨b', xs', i, j, n, x, e1', hb', r0, r1, r2, r3, p⟩, e => by
    obtain rfl : b = b' := V.ref.inj (e1.symm.trans e1')
    rw [hb] at hb'
    obtain rfl : xs = xs' := HO.lst.inj (Option.some.inj hb')
    unfold M.mod at e
    rw [r0] at e
    have e0 : (ixN ms.length i).bind (fun j => (ms[j]?).bind fun m => (M.mod f ps m).map fun (m', a) => (M.lst (ms.set j m'), a)) = some (m2, a) := e
    rw [r1] at e0
    have e' : (ms[j]?).bind (fun m => (M.mod f ps m).map fun (m', a) => (M.lst (ms.set j m'), a)) = some (m2, a) := e0
    rw [r2] at e'
    have e'' : (M.mod f ps n).map (fun (m', a) => (M.lst (ms.set j m'), a)) = some (m2, a) := e'
    cases hm : M.mod f ps n with
    | none => rw [hm] at e''; cases e''
    | some w =>
      obtain ⟨n2, a2⟩ := w
      rw [hm] at e''
      cases e''
      obtain ⟨y, g1, gq, g2, a1, a2', a3, a4⟩ := RepMs.split q r2
      obtain rfl : x = y := Option.some.inj (r3.symm.trans a1)
      obtain ⟨n', n2', f1, fq, f2, b1, b2, b3, b4⟩ := RepM.at_path a3 p hm
      refine ⟨n', n2', b :: g1 ++ f1, fq, f2 ++ g2, b1, by rw [e2, a2', b2]; simp, b3, fun {H2 F2 fq2} ex ow q2 => ?_⟩
      have hb2 : H2 b = _ := ow b _ (.inl (by simp)) hb
      refine ⟨b, xs, g1 ++ (f1 ++ (fq2 ++ f2) ++ g2), e1, by simp, hb2, ?_⟩
      refine a4 ex (fun a o ha => ow a o (ha.elim (fun z => .inl (by simp [z])) fun z => .inr (by simp [z]))) ?_
      exact b4 ex (fun a o ha => ow a o (ha.elim (fun z => .inl (by simp [z])) fun z => .inr (by simp [z]))) q2
  | .key d :: ps, .tup ms, m2, u, v, fp, a, ⟨b, xs, gs, e1, e2, hb, q⟩, ⟨b', xs', i, j, n, x, e1', hb', r0, r1, r2, r3, p⟩, e => by
    obtain rfl : b = b' := V.ref.inj (e1.symm.trans e1')
    rw [hb] at hb'
    obtain rfl : xs = xs' := HO.tup.inj (Option.some.inj hb')
    unfold M.mod at e
    rw [r0] at e
    have e0 : (ixN ms.length i).bind (fun j => (ms[j]?).bind fun m => (M.mod f ps m).map fun (m', a) => (M.tup (ms.set j m'), a)) = some (m2, a) := e
    rw [r1] at e0
    have e' : (ms[j]?).bind (fun m => (M.mod f ps m).map fun (m', a) => (M.tup (ms.set j m'), a)) = some (m2, a) := e0
    rw [r2] at e'
    have e'' : (M.mod f ps n).map (fun (m', a) => (M.tup (ms.set j m'), a)) = some (m2, a) := e'
    cases hm : M.mod f ps n with
    | none => rw [hm] at e''; cases e''
    | some w =>
      obtain ⟨n2, a2⟩ := w
      rw [hm] at e''
      cases e''
      obtain ⟨y, g1, gq, g2, a1, a2', a3, a4⟩ := RepMs.split q r2
      obtain rfl : x = y := Option.some.inj (r3.symm.trans a1)
      obtain ⟨n', n2', f1, fq, f2, b1, b2, b3, b4⟩ := RepM.at_path a3 p hm
      refine ⟨n', n2', b :: g1 ++ f1, fq, f2 ++ g2, b1, by rw [e2, a2', b2]; simp, b3, fun {H2 F2 fq2} ex ow q2 => ?_⟩
      have hb2 : H2 b = _ := ow b _ (.inl (by simp)) hb
      refine ⟨b, xs, g1 ++ (f1 ++ (fq2 ++ f2) ++ g2), e1, by simp, hb2, ?_⟩
      refine a4 ex (fun a o ha => ow a o (ha.elim (fun z => .inl (by simp [z])) fun z => .inr (by simp [z]))) ?_
      exact b4 ex (fun a o ha => ow a o (ha.elim (fun z => .inl (by simp [z])) fun z => .inr (by simp [z]))) q2
  | .key d :: ps, .dct ks ms, m2, u, v, fp, a, ⟨b, xs, gs, e1, e2, hb, l, q⟩, ⟨b', xs', k, j, n, x, e1', hb', l', r0, r1, r2, r3, p⟩, e => by
    obtain rfl : b = b' := V.ref.inj (e1.symm.trans e1')
    have hbx : H b = some (.dK (ks.zip xs)) := hb
    rw [hbx] at hb'
    have ez : ks.zip xs = ks.zip xs' := HO.dK.inj (Option.some.inj hb')
    have exs : xs = xs' := by
      have := congrArg (List.map Prod.snd) ez
      rwa [List.map_snd_zip (by omega), List.map_snd_zip (by omega)] at this
    subst exs
    unfold M.mod at e
    rw [r0] at e
    have e0 : (kidx ks k).bind (fun j => (ms[j]?).bind fun m => (M.mod f ps m).map fun (m', a) => (M.dct ks (ms.set j m'), a)) = some (m2, a) := e
    rw [r1] at e0
    have e' : (ms[j]?).bind (fun m => (M.mod f ps m).map fun (m', a) => (M.dct ks (ms.set j m'), a)) = some (m2, a) := e0
    rw [r2] at e'
    have e'' : (M.mod f ps n).map (fun (m', a) => (M.dct ks (ms.set j m'), a)) = some (m2, a) := e'
    cases hm : M.mod f ps n with
    | none => rw [hm] at e''; cases e''
    | some w =>
      obtain ⟨n2, a2⟩ := w
      rw [hm] at e''
      cases e''
      obtain ⟨y, g1, gq, g2, a1, a2', a3, a4⟩ := RepMs.split q r2
      obtain rfl : x = y := Option.some.inj (r3.symm.trans a1)
      obtain ⟨n', n2', f1, fq, f2, b1, b2, b3, b4⟩ := RepM.at_path a3 p hm
      refine ⟨n', n2', b :: g1 ++ f1, fq, f2 ++ g2, b1, by rw [e2, a2', b2]; simp, b3, fun {H2 F2 fq2} ex ow q2 => ?_⟩
      have hb2 : H2 b = _ := ow b _ (.inl (by simp)) hbx
      refine ⟨b, xs, g1 ++ (f1 ++ (fq2 ++ f2) ++ g2), e1, by simp, hb2, l, ?_⟩
      refine a4 ex (fun a o ha => ow a o (ha.elim (fun z => .inl (by simp [z])) fun z => .inr (by simp [z]))) ?_
      exact b4 ex (fun a o ha => ow a o (ha.elim (fun z => .inl (by simp [z])) fun z => .inr (by simp [z]))) q2
  | .fld s :: ps, .fz _, _, _, _, _, _, _, h, _ => False.elim h
  | .fld s :: ps, .lst _, _, _, _, _, _, _, h, _ => False.elim h
  | .fld s :: ps, .dct _ _, _, _, _, _, _, _, h, _ => False.elim h
  | .fld s :: ps, .tup _, _, _, _, _, _, _, h, _ => False.elim h
  | .key d :: ps, .fz _, _, _, _, _, _, _, h, _ => False.elim h
  | .key d :: ps, .obj _ _ _, _, _, _, _, _, _, h, _ => False.elim h
end
end Pv
/-! Pv: the slots: one taken out, put back, stored. -/
namespace Pv
open PySem L2
section
variable {K : PySem.W.Frag} {Γ : Gm} {H H' H2 : Hp} {F F' G : AP}
theorem at_len {e : Env} {i : Nat} (h : e.at i ≠ .no) : i < e.length := by
  apply Classical.byContradiction
  intro c
  apply h
  show e.getD i .no = .no
  rw [List.getD_eq_getElem?_getD, List.getElem?_eq_none_iff.mpr (by omega)]; rfl
theorem at_set_self {e : Env} {i : Nat} {s : Sl} (h : i < e.length) : Env.at (e.set i s) i = s := by
  show (e.set i s).getD i .no = s
  rw [List.getD_eq_getElem?_getD, List.getElem?_set_self h]; rfl
theorem at_set_ne {e : Env} {i j : Nat} {s : Sl} (h : i ≠ j) : Env.at (e.set i s) j = e.at j := by
  show (e.set i s).getD j .no = e.getD j .no
  rw [List.getD_eq_getElem?_getD, List.getD_eq_getElem?_getD, List.getElem?_set_ne h]
theorem RepEnv.len : ∀ {e : Env} {σ : L2.St} {ow : List Addr}, RepEnv K Γ H F G e σ ow → e.length = σ.length
  | [], _, _, ⟨h, _⟩ => by rw [h]; rfl
  | _ :: _, _, _, ⟨_, _, _, _, e, _, _, t⟩ => by rw [e, List.length_cons, List.length_cons, RepEnv.len t]
/-- a slot that owns is taken out -/
theorem RepEnv.take : ∀ {e : Env} {σ : L2.St} {ow : List Addr} {i : Nat} {m : M}, RepEnv K Γ H F G e σ ow → e.at i = .ok m true →
    ∃ o1 f o2 u, ow = o1 ++ (f ++ o2) ∧ σ[i]? = some (some u) ∧ RepM K Γ true H F m u f ∧ RepEnv K Γ H F G (e.set i .no) σ (o1 ++ o2)
  | [], _, _, i, m, _, e => by cases i <;> cases e
  | s :: e, _, _, 0, m, ⟨v, r, f1, f2, e1, e2, h, t⟩, q => by
    obtain rfl : s = .ok m true := q
    obtain ⟨u, eu, hm⟩ := h
    exact ⟨[], f1, f2, u, by rw [e2]; rfl, by rw [e1, eu]; rfl, hm, v, r, [], f2, e1, rfl, rfl, t⟩
  | s :: e, _, _, i + 1, m, ⟨v, r, f1, f2, e1, e2, h, t⟩, q => by
    obtain ⟨o1, f, o2, u, a1, a2, a3, a4⟩ := RepEnv.take (i := i) t q
    exact ⟨f1 ++ o1, f, o2, u, by rw [e2, a1, List.append_assoc], by rw [e1]; simpa using a2, a3, v, r, f1, o1 ++ o2, e1, by rw [List.append_assoc], h, a4⟩
/-- a tree is put into an empty slot -/
theorem RepEnv.put : ∀ {e : Env} {σ : L2.St} {ow : List Addr} {i : Nat} {m : M} {u : V} {f : List Addr}, RepEnv K Γ H F G e σ ow → e.at i = .no → σ[i]? = some (some u) → RepM K Γ true H F m u f →
    ∃ o1 o2, ow = o1 ++ o2 ∧ RepEnv K Γ H F G (e.set i (.ok m true)) σ (o1 ++ (f ++ o2))
  | [], _, _, i, m, u, f, ⟨h, _⟩, _, q, _ => by rw [h] at q; simp at q
  | s :: e, _, _, 0, m, u, f, ⟨v, r, f1, f2, e1, e2, h, t⟩, q, z, hm => by
    obtain rfl : s = .no := q
    obtain rfl : f1 = [] := h
    rw [e1] at z
    have : v = some u := by simpa using z
    exact ⟨[], f2, by rw [e2], v, r, f, f2, e1, rfl, ⟨u, this, hm⟩, t⟩
  | s :: e, _, _, i + 1, m, u, f, ⟨v, r, f1, f2, e1, e2, h, t⟩, q, z, hm => by
    rw [e1] at z
    obtain ⟨o1, o2, a1, a2⟩ := RepEnv.put (i := i) t q (by simpa using z) hm
    exact ⟨f1 ++ o1, o2, by rw [e2, a1, List.append_assoc], v, r, f1, o1 ++ (f ++ o2), e1, by rw [List.append_assoc], h, a2⟩
/-- a slot is stored: what it owned is let go -/
theorem RepEnv.store : ∀ {e : Env} {σ : L2.St} {ow : List Addr} {i : Nat} {m : M} {u : V} {f : List Addr}, RepEnv K Γ H F G e σ ow → i < e.length → RepM K Γ true H F m u f →
    ∃ o1 g o2, ow = o1 ++ (g ++ o2) ∧ RepEnv K Γ H F G (e.set i (.ok m true)) (σ.set i (some u)) (o1 ++ (f ++ o2))
  | [], _, _, i, m, u, f, _, q, _ => by simp at q
  | s :: e, _, _, 0, m, u, f, ⟨v, r, f1, f2, e1, e2, h, t⟩, q, hm => ⟨[], f1, f2, by rw [e2]; rfl, some u, r, f, f2, by rw [e1]; rfl, rfl, ⟨u, rfl, hm⟩, t⟩
  | s :: e, _, _, i + 1, m, u, f, ⟨v, r, f1, f2, e1, e2, h, t⟩, q, hm => by
    obtain ⟨o1, g, o2, a1, a2⟩ := RepEnv.store (i := i) t (by simpa using q) hm
    exact ⟨f1 ++ o1, g, o2, by rw [e2, a1, List.append_assoc], v, r.set i (some u), f1, o1 ++ (f ++ o2), by rw [e1]; rfl, by rw [List.append_assoc], h, a2⟩
/-- any slot may be emptied, whatever stands in the frame -/
theorem RepEnv.wipe : ∀ {e : Env} {σ : L2.St} {ow : List Addr} {i : Nat} (w : Option V), RepEnv K Γ H F G e σ ow → plainAt e i = true → RepEnv K Γ H F G (e.set i .no) (σ.set i w) ow
  | [], _, _, i, w, ⟨h1, h2⟩, _ => by rw [h1]; exact ⟨rfl, h2⟩
  | s :: e, _, _, 0, w, ⟨v, r, f1, f2, e1, e2, h, t⟩, q => by
    refine ⟨w, r, f1, f2, by rw [e1]; rfl, e2, ?_, t⟩
    have q' : plainAt (s :: e) 0 = true := q
    cases s with
    | no => exact h
    | ok m b => cases m with
      | fz d => cases b with
        | true => obtain ⟨u, _, z, _⟩ := h; exact z
        | false => exact h.1
      | lst _ => cases q'
      | tup _ => cases q'
      | dct _ _ => cases q'
      | obj _ _ _ => cases q'
  | s :: e, _, _, i + 1, w, ⟨v, r, f1, f2, e1, e2, h, t⟩, q => ⟨v, r.set i w, f1, f2, by rw [e1]; rfl, e2, h, RepEnv.wipe w t q⟩
/-- a slot with data comes back -/
theorem RepEnv.unwipe : ∀ {e e0 : Env} {σ σ0 : L2.St} {ow ow0 : List Addr} {i : Nat} {H0 : Hp} {F0 G0 : AP}, RepEnv K Γ H F G e σ ow → RepEnv K Γ H0 F0 G0 e0 σ0 ow0 → e.at i = .no → i < e.length → plainAt e0 i = true → Ext H0 H F0 F →
    RepEnv K Γ H F G (e.set i (e0.at i)) (σ.set i ((σ0[i]?).getD none)) ow
  | [], _, _, _, _, _, i, _, _, _, _, _, _, q, _, _ => by simp at q
  | s :: e, e0, _, σ0, _, ow0, 0, H0, F0, G0, ⟨v, r, f1, f2, e1, e2, h, t⟩, h0, q, _, p, x => by
    obtain rfl : s = .no := q
    obtain rfl : f1 = [] := h
    refine ⟨(σ0[0]?).getD none, r, [], f2, by rw [e1]; rfl, e2, ?_, t⟩
    cases e0 with
    | nil => exact rfl
    | cons s0 e0 =>
      obtain ⟨v0, r0, g1, g2, a1, a2, a3, a4⟩ := h0
      show RepSl K Γ H F G s0 _ []
      rw [a1]
      show RepSl K Γ H F G s0 v0 []
      have p' : plainAt (s0 :: e0) 0 = true := p
      cases s0 with
      | no => exact rfl
      | ok m b => cases m with
        | fz d => cases b with
          | true => obtain ⟨u, eu, _, z⟩ := a3; exact ⟨u, eu, rfl, z.ext x⟩
          | false => obtain ⟨_, u, fq, eu, ⟨ez, z⟩, g⟩ := a3; exact ⟨rfl, u, [], eu, ⟨rfl, z.ext x⟩, fun _ h => (nomatch h)⟩
        | lst _ => cases p'
        | tup _ => cases p'
        | dct _ _ => cases p'
        | obj _ _ _ => cases p'
  | s :: e, e0, _, σ0, _, ow0, i + 1, H0, F0, G0, ⟨v, r, f1, f2, e1, e2, h, t⟩, h0, q, l, p, x => by
    cases e0 with
    | nil =>
      have e5 : Env.at ([] : Env) (i + 1) = .no := rfl
      obtain ⟨z, _⟩ := h0
      rw [e5, z]
      have := RepEnv.unwipe (e0 := []) (σ0 := []) (ow0 := []) (i := i) (G0 := G0) t (⟨rfl, rfl⟩ : RepEnv K Γ H0 F0 G0 [] [] []) q (by simpa using l) p x
      exact ⟨v, r.set i none, f1, f2, by rw [e1]; rfl, e2, h, this⟩
    | cons s0 e0 =>
      obtain ⟨v0, r0, g1, g2, a1, a2, a3, a4⟩ := h0
      have := RepEnv.unwipe (i := i) t a4 q (by simpa using l) p x
      rw [a1]
      exact ⟨v, r.set i ((r0[i]?).getD none), f1, f2, by rw [e1]; rfl, e2, h, this⟩
/-- what a slot holds that is read -/
theorem RepEnv.read : ∀ {e : Env} {σ : L2.St} {ow : List Addr} {i : Nat} {m : M} {w : Bool}, RepEnv K Γ H F G e σ ow → e.at i = .ok m w → ∃ u fq, σ[i]? = some (some u) ∧ RepM K Γ false H F m u fq ∧ (m.isNode = false → fq = [])
  | [], _, _, i, m, w, _, e => by cases i <;> cases e
  | s :: e, _, _, 0, m, w, ⟨v, r, f1, f2, e1, e2, h, t⟩, q => by
    obtain rfl : s = .ok m w := q
    cases w with
    | true =>
      obtain ⟨u, eu, hm⟩ := h
      exact ⟨u, f1, by rw [e1, eu]; rfl, hm.weak, fun n => by cases m <;> first | exact hm.1 | cases n⟩
    | false =>
      obtain ⟨_, u, fq, eu, hm, _⟩ := h
      exact ⟨u, fq, by rw [e1, eu]; rfl, hm, fun n => by cases m <;> first | exact hm.1 | cases n⟩
  | s :: e, _, _, i + 1, m, w, ⟨v, r, f1, f2, e1, e2, h, t⟩, q => by
    obtain ⟨u, fq, a1, a2, a3⟩ := RepEnv.read (i := i) t q
    exact ⟨u, fq, by rw [e1]; simpa using a1, a2, a3⟩
/-- a slot is shut -/
theorem RepEnv.shut : ∀ {e : Env} {σ : L2.St} {ow : List Addr} {i : Nat} {m : M}, RepEnv K Γ H F G e σ ow → e.at i = .ok m true →
    ∃ o1 f o2 u, ow = o1 ++ (f ++ o2) ∧ σ[i]? = some (some u) ∧ RepM K Γ true H F m u f ∧ ∀ {G' : AP}, (∀ a, G a → G' a) → (∀ a ∈ f, G' a) → RepEnv K Γ H F G' (e.set i (.ok m false)) σ (o1 ++ o2)
  | [], _, _, i, m, _, e => by cases i <;> cases e
  | s :: e, _, _, 0, m, ⟨v, r, f1, f2, e1, e2, h, t⟩, q => by
    obtain rfl : s = .ok m true := q
    obtain ⟨u, eu, hm⟩ := h
    exact ⟨[], f1, f2, u, by rw [e2]; rfl, by rw [e1, eu]; rfl, hm, fun {G'} g1 g2 => ⟨v, r, [], f2, e1, rfl, ⟨rfl, u, f1, eu, hm.weak, g2⟩, RepEnv.gmono g1 t⟩⟩
  | s :: e, _, _, i + 1, m, ⟨v, r, f1, f2, e1, e2, h, t⟩, q => by
    obtain ⟨o1, f, o2, u, a1, a2, a3, a4⟩ := RepEnv.shut (i := i) t q
    refine ⟨f1 ++ o1, f, o2, u, by rw [e2, a1, List.append_assoc], by rw [e1]; simpa using a2, a3, fun {G'} g1 g2 => ⟨v, r, f1, o1 ++ o2, e1, by rw [List.append_assoc], ?_, a4 g1 g2⟩⟩
    cases s with
    | no => exact h
    | ok m w => cases w with
      | true => exact h
      | false => obtain ⟨z, u, fq, eu, hm, hg⟩ := h; exact ⟨z, u, fq, eu, hm, fun a ha => g1 a (hg a ha)⟩
where
  RepEnv.gmono {G G' : AP} (hG : ∀ a, G a → G' a) : ∀ {e : Env} {σ : L2.St} {ow : List Addr}, RepEnv K Γ H F G e σ ow → RepEnv K Γ H F G' e σ ow
  | [], _, _, h => h
  | s :: e, _, _, ⟨v, r, f1, f2, e1, e2, h, t⟩ => ⟨v, r, f1, f2, e1, e2, by
      cases s with
      | no => exact h
      | ok m w => cases w with
        | true => exact h
        | false => obtain ⟨z, u, fq, eu, hm, hg⟩ := h; exact ⟨z, u, fq, eu, hm, fun a ha => hG a (hg a ha)⟩, RepEnv.gmono hG t⟩
end
end Pv
/-! Pv: a further step of a path. -/
namespace Pv
open PySem L2
section
variable {K : PySem.W.Frag} {Γ : Gm} {H H' H2 : Hp} {F F' G : AP}
theorem fidx_get {α : Type} : ∀ {fs : List Str} {xs : List α} {f : Str} {j : Nat} {x : α}, fidx fs f = some j → xs[j]? = some x → fget fs xs f = some x
  | [], _, f, j, x, h, _ => by unfold fidx at h; simp at h
  | a :: fs, [], f, j, x, _, h => by simp at h
  | a :: fs, y :: ys, f, j, x, h, hx => by
    unfold fidx at h
    rw [List.findIdx?_cons] at h
    unfold fget
    split at h
    · rename_i c
      cases h
      rw [if_pos (of_decide_eq_true c).symm]; exact hx
    · rename_i c
      cases e : fs.findIdx? (fun x => decide (x = f)) with
      | none => rw [e] at h; cases h
      | some k =>
        rw [e] at h
        cases h
        rw [if_neg fun q => c (decide_eq_true q.symm)]
        exact fidx_get (f := f) (j := k) e (by simpa using hx)
theorem kidx_get {α : Type} : ∀ {fs : List Key} {xs : List α} {f : Key} {j : Nat} {x : α}, kidx fs f = some j → xs[j]? = some x → dget fs xs f = some x
  | [], _, f, j, x, h, _ => by unfold kidx at h; simp at h
  | a :: fs, [], f, j, x, _, h => by simp at h
  | a :: fs, y :: ys, f, j, x, h, hx => by
    unfold kidx at h
    rw [List.findIdx?_cons] at h
    unfold dget
    split at h
    · rename_i c
      cases h
      rw [if_pos (of_decide_eq_true c)]; exact hx
    · rename_i c
      cases e : fs.findIdx? (fun x => decide (x = f)) with
      | none => rw [e] at h; cases h
      | some k =>
        rw [e] at h
        cases h
        rw [if_neg fun q => c (decide_eq_true q)]
        exact kidx_get (f := f) (j := k) e (by simpa using hx)
/-- the last step: what the layer asks of it -/
def StepV (Γ : Gm) (H : Hp) (v : V) : Step → V → Prop
  | .fld f, w => ∃ a c dx fs, v = .ref a ∧ H a = some (.ins (Γ.cls c) dx fs) ∧ fs.lookup f = some w
  | .key d, w => ∃ a, v = .ref a ∧ ((∃ xs i, H a = some (.lst xs) ∧ d.i? = some i ∧ atI xs i = some w) ∨ (∃ xs i, H a = some (.tup xs) ∧ d.i? = some i ∧ atI xs i = some w) ∨ ∃ kvs k, H a = some (.dK kvs) ∧ d.key = some k ∧ valV kvs k = some w)
theorem path_step {s : Step} : ∀ {ps : List Step} {m n : M} {u v : V} {fp : List Addr}, RepM K Γ true H F m u fp → PathV H m u ps v → M.get (ps ++ [s]) m = some n → ∃ w, PathV H m u (ps ++ [s]) w ∧ StepV Γ H v s w
  | [], m, n, u, v, fp, h, p, e => by
    obtain rfl : v = u := by cases m <;> exact p
    cases s with
    | fld f =>
      cases m with
      | obj c fs ms =>
        obtain ⟨a, dx, xs, gs, e1, e2, ha, l, q⟩ := h
        have e' : (fidx fs f).bind (fun j => (ms[j]?).bind fun m => M.get [] m) = some n := e
        cases r1 : fidx fs f with
        | none => rw [r1] at e'; cases e'
        | some j =>
          rw [r1] at e'
          have e2' : (ms[j]?).bind (fun m => M.get [] m) = some n := e'
          cases r2 : ms[j]? with
          | none => rw [r2] at e2'; cases e2'
          | some m' =>
            obtain ⟨x, fq, r3, _⟩ := getM q r2
            exact ⟨x, ⟨a, _, dx, xs, j, m', x, e1, ha, l, r1, r2, r3, by cases m' <;> rfl⟩, a, c, dx, _, e1, ha, by rw [lookup_fget]; exact fidx_get r1 r3⟩
      | fz _ => cases e
      | lst _ => cases e
      | dct _ _ => cases e
      | tup _ => cases e
    | key d =>
      cases m with
      | lst ms =>
        obtain ⟨a, xs, gs, e1, e2, ha, q⟩ := h
        have e' : (D.i? d).bind (fun i => (ixN ms.length i).bind fun j => (ms[j]?).bind fun m => M.get [] m) = some n := e
        cases r0 : D.i? d with
        | none => rw [r0] at e'; cases e'
        | some i =>
          rw [r0] at e'
          have e1' : (ixN ms.length i).bind (fun j => (ms[j]?).bind fun m => M.get [] m) = some n := e'
          cases r1 : ixN ms.length i with
          | none => rw [r1] at e1'; cases e1'
          | some j =>
            rw [r1] at e1'
            have e2' : (ms[j]?).bind (fun m => M.get [] m) = some n := e1'
            cases r2 : ms[j]? with
            | none => rw [r2] at e2'; cases e2'
            | some m' =>
              obtain ⟨x, fq, r3, _⟩ := getM q r2
              exact ⟨x, ⟨a, xs, i, j, m', x, e1, ha, r0, r1, r2, r3, by cases m' <;> rfl⟩, a, e1, .inl ⟨xs, i, ha, r0, by unfold atI; rw [← q.len, r1]; exact r3⟩⟩
      | tup ms =>
        obtain ⟨a, xs, gs, e1, e2, ha, q⟩ := h
        have e' : (D.i? d).bind (fun i => (ixN ms.length i).bind fun j => (ms[j]?).bind fun m => M.get [] m) = some n := e
        cases r0 : D.i? d with
        | none => rw [r0] at e'; cases e'
        | some i =>
          rw [r0] at e'
          have e1' : (ixN ms.length i).bind (fun j => (ms[j]?).bind fun m => M.get [] m) = some n := e'
          cases r1 : ixN ms.length i with
          | none => rw [r1] at e1'; cases e1'
          | some j =>
            rw [r1] at e1'
            have e2' : (ms[j]?).bind (fun m => M.get [] m) = some n := e1'
            cases r2 : ms[j]? with
            | none => rw [r2] at e2'; cases e2'
            | some m' =>
              obtain ⟨x, fq, r3, _⟩ := getM q r2
              exact ⟨x, ⟨a, xs, i, j, m', x, e1, ha, r0, r1, r2, r3, by cases m' <;> rfl⟩, a, e1, .inr (.inl ⟨xs, i, ha, r0, by unfold atI; rw [← q.len, r1]; exact r3⟩)⟩
      | dct ks ms =>
        obtain ⟨a, xs, gs, e1, e2, ha, l, q⟩ := h
        have e' : d.key.bind (fun i => (kidx ks i).bind fun j => (ms[j]?).bind fun m => M.get [] m) = some n := e
        cases r0 : d.key with
        | none => rw [r0] at e'; cases e'
        | some k =>
          rw [r0] at e'
          have e1' : (kidx ks k).bind (fun j => (ms[j]?).bind fun m => M.get [] m) = some n := e'
          cases r1 : kidx ks k with
          | none => rw [r1] at e1'; cases e1'
          | some j =>
            rw [r1] at e1'
            have e2' : (ms[j]?).bind (fun m => M.get [] m) = some n := e1'
            cases r2 : ms[j]? with
            | none => rw [r2] at e2'; cases e2'
            | some m' =>
              obtain ⟨x, fq, r3, _⟩ := getM q r2
              exact ⟨x, ⟨a, xs, k, j, m', x, e1, ha, l, r0, r1, r2, r3, by cases m' <;> rfl⟩, a, e1, .inr (.inr ⟨_, k, ha, r0, by rw [valV_dget (α := Nat) l]; exact kidx_get r1 r3⟩)⟩
      | fz _ => cases e
      | obj _ _ _ => cases e
  | .fld f :: ps, .obj c fs ms, n, u, v, fp, ⟨a, dx, xs, gs, e1, e2, ha, l, q⟩, ⟨a', C, dx', xs', j, m', x, e1', ha', l', r1, r2, r3, p⟩, e => by
    obtain rfl : a = a' := V.ref.inj (e1.symm.trans e1')
    have ha2 := ha
    rw [ha'] at ha2
    have ez : fs.zip xs' = fs.zip xs := (HO.ins.inj (Option.some.inj ha2)).2.2
    have exs : xs' = xs := by
      have := congrArg (List.map Prod.snd) ez
      rwa [List.map_snd_zip (by omega), List.map_snd_zip (by omega)] at this
    subst exs
    have e' : M.get (ps ++ [s]) m' = some n := by
      have h0 : (fidx fs f).bind (fun j => (ms[j]?).bind fun m => M.get (ps ++ [s]) m) = some n := e
      rw [r1] at h0
      have h1 : (ms[j]?).bind (fun m => M.get (ps ++ [s]) m) = some n := h0
      rw [r2] at h1
      exact h1
    obtain ⟨x', fq, r3', hq, _⟩ := getM q r2
    obtain rfl : x = x' := Option.some.inj (r3.symm.trans r3')
    obtain ⟨w, w1, w2⟩ := path_step hq p e'
    exact ⟨w, ⟨a, C, dx', xs', j, m', x, e1, ha', l', r1, r2, r3, w1⟩, w2⟩
  | .key d :: ps, .lst ms, n, u, v, fp, ⟨a, xs, gs, e1, e2, ha, q⟩, ⟨a', xs', i, j, m', x, e1', ha', r0, r1, r2, r3, p⟩, e => by
    obtain rfl : a = a' := V.ref.inj (e1.symm.trans e1')
    have ha2 := ha
    rw [ha'] at ha2
    obtain rfl : xs' = xs := HO.lst.inj (Option.some.inj ha2)
    have e' : M.get (ps ++ [s]) m' = some n := by
      have h0 : (D.i? d).bind (fun i => (ixN ms.length i).bind fun j => (ms[j]?).bind fun m => M.get (ps ++ [s]) m) = some n := e
      rw [r0] at h0
      have h1 : (ixN ms.length i).bind (fun j => (ms[j]?).bind fun m => M.get (ps ++ [s]) m) = some n := h0
      rw [r1] at h1
      have h2 : (ms[j]?).bind (fun m => M.get (ps ++ [s]) m) = some n := h1
      rw [r2] at h2
      exact h2
    obtain ⟨x', fq, r3', hq, _⟩ := getM q r2
    obtain rfl : x = x' := Option.some.inj (r3.symm.trans r3')
    obtain ⟨w, w1, w2⟩ := path_step hq p e'
    exact ⟨w, ⟨a, xs', i, j, m', x, e1, ha', r0, r1, r2, r3, w1⟩, w2⟩
  | .key d :: ps, .tup ms, n, u, v, fp, ⟨a, xs, gs, e1, e2, ha, q⟩, ⟨a', xs', i, j, m', x, e1', ha', r0, r1, r2, r3, p⟩, e => by
    obtain rfl : a = a' := V.ref.inj (e1.symm.trans e1')
    have ha2 := ha
    rw [ha'] at ha2
    obtain rfl : xs' = xs := HO.tup.inj (Option.some.inj ha2)
    have e' : M.get (ps ++ [s]) m' = some n := by
      have h0 : (D.i? d).bind (fun i => (ixN ms.length i).bind fun j => (ms[j]?).bind fun m => M.get (ps ++ [s]) m) = some n := e
      rw [r0] at h0
      have h1 : (ixN ms.length i).bind (fun j => (ms[j]?).bind fun m => M.get (ps ++ [s]) m) = some n := h0
      rw [r1] at h1
      have h2 : (ms[j]?).bind (fun m => M.get (ps ++ [s]) m) = some n := h1
      rw [r2] at h2
      exact h2
    obtain ⟨x', fq, r3', hq, _⟩ := getM q r2
    obtain rfl : x = x' := Option.some.inj (r3.symm.trans r3')
    obtain ⟨w, w1, w2⟩ := path_step hq p e'
    exact ⟨w, ⟨a, xs', i, j, m', x, e1, ha', r0, r1, r2, r3, w1⟩, w2⟩
  | .key d :: ps, .dct ks ms, n, u, v, fp, ⟨a, xs, gs, e1, e2, ha, l, q⟩, ⟨a', xs', k, j, m', x, e1', ha', l', r0, r1, r2, r3, p⟩, e => by
    obtain rfl : a = a' := V.ref.inj (e1.symm.trans e1')
    have hax : H a = some (.dK (ks.zip xs)) := ha
    have ha2 := hax
    rw [ha'] at ha2
    have ez : ks.zip xs' = ks.zip xs := HO.dK.inj (Option.some.inj ha2)
    have exs : xs' = xs := by
      have := congrArg (List.map Prod.snd) ez
      rwa [List.map_snd_zip (by omega), List.map_snd_zip (by omega)] at this
    subst exs
    have e' : M.get (ps ++ [s]) m' = some n := by
      have h0 : d.key.bind (fun i => (kidx ks i).bind fun j => (ms[j]?).bind fun m => M.get (ps ++ [s]) m) = some n := e
      rw [r0] at h0
      have h1 : (kidx ks k).bind (fun j => (ms[j]?).bind fun m => M.get (ps ++ [s]) m) = some n := h0
      rw [r1] at h1
      have h2 : (ms[j]?).bind (fun m => M.get (ps ++ [s]) m) = some n := h1
      rw [r2] at h2
      exact h2
    obtain ⟨x', fq, r3', hq, _⟩ := getM q r2
    obtain rfl : x = x' := Option.some.inj (r3.symm.trans r3')
    obtain ⟨w, w1, w2⟩ := path_step hq p e'
    exact ⟨w, ⟨a, xs', k, j, m', x, e1, ha', l', r0, r1, r2, r3, w1⟩, w2⟩
  | .fld s :: ps, .fz _, _, _, _, _, _, h, _ => False.elim h
  | .fld s :: ps, .lst _, _, _, _, _, _, h, _ => False.elim h
  | .fld s :: ps, .dct _ _, _, _, _, _, _, h, _ => False.elim h
  | .fld s :: ps, .tup _, _, _, _, _, _, h, _ => False.elim h
  | .key d :: ps, .fz _, _, _, _, _, _, h, _ => False.elim h
  | .key d :: ps, .obj _ _ _, _, _, _, _, _, h, _ => False.elim h
end
end Pv
/-! Pv: calls, where what is raised is wished for at the caller's slots. -/
namespace Pv
open PySem PySem.Spec PyProof.Rows L2
section
variable {X : Cx} {CX : CXT} {k : Nat} {f C : Addr} {fd : FuncData} {ps ks : List Str} {sp : Sp} {dvs : List V} {ds : List Value} {E : L2.St → XK} {x m : Str} {p pos apos : Pos} {e o : Expr} {es : List Expr} {kws : List Keyword} {ta : TE} {t tk : TA}
theorem pe_call0SD (F : FnOk X.prog X.w X.K X.mg X.base CX k f fd ps sp) (hr : Room k X.A) (hg : Gl X x) (hm : X.mg x = some (.ref f)) (hk : PySem.W.keepIn X.K (.ref f) = true) (hb : Binds X.K fd ps ds) (hd : Vals dvs ds) (hx : ∀ σ, PassesAt CX X σ (E σ))
    (hdb : (x == ("__debug__" : Str)) = false) : PE X (.Call (.Name x p) [] [] pos) (tCallSD sp dvs E tNil) := by
  refine ⟨fun pins s σ H Q I h => ?_⟩
  refine wpAny_Call_Name_kw (ld_glob I hg hm ?_ hdb)
  exact PySem.W.callWith_K0 I.kIn hk (run_fnSD (us := []) F hr hb hd (hx σ) I .nil h)
def tMethSD (C : Addr) (m : Str) (sp : Sp) (dvs : List V) (E : L2.St → XK) (ta : TE) (t : TA) : TE := fun σ H Q => ta σ H fun x H1 => ∃ a dx fs, x = .ref a ∧ H1 a = some (.ins C dx fs) ∧ fs.lookup m = none ∧
  t σ H1 fun vs H2 => sp (x :: (vs ++ dvs)) H2 Q (E σ)
theorem pe_methSD {pl : Sem Bool} (he : PE X o ta) (c : L2.Cls X.K C) (hm : Meth X.K C m f) (F : FnOk X.prog X.w X.K X.mg X.base CX k f fd ps sp) (hr : Room k X.A) (hb : Binds X.K fd ps ds) (hd : Vals dvs ds) (hx : ∀ σ, PassesAt CX X σ (E σ)) (ha : PA X (e :: es) t)
    (hst : starEach (e :: es) X.env = (false, eval e X.env) :: starEach es X.env) (hpl : (backTo pos (starEach es X.env)).any (·.1) = false)
    (ht : eval (.Call (.Attribute o m apos) (e :: es) [] pos) X.env = (do
      let ov ← eval o X.env
      standAt apos.atName
      let (f, first) ← holding [ov] (getMethod ov m pl)
      callWith pos f first (backTo pos (starEach (e :: es) X.env)) (backToKw pos (keywordEach [] X.env)))) :
    PE X (.Call (.Attribute o m apos) (e :: es) [] pos) (tMethSD C m sp dvs E ta t) := by
  refine ⟨fun pins s σ H Q I h => ?_⟩
  refine PySem.W.methodCall_KW (pl := pl) (thn (he.run pins s σ H _ I h) fun u s1 ⟨x, H1, I1, rx, a, dx, fs, ex, ea, l, q⟩ => ?_) ht
  subst ex
  obtain rfl : u = Value.ref a := rx
  refine getmeth_ok I1 ea c hm l ?_
  refine PySem.W.callWith_K (first := [.ref a]) (h₀ := X.base) I.ok.mod.kin hm.kp (thn (ha.run pos pins s1 σ H1 _ I1 q) fun us s2 ⟨vs, H2, I2, r, q2⟩ => ⟨I2.kIn, ?_⟩) hst hpl
  exact run_fnSD (us := .ref a :: us) (vs := .ref a :: vs) F hr hb hd (hx σ) I2 (.cons rfl r) q2
theorem pe_meth0SD {pl : Sem Bool} (he : PE X o ta) (c : L2.Cls X.K C) (hm : Meth X.K C m f) (F : FnOk X.prog X.w X.K X.mg X.base CX k f fd ps sp) (hr : Room k X.A) (hb : Binds X.K fd ps ds) (hd : Vals dvs ds) (hx : ∀ σ, PassesAt CX X σ (E σ))
    (ht : eval (.Call (.Attribute o m apos) [] [] pos) X.env = (do
      let ov ← eval o X.env
      standAt apos.atName
      let (f, first) ← holding [ov] (getMethod ov m pl)
      callWith pos f first (backTo pos (starEach [] X.env)) (backToKw pos (keywordEach [] X.env)))) :
    PE X (.Call (.Attribute o m apos) [] [] pos) (tMethSD C m sp dvs E ta tNil) := by
  refine ⟨fun pins s σ H Q I h => ?_⟩
  refine PySem.W.methodCall_KW (pl := pl) (thn (he.run pins s σ H _ I h) fun u s1 ⟨x, H1, I1, rx, a, dx, fs, ex, ea, l, q⟩ => ?_) ht
  subst ex
  obtain rfl : u = Value.ref a := rx
  refine getmeth_ok I1 ea c hm l ?_
  exact PySem.W.callWith_K0 (first := [.ref a]) I1.kIn hm.kp (run_fnSD (us := [.ref a]) (vs := [.ref a]) F hr hb hd (hx σ) I1 (.cons rfl .nil) q)
/-- C(..) -/
def tMakeSD (C : Addr) (sp : Sp) (dvs : List V) (E : L2.St → XK) (t : TA) : TE := fun σ H Q => t σ H fun vs H1 => ∀ x dx, H1 x = none → H1 dx = none → dx ≠ x →
  sp (.ref x :: (vs ++ dvs)) (upd (upd H1 dx (.own x)) x (.ins C dx [])) (fun v H2 => v = .non ∧ Q (.ref x) H2) (E σ)
theorem run_makeSD {pins : List (Addr × Obj)} {σ : L2.St} {H : Hp} {s : Shared} {Q : VK} {us : List Value} {vs : List V} (M : Mk X.K C f) (F : FnOk X.prog X.w X.K X.mg X.base CX k f fd ps sp) (hr : Room (k + 1) X.A) (hb : Binds X.K fd ps ds) (hd : Vals dvs ds)
    (hx : PassesAt CX X σ (E σ)) (I : L2.Inv X pins σ H s) (r : Vals vs us)
    (h : ∀ x dx, H x = none → H dx = none → dx ≠ x → sp (.ref x :: (vs ++ dvs)) (upd (upd H dx (.own x)) x (.ins C dx [])) (fun v H2 => v = .non ∧ Q (.ref x) H2) (E σ)) :
    wpAny (model X.prog X.w) X.A (call (.ref C) us) (EP X pins σ Q) X.xe s := by
  have hq := h (s.heap.objs.size + 1) s.heap.objs.size (I.hok.fresh (Nat.le_succ _)) (I.hok.fresh (Nat.le_refl _)) (Nat.ne_of_lt (Nat.lt_succ_self _))
  have I2 := Inv.made (C := C) I
  have r2 : Vals (V.ref (s.heap.objs.size + 1) :: (vs ++ dvs)) (Value.ref (s.heap.objs.size + 1) :: (us ++ ds)) := .cons rfl (r.append hd)
  have hl : (Value.ref (s.heap.objs.size + 1) :: us ++ ds).length = ps.length := by
    have e := r2.length
    rw [F.len _ _ _ _ hq] at e
    exact e.symm
  refine wpAny_call (make_map (f := f) I.kIn M.makes M.init (beq_iff_eq.mp M.fn) (codeAny_mono (F.run _ X.stack _ _ ⟨Value.ref (s.heap.objs.size + 1) :: us, []⟩ (Value.ref (s.heap.objs.size + 1) :: (us ++ ds)) _ _ (E σ) (hr.make C us [])
    (I2.env0.make C us []) (hb _ (Value.ref (s.heap.objs.size + 1) :: us) I2.kIn hl) r2 hq) fun r s' hq' => ?_))
  cases r with
  | error e => exact hx pins _ _ e s' I2 hq'
  | ok fl =>
    cases fl with
    | ret u =>
      obtain ⟨v, H', I3, rv, ev, q3⟩ := I2.after hq'
      subst ev
      exact ⟨rv, ⟨V.ref (s.heap.objs.size + 1), H', I3, rfl, q3⟩⟩
    | next => exact False.elim hq'
    | brk => exact False.elim hq'
    | cont => exact False.elim hq'
theorem pe_makeSD (M : Mk X.K C f) (F : FnOk X.prog X.w X.K X.mg X.base CX k f fd ps sp) (hr : Room (k + 1) X.A) (hg : Gl X x) (hm : X.mg x = some (.ref C)) (hb : Binds X.K fd ps ds) (hd : Vals dvs ds) (hx : ∀ σ, PassesAt CX X σ (E σ))
    (ha : PA X (e :: es) t) (hdb : (x == ("__debug__" : Str)) = false) (he : starEach (e :: es) X.env = (false, eval e X.env) :: starEach es X.env) (hpl : (backTo pos (starEach es X.env)).any (·.1) = false) :
    PE X (.Call (.Name x p) (e :: es) [] pos) (tMakeSD C sp dvs E t) := by
  refine ⟨fun pins s σ H Q I h => ?_⟩
  refine wpAny_Call_Name_kw (ld_glob I hg hm ?_ hdb)
  refine PySem.W.callWith_K (h₀ := X.base) I.ok.mod.kin M.kp (thn (ha.run pos pins s σ H _ I h) fun us s1 ⟨vs, H1, I1, r, q⟩ => ⟨I1.kIn, ?_⟩) he hpl
  exact run_makeSD M F hr hb hd (hx σ) I1 r q
theorem pe_make0SD (M : Mk X.K C f) (F : FnOk X.prog X.w X.K X.mg X.base CX k f fd ps sp) (hr : Room (k + 1) X.A) (hg : Gl X x) (hm : X.mg x = some (.ref C)) (hb : Binds X.K fd ps ds) (hd : Vals dvs ds) (hx : ∀ σ, PassesAt CX X σ (E σ))
    (hdb : (x == ("__debug__" : Str)) = false) : PE X (.Call (.Name x p) [] [] pos) (tMakeSD C sp dvs E tNil) := by
  refine ⟨fun pins s σ H Q I h => ?_⟩
  refine wpAny_Call_Name_kw (ld_glob I hg hm ?_ hdb)
  exact PySem.W.callWith_K0 I.kIn M.kp (run_makeSD (us := []) M F hr hb hd (hx σ) I .nil h)
/-- f(e, .., k = v, ..) -/
def tCallKSD (sp : Sp) (gV : List V → List V → List V) (E : L2.St → XK) (t tk : TA) : TE := fun σ H Q => t σ H fun vs H1 => tk σ H1 fun zs H2 => sp (gV vs zs) H2 Q (E σ)
variable {g : List Value → List Value → List Value} {gV : List V → List V → List V}
theorem run_fnkSD {pins : List (Addr × Obj)} {σ : L2.St} {H : Hp} {s : Shared} {Q : VK} {us ws : List Value} {vs zs : List V} (F : FnOk X.prog X.w X.K X.mg X.base CX k f fd ps sp) (hr : Room k X.A) (hb : KBinds X.K fd ps ks g gV) (hx : PassesAt CX X σ (E σ))
    (I : L2.Inv X pins σ H s) (r : Vals vs us) (rz : Vals zs ws) (h : sp (gV vs zs) H Q (E σ)) : wpAny (model X.prog X.w) X.A (call (.ref f) us (ks.zip ws)) (EP X pins σ Q) X.xe s := by
  have r2 := hb.rel r rz
  have hl : (g us ws).length = ps.length := by rw [← r2.length]; exact F.len _ _ _ _ h
  refine wpAny_call (codeAny_mono (F.run X.A X.stack s H ⟨us, ks.zip ws⟩ (g us ws) (gV vs zs) Q (E σ) hr I.env0 (hb.to s us ws I.kIn hl) r2 h) fun r s' hq => ?_)
  cases r with
  | error e => exact hx pins H s e s' I hq
  | ok fl =>
    cases fl with
    | ret u => exact I.after hq
    | next => exact False.elim hq
    | brk => exact False.elim hq
    | cont => exact False.elim hq
theorem pe_callKSD (F : FnOk X.prog X.w X.K X.mg X.base CX k f fd ps sp) (hr : Room k X.A) (hg : Gl X x) (hm : X.mg x = some (.ref f)) (hk : PySem.W.keepIn X.K (.ref f) = true) (hb : KBinds X.K fd ps ks g gV) (hx : ∀ σ, PassesAt CX X σ (E σ))
    (ha : PA X (e :: es) t) (hkw : PK X kws tk) (hall : (backToKw pos (keywordEach kws X.env)).all (·.1.isSome) = true) (hks : (backToKw pos (keywordEach kws X.env)).filterMap (·.1) = ks)
    (hdb : (x == ("__debug__" : Str)) = false) (he : starEach (e :: es) X.env = (false, eval e X.env) :: starEach es X.env)
    (hpl : ((backTo pos (starEach (e :: es) X.env)).any (·.1) || (backToKw pos (keywordEach kws X.env)).any (·.1.isNone)) = false) :
    PE X (.Call (.Name x p) (e :: es) kws pos) (tCallKSD sp gV E t tk) := by
  refine ⟨fun pins s σ H Q I h => ?_⟩
  refine wpAny_Call_Name_kw (ld_glob I hg hm ?_ hdb)
  refine PySem.W.callWith_KW (h₀ := X.base) I.ok.mod.kin hk hall (thn (ha.run pos pins s σ H _ I h) fun us s1 ⟨vs, H1, I1, r, q⟩ => ?_) hpl he
  refine thn (hkw.run pos pins s1 σ H1 _ I1 q) fun ws s2 ⟨zs, H2, I2, rz, q2⟩ => ⟨I2.kIn, ?_⟩
  rw [hks]
  exact run_fnkSD F hr hb (hx σ) I2 r rz q2
end
end Pv
/-! Pv: arguments; what a def promises by the evaluator. -/
namespace Pv
open PySem L2
/-- the places of the arguments among the parameters -/
def pmIx : List Pm → List Nat
  | [] => []
  | .arg n :: ps => n :: pmIx ps
  | .dfl _ :: ps => pmIx ps
section
variable {α β : Type}
theorem pick_len {xs : List α} {dv : Nat → Option α} : ∀ {pm : List Pm} {ys : List α}, pick xs dv pm = some ys → ys.length = pm.length
  | [], ys, h => by cases h; rfl
  | .arg n :: ps, ys, h => by
    unfold pick at h
    cases e : xs[n]? with
    | none => rw [e] at h; cases h
    | some x =>
      rw [e] at h
      have h' : (pick xs dv ps).map (x :: ·) = some ys := h
      cases z : pick xs dv ps with
      | none => rw [z] at h'; cases h'
      | some zs => rw [z] at h'; cases h'; rw [List.length_cons, List.length_cons, pick_len z]
  | .dfl n :: ps, ys, h => by
    unfold pick at h
    cases e : dv n with
    | none => rw [e] at h; cases h
    | some x =>
      rw [e] at h
      have h' : (pick xs dv ps).map (x :: ·) = some ys := h
      cases z : pick xs dv ps with
      | none => rw [z] at h'; cases h'
      | some zs => rw [z] at h'; cases h'; rw [List.length_cons, List.length_cons, pick_len z]
end
section
variable (K : PySem.W.Frag) (Γ : Gm)
def RepA (H : Hp) (F : AP) (σ : L2.St) : Arg → V → List Addr → Prop
  | .val m, v, fp => RepM K Γ true H F m v fp
  | .bor i, v, fp => fp = [] ∧ σ[i]? = some (some v)
/-- arguments, each with its own footprint -/
def RepAs (H : Hp) (F : AP) (σ : L2.St) : List Arg → List V → List (List Addr) → Prop
  | [], vs, fs => vs = [] ∧ fs = []
  | a :: as, vs, fs => ∃ v t f g, vs = v :: t ∧ fs = f :: g ∧ RepA K Γ H F σ a v f ∧ RepAs H F σ as t g
/-- behind the arguments -/
def ResA (H : Hp) (F G P : AP) (e : Env) (σ : L2.St) (ow : List Addr) (as : List Arg) (e' : Env) (vs : List V) (H' : Hp) : Prop :=
  ∃ F' ow' fs, Rst K Γ H' F' G P e' σ ow' ∧ Sep H' F' G P ow' fs.flatten ∧ Stp H F ow H' F' (ow' ++ fs.flatten) ∧ RepAs K Γ H' F' σ as vs fs ∧ LK e e' ∧ LR σ σ e e'
def OutA (W : WX) (H : Hp) (F G P : AP) (env : Env) (σ : L2.St) (ow : List Addr) (Q : List V → Hp → Prop) : Out (List Arg) → Prop
  | .ok r e => ∀ v H', ResA K Γ H F G P env σ ow r e v H' → Q v H'
  | .exc c ds e => ∀ cls d H', ResX K Γ H F G P env σ ow c ds e cls d H' → W cls d σ H'
  | .stuck => False
def rdA (W : WX) (o : Env → Out (List Arg)) : TA := fun σ H Q => ∃ F G P env ow, Rst K Γ H F G P env σ ow ∧ OutA K Γ W H F G P env σ ow Q (o env)
def RepOuts (H : Hp) (F : AP) : List (Option M) → List V → List Addr → Prop
  | [], _, fp => fp = []
  | none :: os, vs, fp => RepOuts H F os (vs.drop 1) fp
  | some m :: os, vs, fp => ∃ v t f1 f2, vs = v :: t ∧ fp = f1 ++ f2 ∧ RepM K Γ true H F m v f1 ∧ RepOuts H F os t f2
/-- what a def promises -/
def spI (C : Calls) (f : Nat) : Sp := fun vs H Q E => ∃ (F : AP) (ms : List M) (fp : List Addr), RepMs K Γ true H F ms vs fp ∧ fp.Nodup ∧ (∀ a ∈ fp, ¬ F a) ∧ (∀ a, F a → ∃ o, H a = some o) ∧
  match C f ms with
  | .ok m outs => ∀ v H', (∃ F' fo fr, Stp H F fp H' F' (fo ++ fr) ∧ RepOuts K Γ H' F' outs vs fo ∧ RepM K Γ true H' F' m v fr ∧ (fo ++ fr).Nodup ∧ (∀ a ∈ fo ++ fr, ¬ F' a) ∧ (∀ a, F' a → ∃ o, H' a = some o)) → Q v H'
  | .exc c ds outs => ∀ cls d H', (∃ F' fo, Stp H F fp H' F' fo ∧ RepOuts K Γ H' F' outs vs fo ∧ XRep K Γ H' F' c ds cls d ∧ fo.Nodup ∧ (∀ a ∈ fo, ¬ F' a) ∧ (∀ a, F' a → ∃ o, H' a = some o)) → E cls d H'
  | .stuck => False
end
section
variable {K : PySem.W.Frag} {Γ : Gm} {W : WX} {H H' H1 H2 : Hp} {F F' F1 F2 G P : AP} {e e' e1 e2 env : Env} {σ : L2.St} {ow ow' ow1 ow2 fp fr : List Addr}
theorem RepA.ext {a : Arg} {v : V} {fp : List Addr} (x : Ext H H' F F') (h : RepA K Γ H F σ a v fp) (o : ∀ a ob, a ∈ fp → H a = some ob → H' a = some ob) : RepA K Γ H' F' σ a v fp := by
  cases a with
  | val m => exact RepM.ext x h (.of o)
  | bor i => exact h
theorem RepA.nd {a : Arg} {v : V} {fp : List Addr} (h : RepA K Γ H F σ a v fp) : ∀ c ∈ fp, ∃ o, H c = some o := by
  cases a with
  | val m => exact RepM.has h
  | bor i => intro c hc; rw [h.1] at hc; cases hc
theorem RepAs.get : ∀ {as : List Arg} {vs : List V} {fs : List (List Addr)} {n : Nat} {a : Arg}, RepAs K Γ H F σ as vs fs → as[n]? = some a → ∃ v f, vs[n]? = some v ∧ fs[n]? = some f ∧ RepA K Γ H F σ a v f
  | [], _, _, _, _, _, e => by simp at e
  | b :: as, _, _, 0, a, ⟨v, t, f, g, e1, e2, h, q⟩, e => by
    obtain rfl : b = a := by simpa using e
    exact ⟨v, f, by rw [e1]; rfl, by rw [e2]; rfl, h⟩
  | b :: as, _, _, n + 1, a, ⟨v, t, f, g, e1, e2, h, q⟩, e => by
    obtain ⟨w, f', a1, a2, a3⟩ := RepAs.get (n := n) q (by simpa using e)
    exact ⟨w, f', by rw [e1]; simpa using a1, by rw [e2]; simpa using a2, a3⟩
theorem flat_sep {fs : List (List Addr)} (h : fs.flatten.Nodup) : ∀ {i j : Nat} {f g : List Addr} {a : Addr}, fs[i]? = some f → fs[j]? = some g → a ∈ f → a ∈ g → i = j := by
  induction fs with
  | nil => intro i j f g a e; simp at e
  | cons x fs ih =>
    rw [List.flatten_cons, List.nodup_append] at h
    obtain ⟨h1, h2, h3⟩ := h
    intro i j f g a e1 e2 m1 m2
    cases i with
    | zero =>
      cases j with
      | zero => rfl
      | succ j =>
        have e1' : x = f := by simpa using e1
        subst e1'
        exact absurd rfl (h3 a m1 a (List.mem_flatten.mpr ⟨g, List.mem_of_getElem? (show fs[j]? = some g by simpa using e2), m2⟩))
    | succ i =>
      cases j with
      | zero =>
        have e2' : x = g := by simpa using e2
        subst e2'
        exact absurd rfl (h3 a m2 a (List.mem_flatten.mpr ⟨f, List.mem_of_getElem? (show fs[i]? = some f by simpa using e1), m1⟩))
      | succ j => exact congrArg Nat.succ (ih (i := i) (j := j) h2 (by simpa using e1) (by simpa using e2) m1 m2)
theorem flat_one {fs : List (List Addr)} (h : fs.flatten.Nodup) {i : Nat} {f : List Addr} (e : fs[i]? = some f) : f.Nodup :=
  h.sublist (List.sublist_flatten_of_mem (List.mem_of_getElem? e))
/-- the arguments at the parameters' places -/
theorem RepAs.pick {as : List Arg} {vs : List V} {fs : List (List Addr)} {dA : Nat → Option Arg} {dV : Nat → Option V} (h : RepAs K Γ H F σ as vs fs) (nd : fs.flatten.Nodup)
    (hd : ∀ n a, dA n = some a → ∃ v, dV n = some v ∧ RepA K Γ H F σ a v []) : ∀ {pm : List Pm} {bs : List Arg}, Pv.pick as dA pm = some bs → (pmIx pm).Nodup →
    ∃ ws gs, Pv.pick vs dV pm = some ws ∧ RepAs K Γ H F σ bs ws gs ∧ gs.flatten.Nodup ∧ ∀ a ∈ gs.flatten, ∃ n f, n ∈ pmIx pm ∧ fs[n]? = some f ∧ a ∈ f
  | [], bs, e, _ => by cases e; exact ⟨[], [], rfl, ⟨rfl, rfl⟩, List.nodup_nil, fun _ h => (nomatch h)⟩
  | .arg n :: pm, bs, e, ix => by
    unfold Pv.pick at e
    cases ea : as[n]? with
    | none => rw [ea] at e; cases e
    | some a =>
      rw [ea] at e
      have e' : (Pv.pick as dA pm).map (a :: ·) = some bs := e
      cases z : Pv.pick as dA pm with
      | none => rw [z] at e'; cases e'
      | some zs =>
        rw [z] at e'
        cases e'
        obtain ⟨v, f, a1, a2, a3⟩ := h.get ea
        have ix' : n ∉ pmIx pm ∧ (pmIx pm).Nodup := List.nodup_cons.mp ix
        obtain ⟨ws, gs, b1, b2, b3, b4⟩ := RepAs.pick h nd hd z ix'.2
        refine ⟨v :: ws, f :: gs, by unfold Pv.pick; rw [a1, b1]; rfl, ⟨v, ws, f, gs, rfl, rfl, a3, b2⟩, ?_, fun c hc => ?_⟩
        · rw [List.flatten_cons, List.nodup_append]
          refine ⟨flat_one nd a2, b3, fun c hc d hd' q => ?_⟩
          subst q
          obtain ⟨n', f', m1, m2, m3⟩ := b4 c hd'
          have q : n = n' := flat_sep nd a2 m2 hc m3
          exact ix'.1 (by rw [q]; exact m1)
        · rw [List.flatten_cons] at hc
          rcases List.mem_append.mp hc with hc | hc
          · exact ⟨n, f, List.mem_cons_self, a2, hc⟩
          · obtain ⟨n', f', m1, m2, m3⟩ := b4 c hc
            exact ⟨n', f', List.mem_cons_of_mem _ m1, m2, m3⟩
  | .dfl n :: pm, bs, e, ix => by
    unfold Pv.pick at e
    cases ea : dA n with
    | none => rw [ea] at e; cases e
    | some a =>
      rw [ea] at e
      have e' : (Pv.pick as dA pm).map (a :: ·) = some bs := e
      cases z : Pv.pick as dA pm with
      | none => rw [z] at e'; cases e'
      | some zs =>
        rw [z] at e'
        cases e'
        obtain ⟨v, a1, a3⟩ := hd n a ea
        obtain ⟨ws, gs, b1, b2, b3, b4⟩ := RepAs.pick h nd hd z ix
        exact ⟨v :: ws, [] :: gs, by unfold Pv.pick; rw [a1, b1]; rfl, ⟨v, ws, [], gs, rfl, rfl, a3, b2⟩, by rw [List.flatten_cons, List.nil_append]; exact b3, fun c hc => b4 c (by rwa [List.flatten_cons, List.nil_append] at hc)⟩
/-- the trees are handed over: the slots that are borrowed are emptied -/
theorem takeA_ok : ∀ {bs : List Arg} {vs : List V} {gs : List (List Addr)} {e e1 : Env} {ow : List Addr} {ms : List M}, RepAs K Γ H F σ bs vs gs → RepEnv K Γ H F G e σ ow → takeA bs e = some (ms, e1) → ow.Nodup → gs.flatten.Nodup → (∀ a ∈ gs.flatten, a ∉ ow) →
    ∃ fp ow1, RepMs K Γ true H F ms vs fp ∧ RepEnv K Γ H F G e1 σ ow1 ∧ fp.Nodup ∧ ow1.Nodup ∧ (∀ a ∈ fp, a ∉ ow1) ∧ (∀ a ∈ fp, a ∈ ow ∨ a ∈ gs.flatten) ∧ (∀ a ∈ ow1, a ∈ ow)
  | [], _, gs, e, e1, ow, ms, ⟨h1, h2⟩, R, t, n1, n2, n3 => by
    unfold takeA at t
    cases t
    exact ⟨[], ow, ⟨h1, rfl⟩, R, List.nodup_nil, n1, fun _ h => (nomatch h), fun _ h => (nomatch h), fun _ h => h⟩
  | .val m :: bs, _, _, e, e1, ow, ms, ⟨v, t, f, g, ev, ef, h, q⟩, R, hk, n1, n2, n3 => by
    unfold takeA at hk
    cases z : takeA bs e with
    | none => rw [z] at hk; cases hk
    | some w =>
      obtain ⟨ms', e'⟩ := w
      rw [z] at hk
      cases hk
      rw [ef, List.flatten_cons] at n2 n3
      rw [List.nodup_append] at n2
      obtain ⟨fp, ow1, a1, a2, a3, a4, a5, a6, a7⟩ := takeA_ok q R z n1 n2.2.1 fun a ha => n3 a (List.mem_append_right _ ha)
      refine ⟨f ++ fp, ow1, ⟨v, t, f, fp, ev, rfl, h, a1⟩, a2, ?_, a4, fun a ha => ?_, fun a ha => ?_, a7⟩
      · rw [List.nodup_append]
        refine ⟨n2.1, a3, fun a ha b hb q => ?_⟩
        subst q
        rcases a6 a hb with z | z
        · exact n3 a (List.mem_append_left _ ha) z
        · exact n2.2.2 a ha a z rfl
      · rcases List.mem_append.mp ha with ha | ha
        · exact fun z => n3 a (List.mem_append_left _ ha) (a7 a z)
        · exact a5 a ha
      · rcases List.mem_append.mp ha with ha | ha
        · exact .inr (by rw [ef, List.flatten_cons]; exact List.mem_append_left _ ha)
        · rcases a6 a ha with z | z
          · exact .inl z
          · exact .inr (by rw [ef, List.flatten_cons]; exact List.mem_append_right _ z)
  | .bor i :: bs, _, _, e, e1, ow, ms, ⟨v, t, f, g, ev, ef, ⟨h1, h2⟩, q⟩, R, hk, n1, n2, n3 => by
    unfold takeA at hk
    split at hk
    · rename_i m hm
      cases z : takeA bs (e.set i .no) with
      | none => rw [z] at hk; cases hk
      | some w =>
        obtain ⟨ms', e'⟩ := w
        rw [z] at hk
        cases hk
        obtain ⟨o1, fi, o2, u, b1, b2, b3, b4⟩ := R.take hm
        have hu : v = u := by rw [h2] at b2; exact Option.some.inj (Option.some.inj b2)
        subst hu
        rw [ef, h1, List.flatten_cons, List.nil_append] at n2 n3
        have nd' := n1
        rw [b1, List.nodup_append, List.nodup_append] at nd'
        obtain ⟨k1, ⟨k2, k3, k4⟩, k5⟩ := nd'
        have n1' : (o1 ++ o2).Nodup := List.nodup_append.mpr ⟨k1, k3, fun a ha b hb q => k5 a ha b (List.mem_append_right _ hb) q⟩
        have sub : ∀ a, a ∈ o1 ++ o2 → a ∈ ow := fun a ha => by
          rw [b1]
          rcases List.mem_append.mp ha with ha | ha
          · exact List.mem_append_left _ ha
          · exact List.mem_append_right _ (List.mem_append_right _ ha)
        obtain ⟨fp, ow1, a1, a2, a3, a4, a5, a6, a7⟩ := takeA_ok q b4 z n1' n2 fun a ha z => n3 a ha (sub a z)
        have fi_ow : ∀ a ∈ fi, a ∈ ow := fun a ha => by rw [b1]; exact List.mem_append_right _ (List.mem_append_left _ ha)
        have fi_no : ∀ a ∈ fi, a ∉ o1 ++ o2 := fun a ha z => by
          rcases List.mem_append.mp z with z | z
          · exact k5 a z a (List.mem_append_left _ ha) rfl
          · exact k4 a ha a z rfl
        refine ⟨fi ++ fp, ow1, ⟨v, t, fi, fp, ev, rfl, b3, a1⟩, a2, ?_, a4, fun a ha => ?_, fun a ha => ?_, fun a ha => sub a (a7 a ha)⟩
        · rw [List.nodup_append]
          refine ⟨k2, a3, fun a ha b hb q => ?_⟩
          subst q
          rcases a6 a hb with z | z
          · exact fi_no a ha z
          · exact n3 a z (fi_ow a ha)
        · rcases List.mem_append.mp ha with ha | ha
          · exact fun z => fi_no a ha (a7 a z)
          · exact a5 a ha
        · rcases List.mem_append.mp ha with ha | ha
          · exact .inl (fi_ow a ha)
          · rcases a6 a ha with z | z
            · exact .inl (sub a z)
            · exact .inr (by rw [ef, h1, List.flatten_cons, List.nil_append]; exact z)
    · cases hk
/-- .. and come back -/
theorem giveA_ok : ∀ {bs : List Arg} {vs : List V} {gs : List (List Addr)} {e : Env} {ow fo : List Addr} {os : List (Option M)} {H0 : Hp} {F0 : AP}, RepAs K Γ H0 F0 σ bs vs gs → RepEnv K Γ H F G e σ ow → RepOuts K Γ H F os vs fo → (∀ i, Arg.bor i ∈ bs → e.at i = .no) → (bs.filterMap fun b => match b with | .bor i => some i | _ => none).Nodup →
    (ow ++ fo).Nodup → ∃ ow2, RepEnv K Γ H F G (giveA bs os e) σ ow2 ∧ ow2.Nodup ∧ (∀ a ∈ ow2, a ∈ ow ∨ a ∈ fo) ∧ ∀ j, (giveA bs os e).at j = e.at j ∨ (Arg.bor j ∈ bs ∧ ∃ m, (giveA bs os e).at j = .ok m true)
  | [], _, _, e, ow, fo, os, H0, F0, _, R, ho, _, _, nd => by
    have : giveA [] os e = e := by cases os <;> rfl
    rw [this]
    exact ⟨ow, R, (List.nodup_append.mp nd).1, fun a h => .inl h, fun j => .inl rfl⟩
  | b :: bs, _, _, e, ow, fo, [], H0, F0, _, R, ho, _, _, nd => by
    have : giveA (b :: bs) [] e = e := by cases b <;> rfl
    rw [this]
    exact ⟨ow, R, (List.nodup_append.mp nd).1, fun a h => .inl h, fun j => .inl rfl⟩
  | .val m :: bs, _, _, e, ow, fo, o :: os, H0, F0, ⟨v, t, f, g, ev, ef, h, q⟩, R, ho, hn, hx, nd => by
    have e1 : giveA (.val m :: bs) (o :: os) e = giveA bs os e := by cases o <;> rfl
    rw [e1]
    have ho' : ∃ fo', RepOuts K Γ H F os t fo' ∧ fo'.Sublist fo := by
      cases o with
      | none =>
        have ho' : RepOuts K Γ H F os (v :: t |>.drop 1) fo := by rw [← ev]; exact ho
        exact ⟨fo, ho', .refl _⟩
      | some m' =>
        obtain ⟨v', t', f1, f2, a1, a2, a3, a4⟩ := ho
        rw [ev] at a1
        obtain rfl : t = t' := (List.cons.inj a1).2
        exact ⟨f2, a4, by rw [a2]; exact List.sublist_append_right _ _⟩
    obtain ⟨fo', ho', sl⟩ := ho'
    obtain ⟨ow2, b1, b2, b3, b4⟩ := giveA_ok q R ho' (fun i hi => hn i (List.mem_cons_of_mem _ hi)) (by simpa using hx) (nd.sublist (List.Sublist.append_left sl ow))
    exact ⟨ow2, b1, b2, fun a ha => (b3 a ha).imp id fun z => sl.subset z, fun j => (b4 j).imp id fun ⟨z, w⟩ => ⟨List.mem_cons_of_mem _ z, w⟩⟩
  | .bor i :: bs, _, _, e, ow, fo, none :: os, H0, F0, ⟨v, t, f, g, ev, ef, h, q⟩, R, ho, hn, hx, nd => by
    have e1 : giveA (.bor i :: bs) (none :: os) e = giveA bs os e := rfl
    rw [e1]
    have hx' : i ∉ (bs.filterMap fun b => match b with | .bor i => some i | _ => none) ∧ (bs.filterMap fun b => match b with | .bor i => some i | _ => none).Nodup := List.nodup_cons.mp hx
    have ho' : RepOuts K Γ H F os (v :: t |>.drop 1) fo := by rw [← ev]; exact ho
    obtain ⟨ow2, b1, b2, b3, b4⟩ := giveA_ok q R ho' (fun j hj => hn j (List.mem_cons_of_mem _ hj)) hx'.2 nd
    exact ⟨ow2, b1, b2, b3, fun j => (b4 j).imp id fun ⟨z, w⟩ => ⟨List.mem_cons_of_mem _ z, w⟩⟩
  | .bor i :: bs, _, _, e, ow, fo, some m :: os, H0, F0, ⟨v, t, f, g, ev, ef, ⟨h1, h2⟩, q⟩, R, ⟨v', t', f1, f2, a1, a2, a3, a4⟩, hn, hx, nd => by
    have e1 : giveA (.bor i :: bs) (some m :: os) e = giveA bs os (e.set i (.ok m true)) := rfl
    rw [e1]
    rw [ev] at a1
    obtain rfl : v = v' := (List.cons.inj a1).1
    obtain rfl : t = t' := (List.cons.inj a1).2
    have hx' : i ∉ (bs.filterMap fun b => match b with | .bor i => some i | _ => none) ∧ (bs.filterMap fun b => match b with | .bor i => some i | _ => none).Nodup := List.nodup_cons.mp hx
    have hi : e.at i = .no := hn i List.mem_cons_self
    obtain ⟨o1, o2, c1, c2⟩ := R.put hi h2 a3
    have il : i < e.length := by
      rw [R.len]
      exact (List.getElem?_eq_some_iff.mp h2).1
    have nd2 : ((o1 ++ (f1 ++ o2)) ++ f2).Nodup := by
      rw [c1, a2] at nd
      refine (List.Perm.nodup_iff ?_).mp nd
      simp only [List.append_assoc]
      refine List.Perm.append_left o1 ?_
      rw [← List.append_assoc, ← List.append_assoc]
      exact (List.perm_append_comm).append_right f2
    have ni : ∀ j, Arg.bor j ∈ bs → j ≠ i := fun j hj q => by
      subst q
      exact hx'.1 (List.mem_filterMap.mpr ⟨_, hj, rfl⟩)
    obtain ⟨ow2, b1, b2, b3, b4⟩ := giveA_ok q c2 a4 (fun j hj => by rw [at_set_ne (ni j hj).symm]; exact hn j (List.mem_cons_of_mem _ hj)) hx'.2 nd2
    refine ⟨ow2, b1, b2, fun a ha => ?_, fun j => ?_⟩
    · rcases b3 a ha with z | z
      · rcases List.mem_append.mp z with z | z
        · exact .inl (by rw [c1]; exact List.mem_append_left _ z)
        · rcases List.mem_append.mp z with z | z
          · exact .inr (by rw [a2]; exact List.mem_append_left _ z)
          · exact .inl (by rw [c1]; exact List.mem_append_right _ z)
      · exact .inr (by rw [a2]; exact List.mem_append_right _ z)
    · rcases b4 j with z | ⟨z, w⟩
      · by_cases c : i = j
        · subst c
          exact .inr ⟨List.mem_cons_self, m, by rw [z, at_set_self il]⟩
        · exact .inl (by rw [z, at_set_ne c])
      · exact .inr ⟨List.mem_cons_of_mem _ z, w⟩
end
end Pv
/-! Pv: a call, by the evaluator. -/
namespace Pv
open PySem L2
abbrev borIx (bs : List Arg) : List Nat := bs.filterMap fun b => match b with | .bor i => some i | _ => none
theorem mem_borIx {bs : List Arg} {i : Nat} : i ∈ borIx bs ↔ Arg.bor i ∈ bs := by
  constructor
  · intro h
    obtain ⟨b, hb, e⟩ := List.mem_filterMap.mp h
    cases b with
    | bor j => cases e; exact hb
    | val m => cases e
  · intro h
    exact List.mem_filterMap.mpr ⟨_, h, rfl⟩
theorem takeA_at : ∀ {bs : List Arg} {e e1 : Env} {ms : List M}, takeA bs e = some (ms, e1) → (∀ i, Arg.bor i ∈ bs → e1.at i = .no ∧ ∃ m, e.at i = .ok m true) ∧ (∀ j, Arg.bor j ∉ bs → e1.at j = e.at j) ∧ (borIx bs).Nodup
  | [], e, e1, ms, h => by
    unfold takeA at h
    cases h
    exact ⟨fun _ h => (nomatch h), fun _ _ => rfl, List.nodup_nil⟩
  | .val m :: bs, e, e1, ms, h => by
    unfold takeA at h
    cases z : takeA bs e with
    | none => rw [z] at h; cases h
    | some w =>
      obtain ⟨ms', e'⟩ := w
      rw [z] at h
      cases h
      obtain ⟨a, b, c⟩ := takeA_at z
      exact ⟨fun i hi => a i (by simpa using hi), fun j hj => b j fun z => hj (List.mem_cons_of_mem _ z), c⟩
  | .bor i :: bs, e, e1, ms, h => by
    unfold takeA at h
    split at h
    · rename_i m hm
      cases z : takeA bs (e.set i .no) with
      | none => rw [z] at h; cases h
      | some w =>
        obtain ⟨ms', e'⟩ := w
        rw [z] at h
        cases h
        obtain ⟨a, b, c⟩ := takeA_at z
        have il : i < e.length := at_len (by rw [hm]; intro z; cases z)
        have hi : Arg.bor i ∉ bs := fun q => by
          obtain ⟨_, m', q'⟩ := a i q
          rw [at_set_self il] at q'
          cases q'
        refine ⟨fun j hj => ?_, fun j hj => ?_, ?_⟩
        · by_cases c : i = j
          · subst c
            exact ⟨by rw [b i hi, at_set_self il], m, hm⟩
          · rcases List.mem_cons.mp hj with q | q
            · cases q; exact absurd rfl c
            · obtain ⟨q1, m', q2⟩ := a j q
              rw [at_set_ne c] at q2
              exact ⟨q1, m', q2⟩
        · have c : i ≠ j := fun q => hj (by rw [q]; exact List.mem_cons_self)
          rw [b j fun q => hj (List.mem_cons_of_mem _ q), at_set_ne c]
        · show (i :: borIx bs).Nodup
          exact List.nodup_cons.mpr ⟨fun q => hi (mem_borIx.mp q), c⟩
    · cases h
section
variable {K : PySem.W.Frag} {Γ : Gm} {W : WX} {H H' H1 H2 : Hp} {F F' F1 F2 G P : AP} {e e' e1 e2 env : Env} {σ : L2.St} {ow ow' ow1 ow2 fp fr : List Addr}
/-- behind a call: the state of the caller -/
theorem after_call {bs : List Arg} {ws : List V} {gs : List (List Addr)} {ms : List M} {fs : List Addr}
    (R1 : Rst K Γ H1 F1 G P e1 σ ow1) (S1 : Sep H1 F1 G P ow1 fs) (T1 : Stp H F ow H1 F1 (ow1 ++ fs)) (l1 : LK e e1) (lr1 : LR σ σ e e1)
    (hb : RepAs K Γ H1 F1 σ bs ws gs) (hg1 : gs.flatten.Nodup) (hg2 : ∀ a ∈ gs.flatten, a ∈ fs) (ht : takeA bs e1 = some (ms, e2)) :
    ∃ fc, RepMs K Γ true H1 F1 ms ws fc ∧ fc.Nodup ∧ (∀ a ∈ fc, ¬ F1 a) ∧
      ∀ {H' : Hp} {F' : AP} {outs : List (Option M)} {fo fr : List Addr}, Stp H1 F1 fc H' F' (fo ++ fr) → RepOuts K Γ H' F' outs ws fo → (fo ++ fr).Nodup → (∀ a ∈ fo ++ fr, ¬ F' a) → (∀ a, F' a → ∃ o, H' a = some o) → (∀ a ∈ fr, ∃ o, H' a = some o) →
        ∃ ow3, Rst K Γ H' F' G P (giveA bs outs e2) σ ow3 ∧ Sep H' F' G P ow3 fr ∧ Stp H F ow H' F' (ow3 ++ fr) ∧ LK e (giveA bs outs e2) ∧ LR σ σ e (giveA bs outs e2) := by
  obtain ⟨fc, owc, a1, a2, a3, a4, a5, a6, a7⟩ := takeA_ok hb R1.rep ht R1.nd hg1 fun a h => S1.dO a (hg2 a h)
  have cF : ∀ a ∈ fc, ¬ F1 a := fun a h => (a6 a h).elim (R1.dF a) fun z => S1.dF a (hg2 a z)
  refine ⟨fc, a1, a3, cF, fun {H' F' outs fo fr} T2 ho nd dF iF hfr => ?_⟩
  obtain ⟨t1, t2, t3⟩ := takeA_at ht
  have cG : ∀ a ∈ fc, ¬ G a := fun a h => (a6 a h).elim (R1.dG a) fun z => S1.dG a (hg2 a z)
  have cP : ∀ a ∈ fc, ¬ P a := fun a h => (a6 a h).elim (R1.dP a) fun z => S1.dP a (hg2 a z)
  have cs : ∀ a ∈ fc, a ∈ ow1 ++ fs := fun a h => (a6 a h).elim (List.mem_append_left _) fun z => List.mem_append_right _ (hg2 a z)
  have hc : ∀ a ∈ owc, ∃ o, H1 a = some o := fun a h => R1.has a (a7 a h)
  -- what stands of the caller's slots
  have ex : Ext H1 H' F1 F' := .of T2.sub fun a o f q => T2.frame a o q fun z => cF a z f
  have Rc : RepEnv K Γ H' F' G e2 σ owc := a2.ext ex (fun a o h q => T2.frame a o q fun z => a5 a z h) fun a o g q => .inl (T2.frame a o q fun z => cG a z g)
  have nc : ∀ a ∈ owc, ¬ F' a := fun a h f => by
    rcases T2.new a f with z | z | z
    · exact R1.dF a (a7 a h) z
    · exact a5 a z h
    · obtain ⟨o, q⟩ := hc a h; rw [q] at z; cases z
  have noc : ∀ a ∈ fo ++ fr, a ∉ owc := fun a h z => by
    rcases T2.own a h with w | w
    · exact a5 a w z
    · obtain ⟨o, q⟩ := hc a z; rw [q] at w; cases w
  have nd' : (owc ++ fo).Nodup := List.nodup_append.mpr ⟨a4, (List.nodup_append.mp nd).1, fun a ha b hb q => by subst q; exact noc a (List.mem_append_left _ hb) ha⟩
  obtain ⟨ow3, b1, b2, b3, b4⟩ := giveA_ok hb Rc ho (fun i hi => (t1 i hi).1) t3 nd'
  have og : ∀ a ∈ fo ++ fr, ¬ G a := fun a h z => by
    rcases T2.own a h with w | w
    · exact cG a w z
    · obtain ⟨o, q⟩ := R1.iG a z; rw [q] at w; cases w
  have op : ∀ a ∈ fo ++ fr, ¬ P a := fun a h z => by
    rcases T2.own a h with w | w
    · exact cP a w z
    · obtain ⟨o, q⟩ := R1.iP a z; rw [q] at w; cases w
  have T := T1.trans T2 cs
  refine ⟨ow3, ⟨b1, b2, fun a h => (b3 a h).elim (nc a) fun z => dF a (List.mem_append_left _ z), fun a h => (b3 a h).elim (fun z => R1.dG a (a7 a z)) fun z => og a (List.mem_append_left _ z), fun a h => (b3 a h).elim (fun z => R1.dP a (a7 a z)) fun z => op a (List.mem_append_left _ z), iF,
      fun a g => let ⟨o, q⟩ := R1.iG a g; ⟨o, T2.frame a o q fun z => cG a z g⟩, fun a g => let ⟨o, q⟩ := R1.iP a g; ⟨o, T2.frame a o q fun z => cP a z g⟩⟩,
    ⟨(List.nodup_append.mp nd).2.1, hfr, fun a h => dF a (List.mem_append_right _ h), fun a h => og a (List.mem_append_right _ h), fun a h => op a (List.mem_append_right _ h), fun a h z => ?_⟩,
    ⟨T.frame, T.sub, T.new, fun a h => ?_⟩, fun i m q => ?_, fun i m q => ?_⟩
  · rcases b3 a z with w | w
    · exact noc a (List.mem_append_right _ h) w
    · exact (List.nodup_append.mp nd).2.2 a w a h rfl
  · rcases List.mem_append.mp h with h | h
    · rcases b3 a h with w | w
      · exact T1.own a (List.mem_append_left _ (a7 a w))
      · exact T.own a (List.mem_append_left _ w)
    · exact T.own a (List.mem_append_right _ h)
  · have q1 := l1 i m q
    have nb : Arg.bor i ∉ bs := fun z => by
      obtain ⟨_, m', q2⟩ := t1 i z
      rw [q1] at q2; cases q2
    rcases b4 i with z | ⟨z, _⟩
    · rw [z, t2 i nb]; exact q1
    · exact absurd z nb
  · rcases b4 i with z | ⟨z, m', w⟩
    · rw [z] at q
      have nb : Arg.bor i ∉ bs := fun y => by rw [(t1 i y).1] at q; cases q
      rw [t2 i nb] at q
      exact lr1 i m q
    · rw [w] at q; cases q
/-- the defaults -/
structure DflOk (K : PySem.W.Frag) (Γ : Gm) (cs : List D) (dV : Nat → Option V) : Prop where
  rep : ∀ n d, cs[n]? = some d → ∀ v, dV n = some v → ∀ H F, RepD K Γ H F d v
theorem dflA_ok {cs : List D} {dV : Nat → Option V} (h : DflOk K Γ cs dV) (t : ∀ n, (dV n).isSome = (dflA cs n).isSome) {n : Nat} {a : Arg} (e : dflA cs n = some a) : ∃ v, dV n = some v ∧ RepA K Γ H F σ a v [] := by
  have q := t n
  rw [e] at q
  obtain ⟨v, hv⟩ := Option.isSome_iff_exists.mp (by rw [q]; rfl : (dV n).isSome = true)
  unfold dflA at e
  cases c : cs[n]? with
  | none => rw [c] at e; cases e
  | some d =>
    rw [c] at e
    cases e
    exact ⟨v, hv, rfl, h.rep n d c v hv H F⟩
/-- a call's reading -/
theorem rd_call {oa : Env → Out (List Arg)} {C : Calls} {cs : List D} {f : Nat} {pm : List Pm} {dV : Nat → Option V} {Q : V → Hp → Prop}
    (h : rdE K Γ W (fun e => (oa e).bind fun as e => (callA C cs f as pm e).bind fun m e => Out.ok ⟨m, false⟩ e) false σ H Q) (hd : DflOk K Γ cs dV) (ht : ∀ n, (dV n).isSome = (dflA cs n).isSome) (hix : (pmIx pm).Nodup) :
    rdA K Γ W oa σ H fun vs H1 => ∃ ws, pick vs dV pm = some ws ∧ spI K Γ C f ws H1 Q (WE W σ) := by
  obtain ⟨F, G, P, env, ow, R, k⟩ := h
  refine ⟨F, G, P, env, ow, R, ?_⟩
  cases ha : oa env with
  | stuck => simp only [ha, Out.bind] at k; exact k
  | exc c ds e1 => simp only [ha, Out.bind] at k; exact k
  | ok as e1 =>
    simp only [ha, Out.bind] at k
    intro vs H1 ⟨F1, ow1, fs, R1, S1, T1, q1, l1, lr1⟩
    unfold callA at k
    cases hp : pick as (dflA cs) pm with
    | none => simp only [hp] at k; exact k.elim
    | some bs =>
      simp only [hp] at k
      obtain ⟨ws, gs, p1, p2, p3, p4⟩ := q1.pick S1.nd (fun n a e => dflA_ok (H := H1) (F := F1) (σ := σ) hd ht e) hp hix
      refine ⟨ws, p1, ?_⟩
      cases htk : takeA bs e1 with
      | none => simp only [htk] at k; exact k.elim
      | some w =>
        obtain ⟨ms, e2⟩ := w
        simp only [htk] at k
        obtain ⟨fc, c1, c2, c3, c4⟩ := after_call R1 S1 T1 l1 lr1 p2 p3 (fun a h => by
          obtain ⟨n, f', m1, m2, m3⟩ := p4 a h
          exact List.mem_flatten.mpr ⟨f', List.mem_of_getElem? m2, m3⟩) htk
        refine ⟨F1, ms, fc, c1, c2, c3, R1.iF, ?_⟩
        cases hc : C f ms with
        | stuck => simp only [hc] at k; exact k.elim
        | ok m outs =>
          simp only [hc] at k
          intro v H' ⟨F', fo, fr, T2, ho, hm, nd, dF, iF⟩
          obtain ⟨ow3, R3, S3, T3, l3, lr3⟩ := c4 T2 ho nd dF iF hm.has
          refine k v H' ⟨F', ow3, fr, R3, S3, T3, ?_, l3, lr3⟩ fun z => nomatch z
          show RepM K Γ true H' F' m v fr
          exact hm
        | exc c ds outs =>
          simp only [hc] at k
          intro cls d H' ⟨F', fo, T2, ho, hx, nd, dF, iF⟩
          obtain ⟨ow3, R3, S3, T3, l3, lr3⟩ := c4 (fr := []) (by rw [List.append_nil]; exact T2) ho (by rw [List.append_nil]; exact nd) (by rw [List.append_nil]; exact dF) iF (fun _ h => (nomatch h))
          rw [List.append_nil] at T3
          exact k cls d H' ⟨F', ow3, R3, T3, hx, l3, lr3⟩
end
end Pv
/-! Pv: tests by the evaluator; the leaves. -/
namespace Pv
open PySem L2
theorem PE.imp {X : Cx} {ex : Expr} {t t' : TE} (h : PE X ex t) (i : ∀ σ H Q, t' σ H Q → t σ H Q) : PE X ex t' := ⟨fun pins s σ H Q I q => h.run pins s σ H Q I (i _ _ _ q)⟩
theorem PT.imp {X : Cx} {ex : Expr} {t t' : TT} (h : PT X ex t) (i : ∀ σ H Q, t' σ H Q → t σ H Q) : PT X ex t' := ⟨fun pins s σ H Q I q => h.run pins s σ H Q I (i _ _ _ q)⟩
theorem PW.imp {X : Cx} {ex : Expr} {t t' : TT} (h : PW X ex t) (i : ∀ σ H Q, t' σ H Q → t σ H Q) : PW X ex t' := ⟨fun w pins s σ H Q I q => h.run w pins s σ H Q I (i _ _ _ q)⟩
theorem PA.imp {X : Cx} {ex : List Expr} {t t' : TA} (h : PA X ex t) (i : ∀ σ H Q, t' σ H Q → t σ H Q) : PA X ex t' := ⟨fun pos pins s σ H Q I q => h.run pos pins s σ H Q I (i _ _ _ q)⟩
theorem PS.imp {X : Cx} {ex : Stmt} {t t' : TS} (h : PS X ex t) (i : ∀ D σ H, t' D σ H → t D σ H) : PS X ex t' := ⟨fun pins s σ H Q I q => h.run pins s σ H Q I (i _ _ _ q)⟩
theorem PSs.imp {X : Cx} {ex : List Stmt} {t t' : TS} (h : PSs X ex t) (i : ∀ D σ H, t' D σ H → t D σ H) : PSs X ex t' := ⟨fun pins s σ H Q I q => h.run pins s σ H Q I (i _ _ _ q)⟩
theorem PI.imp {X : Cx} {tg ex : Expr} {t t' : TI} (h : PI X tg ex t) (i : ∀ σ H Q, t' σ H Q → t σ H Q) : PI X tg ex t' := ⟨fun pins s σ H Q I q => h.run pins s σ H Q I (i _ _ _ q)⟩
section
variable (K : PySem.W.Frag) (Γ : Gm) (W : WX)
def ResT (H : Hp) (F G P : AP) (e : Env) (σ : L2.St) (ow : List Addr) (e' : Env) (H' : Hp) : Prop := ∃ F' ow', Rst K Γ H' F' G P e' σ ow' ∧ Stp H F ow H' F' ow' ∧ LK e e' ∧ LR σ σ e e'
def OutT (H : Hp) (F G P : AP) (env : Env) (σ : L2.St) (ow : List Addr) (pu : Bool) (Q : Bool → Hp → Prop) : Out Bool → Prop
  | .ok b e => ∀ H', ResT K Γ H F G P env σ ow e H' → (pu = true → e = env ∧ ∀ a o, H a = some o → H' a = some o) → Q b H'
  | .exc c ds e => ∀ cls d H', ResX K Γ H F G P env σ ow c ds e cls d H' → W cls d σ H'
  | .stuck => False
def rdT (o : Env → Out Bool) (pu : Bool) : TT := fun σ H Q => ∃ F G P env ow, Rst K Γ H F G P env σ ow ∧ OutT K Γ W H F G P env σ ow pu Q (o env)
end
/-- an expression as a test -/
abbrev evT (W : Wd) (c : E) : Env → Out Bool := fun e => (evE W c e).bind fun r e => Out.of e r.d.truth
section
variable {K : PySem.W.Frag} {Γ : Gm} {W : WX} {H H' H1 H2 : Hp} {F F' F1 F2 G P : AP} {e e' e1 e2 env : Env} {σ : L2.St} {ow ow' ow1 ow2 fp fr : List Addr} {r s : RV} {v x y z : V} {pu pv : Bool}
theorem ResX.afterT {c : Nat} {ds : List D} {cls : Value} {d : Option Addr} (T1 : Stp H F ow H1 F1 ow1) (l1 : LK e e1) (lr1 : LR σ σ e e1)
    (h : ResX K Γ H1 F1 G P e1 σ ow1 c ds e2 cls d H2) : ResX K Γ H F G P e σ ow c ds e2 cls d H2 := by
  obtain ⟨F2, ow2, R2, T2, x2, l2, lr2⟩ := h
  exact ⟨F2, ow2, R2, T1.trans T2 fun x hx => hx, x2, l1.trans l2, lr1.trans lr2⟩
theorem Res.afterT (T1 : Stp H F ow H1 F1 ow1) (l1 : LK e e1) (lr1 : LR σ σ e e1) (h : Res K Γ H1 F1 G P e1 σ ow1 r e2 v H2) : Res K Γ H F G P e σ ow r e2 v H2 := by
  obtain ⟨F2, ow2, fp, R2, S2, T2, x2, l2, lr2⟩ := h
  exact ⟨F2, ow2, fp, R2, S2, T1.trans T2 fun x hx => hx, x2, l1.trans l2, lr1.trans lr2⟩
theorem ResT.afterT (T1 : Stp H F ow H1 F1 ow1) (l1 : LK e e1) (lr1 : LR σ σ e e1) (h : ResT K Γ H1 F1 G P e1 σ ow1 e2 H2) : ResT K Γ H F G P e σ ow e2 H2 := by
  obtain ⟨F2, ow2, R2, T2, l2, lr2⟩ := h
  exact ⟨F2, ow2, R2, T1.trans T2 fun x hx => hx, l1.trans l2, lr1.trans lr2⟩
theorem truth_ok {d : D} {k : Bool} (h : RepD K Γ H F d v) (e : d.truth = some k) : TruV K v H k := by
  cases d with
  | non => cases e; cases h; rfl
  | bl b => cases e; cases h; rfl
  | int i => cases e; cases h; rfl
  | lst ds =>
    cases e
    obtain ⟨a, xs, rfl, _, hl, hd⟩ := h
    refine .inl ⟨xs, SqL.of hl, ?_⟩
    have l := hd.len
    cases ds <;> cases xs <;> first | rfl | (simp at l)
  | tup ds =>
    cases e
    obtain ⟨a, xs, rfl, ht, hd⟩ := h
    refine .inr (.inl ⟨xs, ht.sq, ?_⟩)
    have l := hd.len
    cases ds <;> cases xs <;> first | rfl | (simp at l)
  | str x => cases e
  | dct ks vs => cases e
  | set xs => cases e
  | obj c fs vs => cases e
  | fn f => cases e
  | scr xs => cases e
/-- a value's truth -/
theorem rd_val {oa : Env → Out RV} {f : RV → Option Bool} {Q : Bool → Hp → Prop} {q : V → Hp → Bool → Prop} (h : rdT K Γ W (fun e => (oa e).bind fun r e => Out.of e (f r)) pu σ H Q)
    (hf : ∀ r k x H F fp, RepR K Γ H F r x fp → f r = some k → q x H k) : rdE K Γ W oa pu σ H fun x H' => ∃ k, q x H' k ∧ Q k H' := by
  obtain ⟨F, G, P, env, ow, R, k⟩ := h
  refine ⟨F, G, P, env, ow, R, ?_⟩
  cases ha : oa env with
  | stuck => simp only [ha, Out.bind] at k; exact k
  | exc c ds e1 => simp only [ha, Out.bind] at k; exact k
  | ok r e1 =>
    simp only [ha, Out.bind] at k
    intro x H1 ⟨F1, ow1, fp1, R1, S1, T1, q1, l1, lr1⟩ pu1
    cases ht : f r with
    | none => simp only [ht, Out.of] at k; exact k.elim
    | some b =>
      simp only [ht, Out.of] at k
      exact ⟨b, hf r b x H1 F1 fp1 q1 ht, k H1 ⟨F1, ow1, R1, T1.less fun x hx => List.mem_append_left _ hx, l1, lr1⟩ pu1⟩
/-- a test, then another thing -/
theorem rdT_bindT {oa : Env → Out Bool} {f : Bool → Env → Out Bool} {Q : Bool → Hp → Prop} (h : rdT K Γ W (fun e => (oa e).bind f) pu σ H Q) (hp : pu = true → pv = true) :
    rdT K Γ W oa pv σ H fun b H1 => rdT K Γ W (f b) pu σ H1 Q := by
  obtain ⟨F, G, P, env, ow, R, k⟩ := h
  refine ⟨F, G, P, env, ow, R, ?_⟩
  cases ha : oa env with
  | stuck => simp only [ha, Out.bind] at k; exact k
  | exc c ds e1 => simp only [ha, Out.bind] at k; exact k
  | ok b e1 =>
    simp only [ha, Out.bind] at k
    intro H1 ⟨F1, ow1, R1, T1, l1, lr1⟩ pu1
    refine ⟨F1, G, P, e1, ow1, R1, ?_⟩
    cases hf : f b e1 with
    | stuck => simp only [hf] at k; exact k
    | exc c ds e2 => simp only [hf] at k; exact fun cls d H2 x => k cls d H2 (x.afterT T1 l1 lr1)
    | ok b2 e2 =>
      simp only [hf] at k
      exact fun H2 x pu2 => k H2 (x.afterT T1 l1 lr1) fun p => ⟨(pu2 p).1.trans (pu1 (hp p)).1, fun a o q => (pu2 p).2 a o ((pu1 (hp p)).2 a o q)⟩
theorem rdT_bindE {oa : Env → Out Bool} {f : Bool → Env → Out RV} {Q : V → Hp → Prop} (h : rdE K Γ W (fun e => (oa e).bind f) pu σ H Q) (hp : pu = true → pv = true) :
    rdT K Γ W oa pv σ H fun b H1 => rdE K Γ W (f b) pu σ H1 Q := by
  obtain ⟨F, G, P, env, ow, R, k⟩ := h
  refine ⟨F, G, P, env, ow, R, ?_⟩
  cases ha : oa env with
  | stuck => simp only [ha, Out.bind] at k; exact k
  | exc c ds e1 => simp only [ha, Out.bind] at k; exact k
  | ok b e1 =>
    simp only [ha, Out.bind] at k
    intro H1 ⟨F1, ow1, R1, T1, l1, lr1⟩ pu1
    refine ⟨F1, G, P, e1, ow1, R1, ?_⟩
    cases hf : f b e1 with
    | stuck => simp only [hf] at k; exact k
    | exc c ds e2 => simp only [hf] at k; exact fun cls d H2 x => k cls d H2 (x.afterT T1 l1 lr1)
    | ok r2 e2 =>
      simp only [hf] at k
      exact fun v H2 x pu2 => k v H2 (x.afterT T1 l1 lr1) fun p => ⟨(pu2 p).1.trans (pu1 (hp p)).1, fun a o q => (pu2 p).2 a o ((pu1 (hp p)).2 a o q)⟩
theorem rdE.weak {oa : Env → Out RV} {Q : V → Hp → Prop} (h : rdE K Γ W oa pu σ H Q) (hp : pu = true → pv = true) : rdE K Γ W oa pv σ H Q → True := fun _ => trivial
/-- a value of a purer kind -/
theorem rdE_pu {oa : Env → Out RV} {Q : V → Hp → Prop} (h : rdE K Γ W oa pu σ H Q) (hp : pv = true ∨ pu = false) : rdE K Γ W oa pv σ H Q := by
  obtain ⟨F, G, P, env, ow, R, k⟩ := h
  refine ⟨F, G, P, env, ow, R, ?_⟩
  cases ha : oa env with
  | stuck => rw [ha] at k; exact k
  | exc c ds e1 => rw [ha] at k; exact k
  | ok r e1 =>
    rw [ha] at k
    exact fun v H' a b => k v H' a fun p => hp.elim b fun q => by rw [q] at p; cases p
theorem rdT_pu {oa : Env → Out Bool} {Q : Bool → Hp → Prop} (h : rdT K Γ W oa pu σ H Q) (hp : pv = true ∨ pu = false) : rdT K Γ W oa pv σ H Q := by
  obtain ⟨F, G, P, env, ow, R, k⟩ := h
  refine ⟨F, G, P, env, ow, R, ?_⟩
  cases ha : oa env with
  | stuck => rw [ha] at k; exact k
  | exc c ds e1 => rw [ha] at k; exact k
  | ok r e1 =>
    rw [ha] at k
    exact fun H' a b => k H' a fun p => hp.elim b fun q => by rw [q] at p; cases p
theorem rdT.mono {Q Q' : Bool → Hp → Prop} {o : Env → Out Bool} (h : rdT K Γ W o pu σ H Q) (q : ∀ v H', Q v H' → Q' v H') : rdT K Γ W o pu σ H Q' := by
  obtain ⟨F, G, P, env, ow, R, k⟩ := h
  refine ⟨F, G, P, env, ow, R, ?_⟩
  cases ha : o env with
  | stuck => rw [ha] at k; exact k
  | exc c ds e1 => rw [ha] at k; exact k
  | ok r e1 => rw [ha] at k; exact fun H' a b => q _ _ (k H' a b)
/-- a test that has been made -/
theorem rdT_ret {b : Bool} {Q : Bool → Hp → Prop} (h : rdT K Γ W (fun e => Out.ok b e) pu σ H Q) : Q b H := by
  obtain ⟨F, G, P, env, ow, R, k⟩ := h
  exact k H ⟨F, ow, R, .refl, .refl, .refl⟩ fun _ => ⟨rfl, fun _ _ h => h⟩
theorem rdE_ret {d : D} {v : V} {Q : V → Hp → Prop} (hd : ∀ H F, RepD K Γ H F d v) (h : rdE K Γ W (fun e => Out.ok (.of d) e) pu σ H Q) : Q v H := by
  obtain ⟨F, G, P, env, ow, R, k⟩ := h
  exact k v H (.refl R (hd H F)) fun _ => ⟨rfl, fun _ _ h => h⟩
end
abbrev SE (X : Cx) (Γ : Gm) (U : WX) (W : Wd) (ex : Expr) (e : E) : Prop := PE X ex (rdE X.K Γ U (evE W e) (pureE e))
abbrev ST (X : Cx) (Γ : Gm) (U : WX) (W : Wd) (ex : Expr) (e : E) : Prop := PT X ex (rdT X.K Γ U (evT W e) (pureE e))
abbrev SA (X : Cx) (Γ : Gm) (U : WX) (W : Wd) (exs : List Expr) (es : List E) : Prop := PA X exs (rdL X.K Γ U (evEs W es) (pureEs es))
section
variable {X : Cx} {Γ : Gm} {U : WX} {W : Wd} {ea eb ec : Expr} {a b c : E} {exs : List Expr} {es : List E} {pos : Pos}
theorem evE_eq (e : E) {f : Env → Out RV} (h : ∀ env, evE W e env = f env) : evE W e = f := funext h
theorem se_var {i : Nat} {x : Str} (hN : X.N[i]? = some x) (hv : Vis X.env.scope x) (hd : (x == ("__debug__" : Str)) = false := by decide) (hcd : (x == ("__classdict__" : Str)) = false := by decide) : SE X Γ U W (.Name x pos) (.var i) :=
  PE.imp (pe_var hN hv hd hcd) fun σ H Q ⟨F, G, P, env, ow, R, k⟩ => by
    unfold evE at k
    cases hs : env.at i with
    | no => rw [hs] at k; exact k.elim
    | ok m w =>
      rw [hs] at k
      obtain ⟨u, fq, hu, hm, hz⟩ := R.rep.read hs
      refine ⟨u, hu, k u H ⟨F, ow, [], R, .nil, by rw [List.append_nil]; exact .refl, ?_, .refl, .refl⟩ fun _ => ⟨rfl, fun _ _ h => h⟩⟩
      show RepR X.K Γ H F ⟨m, true⟩ u []
      unfold RepR
      rw [if_pos rfl]
      exact ⟨rfl, fq, hm⟩
theorem se_mv {i : Nat} {x : Str} (hN : X.N[i]? = some x) (hv : Vis X.env.scope x) (hd : (x == ("__debug__" : Str)) = false := by decide) (hcd : (x == ("__classdict__" : Str)) = false := by decide) : SE X Γ U W (.Name x pos) (.mv i) :=
  PE.imp (pe_var hN hv hd hcd) fun σ H Q ⟨F, G, P, env, ow, R, k⟩ => by
    unfold evE at k
    split at k
    · rename_i m hs
      obtain ⟨o1, f, o2, u, e1, e2, e3, e4⟩ := R.rep.take hs
      have nd := R.nd
      rw [e1, List.nodup_append, List.nodup_append] at nd
      have sub : ∀ a, a ∈ o1 ++ o2 → a ∈ ow := fun a ha => by
        rw [e1]
        rcases List.mem_append.mp ha with ha | ha
        · exact List.mem_append_left _ ha
        · exact List.mem_append_right _ (List.mem_append_right _ ha)
      have subf : ∀ a, a ∈ f → a ∈ ow := fun a ha => by rw [e1]; exact List.mem_append_right _ (List.mem_append_left _ ha)
      have il : i < env.length := at_len (by rw [hs]; intro z; cases z)
      have R2 : Rst X.K Γ H F G P (env.set i .no) σ (o1 ++ o2) := ⟨e4, List.nodup_append.mpr ⟨nd.1, nd.2.1.2.1, fun x hx y hy => nd.2.2 x hx y (List.mem_append_right _ hy)⟩, fun a h => R.dF a (sub a h), fun a h => R.dG a (sub a h), fun a h => R.dP a (sub a h), R.iF, R.iG, R.iP⟩
      have S2 : Sep H F G P (o1 ++ o2) f := ⟨nd.2.1.1, e3.has, fun a h => R.dF a (subf a h), fun a h => R.dG a (subf a h), fun a h => R.dP a (subf a h), fun a h z => by
        rcases List.mem_append.mp z with z | z
        · exact nd.2.2 a z a (List.mem_append_left _ h) rfl
        · exact nd.2.1.2.2 a h a z rfl⟩
      refine ⟨u, e2, k u H ⟨F, o1 ++ o2, f, R2, S2, ⟨fun _ _ h _ => h, fun _ h => h, fun _ h => .inl h, fun a h => .inl ?_⟩, ?_, fun j m' q => ?_, fun j m' q => ?_⟩ fun z => nomatch z⟩
      · rcases List.mem_append.mp h with h | h
        · exact sub a h
        · exact subf a h
      · show RepM X.K Γ true H F m u f
        exact e3
      · have ne : i ≠ j := fun z => by subst z; rw [hs] at q; cases q
        rw [at_set_ne ne]; exact q
      · have ne : i ≠ j := fun z => by subst z; rw [at_set_self il] at q; cases q
        rw [at_set_ne ne] at q
        exact ⟨q, rfl⟩
    · exact k.elim
theorem se_data {ex : Expr} {d : D} {v : V} (h : PE X ex (tC v)) (r : ∀ H F, RepD X.K Γ H F d v) : SE X Γ U W ex (.cst d) :=
  PE.imp h fun σ H Q q => rdE_ret r (by rw [show evE W (.cst d) = fun e => Out.ok (.of d) e from funext fun e => by rw [evE]] at q; exact q)
theorem se_int {i : Int} {j : Nat} : SE X Γ U W (.Constant (.int i) j pos) (.cst (.int i)) := se_data pe_int fun _ _ => rfl
theorem se_bl {i : Bool} {j : Nat} : SE X Γ U W (.Constant (.bool i) j pos) (.cst (.bl i)) := se_data pe_bl fun _ _ => rfl
theorem se_non {j : Nat} : SE X Γ U W (.Constant .none j pos) (.cst .non) := se_data pe_non fun _ _ => rfl
theorem se_str {x : Str} {j : Nat} : SE X Γ U W (.Constant (.str x) j pos) (.cst (.str x)) := se_data pe_str fun _ _ => rfl
/-- a module's constant -/
theorem se_glb {ex : Expr} {n : Nat} {d : D} {v : V} (h : PE X ex (tC v)) (hn : W.cs[n]? = some d) (r : ∀ H F, RepD X.K Γ H F d v) : SE X Γ U W ex (.glb n) :=
  PE.imp h fun σ H Q q => rdE_ret r (by rw [show evE W (.glb n) = fun e => Out.ok (.of d) e from funext fun e => by rw [evE, hn]; rfl] at q; exact q)
theorem sa_nil : SA X Γ U W [] [] := PA.imp pa_nil fun σ H Q q => rd_nil (K := X.K) (Γ := Γ) (W := U) (σ := σ) (by rw [show evEs W [] = fun e => Out.ok [] e from funext fun e => by rw [evEs]] at q; exact q)
theorem sa_cons (ha : SE X Γ U W ea a) (hr : SA X Γ U W exs es) (hs : starEach (ea :: exs) X.env = (false, eval ea X.env) :: starEach exs X.env := by rfl) : SA X Γ U W (ea :: exs) (a :: es) :=
  PA.imp (pa_cons ha hr hs) fun σ H Q q => rd_cons (by rw [show evEs W (a :: es) = fun e => (evE W a e).bind fun r e => if (r.loose && !pureEs es) = true then Out.stuck else (evEs W es e).bind fun rs e => Out.ok (r :: rs) e from funext fun e => by rw [evEs]] at q; exact q)
theorem se_bin {o : Op2} (ha : SE X Γ U W ea a) (hb : SE X Γ U W eb b) : SE X Γ U W (.BinOp ea (opS o) eb pos) (.bin o a b) :=
  PE.imp (pe_op (roB_ok o) ha hb) fun σ H Q q => rd_op2 (by rw [show evE W (.bin o a b) = fun e => (evE W a e).bind fun r e => if (r.loose && !pureE b) = true then Out.stuck else (evE W b e).bind fun s e => Out.of e (bin2 o r s) from funext fun e => by rw [evE]] at q; exact q) (bin2_ok o)
/-- an outcome that is a bool -/
def BlO (o : Out RV) : Prop := ∀ r e, o = .ok r e → ∃ k, r = .of (.bl k)
theorem rd_valB {e : E} {σ : L2.St} {H : Hp} {Q : Bool → Hp → Prop} {pu : Bool} (h : rdT X.K Γ U (evT W e) pu σ H Q) (hb : ∀ env, BlO (evE W e env)) : rdE X.K Γ U (evE W e) pu σ H fun x H' => ∃ k, x = .bl k ∧ Q k H' := by
  obtain ⟨F, G, P, env, ow, R, k⟩ := h
  refine ⟨F, G, P, env, ow, R, ?_⟩
  unfold evT at k
  cases ha : evE W e env with
  | stuck => simp only [ha, Out.bind] at k; exact k
  | exc c ds e1 => simp only [ha, Out.bind] at k; exact k
  | ok r e1 =>
    obtain ⟨b, rfl⟩ := hb env r e1 ha
    simp only [ha, Out.bind, RV.d, M.toD, D.truth, Out.of] at k
    intro x H1 ⟨F1, ow1, fp1, R1, S1, T1, q1, l1, lr1⟩ pu1
    exact ⟨b, q1.bl rfl, k H1 ⟨F1, ow1, R1, T1.less fun x hx => List.mem_append_left _ hx, l1, lr1⟩ pu1⟩
theorem BlO.bind {α : Type} {o : Out α} {f : α → Env → Out RV} (h : ∀ a e, BlO (f a e)) : BlO (o.bind f) := fun r e q => by
  cases o with
  | stuck => cases q
  | exc c ds e1 => cases q
  | ok a e1 => exact h a e1 r e q
theorem BlO.stuck : BlO .stuck := fun _ _ h => nomatch h
theorem BlO.map {e : Env} {o : Option Bool} : BlO (Out.of e (o.map fun k => RV.of (.bl k))) := fun r e' q => by
  cases o with
  | none => cases q
  | some b => cases q; exact ⟨b, rfl⟩
theorem bl_cmp {o : Cm} {env : Env} : BlO (evE W (.cmp o a b) env) := by
  rw [evE]
  refine .bind fun r e => ?_
  split
  · exact .stuck
  · exact .bind fun s e => .map
theorem rd_cmp {o : Cm} {σ : L2.St} {H : Hp} {Q : VK} (q : rdE X.K Γ U (evE W (.cmp o a b)) (pureE (.cmp o a b)) σ H Q) : tOp (roC X.K o) (rdE X.K Γ U (evE W a) (pureE a)) (rdE X.K Γ U (evE W b) (pureE b)) σ H Q :=
  rd_op2 (by rw [show evE W (.cmp o a b) = fun e => (evE W a e).bind fun r e => if (r.loose && !pureE b) = true then Out.stuck else (evE W b e).bind fun s e => Out.of e ((cmp2 o r.d s.d).map fun k => RV.of (.bl k)) from funext fun e => by rw [evE]] at q; exact q) (cmp2_ok o)
theorem se_cmp {o : Cm} (hu : X.A.units + 65 < cLine) (ha : SE X Γ U W ea a) (hb : SE X Γ U W eb b) (hm : behindInMarks (cmS o) eb = false := by rfl) : SE X Γ U W (.Compare ea [cmS o] [eb] pos) (.cmp o a b) :=
  PE.imp (pe_cmpR (roC_ok hu o) ha hb hm) fun σ H Q q => rd_cmp q
theorem st_cmp {o : Cm} (hu : X.A.units + 65 < cLine) (ha : SE X Γ U W ea a) (hb : SE X Γ U W eb b) (hm : behindInMarks (cmS o) eb = false := by rfl) : ST X Γ U W (.Compare ea [cmS o] [eb] pos) (.cmp o a b) :=
  PT.imp (pt_cmpR (roC_ok hu o) ha hb hm) fun σ H Q q => rd_cmp (rd_valB q fun env => bl_cmp)
theorem st_val (ha : SE X Γ U W ea a) (he : ∀ whole, isTrue ea X.env whole = (do let v ← whole; standAt ea.pos; holding [v] (truthy v)) := by intro _; rfl) : ST X Γ U W ea a :=
  PT.imp (pt_truth ha he) fun σ H Q q => rd_val q fun r k x H F fp hr hk => truth_ok hr.any hk
theorem st_not (ha : ST X Γ U W ea a) : ST X Γ U W (.UnaryOp .Not ea pos) (.not a) :=
  PT.imp (pt_not ha) fun σ H Q q => by
    rw [show evT W (.not a) = fun e => (evT W a e).bind fun b e => Out.ok (!b) e from funext fun e => by
      show ((evE W (.not a) e).bind fun r e => Out.of e r.d.truth) = _
      rw [evE]
      cases h : evT W a e with
      | stuck => rw [show ((evE W a e).bind fun r e => Out.of e r.d.truth) = _ from h]; rfl
      | exc c ds e1 => rw [show ((evE W a e).bind fun r e => Out.of e r.d.truth) = _ from h]; rfl
      | ok b e1 => rw [show ((evE W a e).bind fun r e => Out.of e r.d.truth) = _ from h]; rfl] at q
    exact (rdT_bindT q fun h => h).mono fun b H' h => rdT_ret h
theorem se_not (ha : SE X Γ U W ea a) : SE X Γ U W (.UnaryOp .Not ea pos) (.not a) :=
  PE.imp (pe_notT ha) fun σ H Q q => by
    rw [show evE W (.not a) = fun e => (evT W a e).bind fun b e => Out.ok (.of (.bl (!b))) e from funext fun e => by rw [evE]] at q
    have q' := rdT_bindE (pv := pureE a) q fun h => h
    exact (rd_val (q := fun x H k => TruV X.K x H k) q' fun r k x H F fp hr hk => truth_ok hr.any hk).mono fun x H' ⟨k, h1, h2⟩ => ⟨k, h1, rdE_ret (K := X.K) (Γ := Γ) (d := .bl (!k)) (fun _ _ => rfl) h2⟩
theorem se_ite (hc : ST X Γ U W ec c) (ha : SE X Γ U W ea a) (hb : SE X Γ U W eb b) : SE X Γ U W (.IfExp ec ea eb pos) (.ite c a b) :=
  PE.imp (pe_ifExp hc ha hb) fun σ H Q q => by
    rw [show evE W (.ite c a b) = fun e => (evT W c e).bind fun k e => if k = true then evE W a e else evE W b e from funext fun e => by rw [evE]] at q
    have pp : pureE (.ite c a b) = true → pureE c = true ∧ pureE a = true ∧ pureE b = true := fun h => by
      have h' : (pureE c && pureE a && pureE b) = true := h
      simp only [Bool.and_eq_true] at h'
      exact ⟨h'.1.1, h'.1.2, h'.2⟩
    refine (rdT_bindE (pv := pureE c) q fun h => (pp h).1).mono fun k H' h => ?_
    cases k with
    | true =>
      rw [if_pos rfl]
      refine rdE_pu (pu := pureE (.ite c a b)) (by simpa only [if_true] using h) ?_
      cases z : pureE (.ite c a b) with
      | true => exact .inl (pp z).2.1
      | false => exact .inr rfl
    | false =>
      rw [if_neg (by decide)]
      refine rdE_pu (pu := pureE (.ite c a b)) (by simpa only [Bool.false_eq_true, if_false] using h) ?_
      cases z : pureE (.ite c a b) with
      | true => exact .inl (pp z).2.2
      | false => exact .inr rfl
theorem se_neg (ha : SE X Γ U W ea a) : SE X Γ U W (.UnaryOp .USub ea pos) (.neg a) :=
  PE.imp (pe_un un_neg ha) fun σ H Q q => by
    rw [show evE W (.neg a) = fun e => (evE W a e).bind fun r e => Out.of e (match r.d with | .int i => some (RV.of (.int (-i))) | _ => none) from funext fun e => by
      rw [evE]
      congr 1
      funext r e
      cases r.d <;> rfl] at q
    refine rd_op1 q fun r t x H F fx iF _ _ _ hr hf Q hq => ?_
    split at hf
    · rename_i i hi
      cases hf
      exact ⟨i, hr.int hi, hq _ _ (.data iF rfl)⟩
    · cases hf
end
end Pv
/-! Pv: expressions by the evaluator. -/
namespace Pv
open PySem L2
section
variable {K : PySem.W.Frag} {Γ : Gm} {W : WX} {H H' H1 H2 : Hp} {F F' F1 F2 G P : AP} {e e' e1 e2 env : Env} {σ : L2.St} {ow ow' ow1 ow2 fp fr : List Addr} {r s : RV} {v x y z : V} {pu pv : Bool}
theorem RepRs.len : ∀ {rs : List RV} {vs : List V} {fp : List Addr}, RepRs K Γ H F rs vs fp → rs.length = vs.length
  | [], _, _, ⟨h, _⟩ => by rw [h]; rfl
  | _ :: _, _, _, ⟨_, _, _, _, e, _, _, t⟩ => by rw [e, List.length_cons, List.length_cons, RepRs.len t]
theorem RepR.own (h : RepR K Γ H F r v fp) (l : r.loose = false) : RepM K Γ true H F r.m v fp := by
  obtain ⟨m, al⟩ := r
  unfold RepR at h
  cases al with
  | false => rw [if_neg (by simp)] at h; exact h
  | true =>
    rw [if_pos rfl] at h
    obtain ⟨e, fq, q⟩ := h
    cases m with
    | fz d => exact ⟨e, q.2⟩
    | lst ms => cases l
    | tup ms => cases l
    | dct ks ms => cases l
    | obj c fs ms => cases l
theorem RepRs.own : ∀ {rs : List RV} {vs : List V} {fp : List Addr}, RepRs K Γ H F rs vs fp → rs.any RV.loose = false → RepMs K Γ true H F (rs.map RV.m) vs fp
  | [], _, _, h, _ => h
  | r :: rs, _, _, ⟨v, t, f1, f2, e, ef, h, q⟩, l => by
    rw [List.any_cons, Bool.or_eq_false_iff] at l
    exact ⟨v, t, f1, f2, e, ef, h.own l.1, RepRs.own q l.2⟩
theorem toDs_map : ∀ ms : List M, M.toDs ms = ms.map M.toD
  | [] => rfl
  | m :: ms => by rw [List.map_cons, M.toDs, toDs_map ms]
/-- a new list of trees -/
theorem op_list {ms : List M} {vs : List V} {p : Addr} (iF : ∀ a, F a → ∃ o, H a = some o) (iR : ∀ a ∈ fr, ∃ o, H a = some o) (dF : ∀ a ∈ fr, ¬ F a) (nd : fr.Nodup) (hp : H p = none) (h : RepMs K Γ true H F ms vs fr) :
    OpRes K Γ H F fr ⟨.lst ms, false⟩ (.ref p) (upd H p (.lst vs)) := by
  have kp : ∀ a o, H a = some o → upd H p (.lst vs) a = some o := fun a o q => by rw [upd_ne (ne_of_none q hp)]; exact q
  have np : p ∉ fr := fun z => by obtain ⟨o, q⟩ := iR p z; rw [hp] at q; cases q
  refine ⟨F, p :: fr, fun _ h => h, fun _ h => .inl h, kp, ?_, List.nodup_cons.mpr ⟨np, nd⟩, fun a h => ?_, fun a h => let ⟨o, q⟩ := iF a h; ⟨o, kp a o q⟩⟩
  · show RepM K Γ true _ _ (.lst ms) (.ref p) (p :: fr)
    exact ⟨p, vs, fr, rfl, rfl, upd_same, h.ext (.of (fun _ h => h) fun a o _ q => kp a o q) (.of fun a o _ q => kp a o q)⟩
  · rcases List.mem_cons.mp h with rfl | h
    · have : ¬ F a := fun z => by
        obtain ⟨o, q⟩ := iF _ z
        rw [hp] at q
        cases q
      exact ⟨this, .inl hp⟩
    · exact ⟨dF a h, .inr h⟩
/-- an argument list, then its rest -/
theorem rdL_cons {W' : Wd} {a : E} {es : List E} {Q : List V → Hp → Prop} (q : rdL K Γ W (evEs W' (a :: es)) (pureEs (a :: es)) σ H Q) :
    rdE K Γ W (evE W' a) (pureE a) σ H fun x H1 => rdL K Γ W (evEs W' es) (pureEs es) σ H1 fun xs H2 => Q (x :: xs) H2 :=
  rd_cons (by rw [show evEs W' (a :: es) = fun e => (evE W' a e).bind fun r e => if (r.loose && !pureEs es) = true then Out.stuck else (evEs W' es e).bind fun rs e => Out.ok (r :: rs) e from funext fun e => by rw [evEs]] at q; exact q)
theorem rdL_nil {W' : Wd} {Q : List V → Hp → Prop} (q : rdL K Γ W (evEs W' []) (pureEs []) σ H Q) : Q [] H :=
  rd_nil (K := K) (Γ := Γ) (W := W) (σ := σ) (by rw [show evEs W' [] = fun e => Out.ok [] e from funext fun e => by rw [evEs]] at q; exact q)
theorem pathOf_len {d : D} : True := trivial
/-- the state, where everything stands -/
theorem Rst.kept (R : Rst K Γ H F G P e σ ow) (k : ∀ a o, H a = some o → H' a = some o) : Rst K Γ H' F G P e σ ow :=
  R.grow (fun _ h => h) k R.dF fun a h => let ⟨o, q⟩ := R.iF a h; ⟨o, k a o q⟩
end
section
variable {X : Cx} {Γ : Gm} {U : WX} {W : Wd} {ea eb ec : Expr} {a b c : E} {exs : List Expr} {es : List E} {pos : Pos}
theorem cmp2_int {o : Cm} {i j : Int} {k : Bool} (h : cmp2 o (.int i) (.int j) = some k) {H : Hp} {Q : VK} (q : ∀ H', (∀ a o, H a = some o → H' a = some o) → Q (.bl k) H') : roC X.K o (.int i) (.int j) H Q := by
  refine cmp2_ok (K := X.K) (Γ := ⟨fun _ => 0, fun _ => 0, fun _ => 0, fun _ => []⟩) o (.of (.int i)) (.of (.int j)) (.of (.bl k)) _ _ H (fun _ => False) [] [] (fun _ h => h.elim) (fun _ h => (nomatch h)) (fun _ h => (nomatch h)) List.nodup_nil ⟨rfl, rfl⟩ ⟨rfl, rfl⟩ (by show (cmp2 o (.int i) (.int j)).map _ = _; rw [h]; rfl) Q fun z H' op => ?_
  obtain ⟨F', fp, _, _, kp, hr, _⟩ := op
  rw [hr.bl rfl]
  exact q H' kp
theorem rd_chain {o p : Cm} {σ : L2.St} {H : Hp} {Q : VK} (q : rdE X.K Γ U (evE W (.chain o p a b c)) (pureE (.chain o p a b c)) σ H Q) :
    tChain (roC X.K o) (roC X.K p) (rdE X.K Γ U (evE W a) (pureE a)) (rdE X.K Γ U (evE W b) (pureE b)) (rdE X.K Γ U (evE W c) (pureE c)) σ H Q := by
  obtain ⟨F, G, P, env, ow, R, k⟩ := q
  have pp : pureE (.chain o p a b c) = true → pureE a = true ∧ pureE b = true ∧ pureE c = true := fun h => by
    have h' : (pureE a && pureE b && pureE c) = true := h
    simp only [Bool.and_eq_true] at h'
    exact ⟨h'.1.1, h'.1.2, h'.2⟩
  refine ⟨F, G, P, env, ow, R, ?_⟩
  rw [evE] at k
  cases ha : evE W a env with
  | stuck => simp only [ha, Out.bind] at k; exact k
  | exc c ds e1 => simp only [ha, Out.bind] at k; exact k
  | ok r e1 =>
    simp only [ha, Out.bind] at k
    intro x H1 ⟨F1, ow1, fp1, R1, S1, T1, q1, l1, lr1⟩ pu1
    cases hr : r.d with
    | int i =>
      simp only [hr] at k
      cases q1.int hr
      refine ⟨F1, G, P, e1, ow1, R1, ?_⟩
      cases hb : evE W b e1 with
      | stuck => simp only [hb] at k; exact k
      | exc c ds e2 => simp only [hb] at k; exact fun cls d H2 x => k cls d H2 (x.afterT (T1.less fun x hx => List.mem_append_left _ hx) l1 lr1)
      | ok s e2 =>
        simp only [hb] at k
        intro y H2 ⟨F2, ow2, fp2, R2, S2, T2, q2, l2, lr2⟩ pu2
        cases hs : s.d with
        | int j =>
          simp only [hs] at k
          cases q2.int hs
          have T12 := (T1.less fun x hx => List.mem_append_left _ hx).trans (T2.less fun x hx => List.mem_append_left _ hx) fun x hx => hx
          cases hc : cmp2 o (.int i) (.int j) with
          | none => simp only [hc] at k; exact k.elim
          | some k1 =>
            simp only [hc] at k
            refine cmp2_int hc fun H3 kp => ⟨k1, rfl, ?_⟩
            have R3 : Rst X.K Γ H3 F2 G P e2 σ ow2 := R2.kept kp
            have T3 : Stp H F ow H3 F2 ow2 := T12.trans ⟨fun a o q _ => kp a o q, fun _ h => h, fun _ h => .inl h, fun _ h => .inl h⟩ fun x hx => hx
            have keep : pureE (.chain o p a b c) = true → e2 = env ∧ ∀ a o, H a = some o → H3 a = some o := fun h => ⟨(pu2 (pp h).2.1).1.trans (pu1 (pp h).1).1, fun a o q => kp a o ((pu2 (pp h).2.1).2 a o ((pu1 (pp h).1).2 a o q))⟩
            cases k1 with
            | false =>
              simp only [Bool.false_eq_true, if_false] at k ⊢
              exact k _ H3 ⟨F2, ow2, [], R3, .nil, by rw [List.append_nil]; exact T3, ⟨rfl, rfl⟩, l1.trans l2, lr1.trans lr2⟩ keep
            | true =>
              simp only [if_true] at k ⊢
              refine ⟨F2, G, P, e2, ow2, R3, ?_⟩
              cases hc3 : evE W c e2 with
              | stuck => simp only [hc3] at k; exact k
              | exc c ds e3 => simp only [hc3] at k; exact fun cls d H4 x => k cls d H4 (x.afterT T3 (l1.trans l2) (lr1.trans lr2))
              | ok t e3 =>
                simp only [hc3] at k
                intro z H4 ⟨F4, ow4, fp4, R4, S4, T4, q4, l4, lr4⟩ pu4
                cases ht : t.d with
                | int l =>
                  simp only [ht] at k
                  cases q4.int ht
                  cases hc4 : cmp2 p (.int j) (.int l) with
                  | none => simp only [hc4, Option.map, Out.of] at k; exact k.elim
                  | some k2 =>
                    simp only [hc4, Option.map, Out.of] at k
                    refine cmp2_int hc4 fun H5 kp5 => k _ H5 ⟨F4, ow4, [], R4.kept kp5, .nil, ?_, ⟨rfl, rfl⟩, (l1.trans l2).trans l4, (lr1.trans lr2).trans lr4⟩ fun h => ⟨(pu4 (pp h).2.2).1.trans (keep h).1, fun a o q => kp5 a o ((pu4 (pp h).2.2).2 a o ((keep h).2 a o q))⟩
                    rw [List.append_nil]
                    exact (T3.trans (T4.less fun x hx => List.mem_append_left _ hx) fun x hx => hx).trans ⟨fun a o q _ => kp5 a o q, fun _ h => h, fun _ h => .inl h, fun _ h => .inl h⟩ fun x hx => hx
                | _ => simp only [ht] at k; exact k.elim
        | _ => simp only [hs] at k; exact k.elim
    | _ => simp only [hr] at k; exact k.elim
theorem bl_chain {o p : Cm} {env : Env} : BlO (evE W (.chain o p a b c) env) := by
  rw [evE]
  refine .bind fun r e => ?_
  split
  · refine .bind fun s e => ?_
    split
    · split
      · refine .bind fun t e => ?_
        split
        · exact .map
        · exact .stuck
      · exact fun r e h => by cases h; exact ⟨false, rfl⟩
      · exact .stuck
    · exact .stuck
  · exact .stuck
theorem se_chain {o p : Cm} (hu : X.A.units + 65 < cLine) (ha : SE X Γ U W ea a) (hb : SE X Γ U W eb b) (hc : SE X Γ U W ec c) (hm : lastMarks [cmS o, cmS p] [eb, ec] = false := by with_unfolding_all rfl) :
    SE X Γ U W (.Compare ea [cmS o, cmS p] [eb, ec] pos) (.chain o p a b c) := PE.imp (pe_chain (roC_ok hu o) (roC_ok hu p) ha hb hc hm) fun σ H Q q => rd_chain q
theorem st_chain {o p : Cm} (hu : X.A.units + 65 < cLine) (ha : SE X Γ U W ea a) (hb : SE X Γ U W eb b) (hc : SE X Γ U W ec c) (hm : lastMarks [cmS o, cmS p] [eb, ec] = false := by with_unfolding_all rfl) :
    ST X Γ U W (.Compare ea [cmS o, cmS p] [eb, ec] pos) (.chain o p a b c) := PT.imp (pt_chain (roC_ok hu o) (roC_ok hu p) ha hb hc hm) fun σ H Q q => rd_chain (rd_valB q fun env => bl_chain)
/-! ### and, or -/
abbrev SW (X : Cx) (Γ : Gm) (U : WX) (W : Wd) (ex : Expr) (k : Bool) (es : List E) : Prop := PW X ex (rdT X.K Γ U (fun e => (evB W k false es e).bind fun r e => Out.of e r.d.truth) (pureEs es))
abbrev boS (k : Bool) : BoolOp := if k then .And else .Or
theorem evB_cons {k v : Bool} {a b : E} {es : List E} {e : Env} : evB W k v (a :: b :: es) e = (((evE W a e).bind fun r e => Out.of e (if (v && !r.d.isBl) = true then none else r.d.truth)).bind fun c e => if c = k then evB W k v (b :: es) e else .ok (.of (.bl c)) e) := by
  rw [evB]
  exact fun h => nomatch h
theorem sw_one {k : Bool} (ha : ST X Γ U W ea a) : SW X Γ U W (.BoolOp (boS k) [ea] pos) k [a] := by
  have e : (fun e => (evB W k false [a] e).bind fun r e => Out.of e r.d.truth) = evT W a := funext fun e => by rw [evB]
  unfold SW
  rw [e, show pureEs [a] = pureE a from by simp [pureEs]]
  cases k with
  | true => exact pw_and1 ha
  | false => exact pw_or1 ha
theorem rd_boo {k : Bool} {σ : L2.St} {H : Hp} {Q : Bool → Hp → Prop} (q : rdT X.K Γ U (fun e => (evB W k false (a :: b :: es) e).bind fun r e => Out.of e r.d.truth) (pureEs (a :: b :: es)) σ H Q) :
    rdT X.K Γ U (evT W a) (pureE a) σ H fun c H1 => if c = k then rdT X.K Γ U (fun e => (evB W k false (b :: es) e).bind fun r e => Out.of e r.d.truth) (pureEs (b :: es)) σ H1 Q else Q c H1 := by
  have pp : pureEs (a :: b :: es) = true → pureE a = true ∧ pureEs (b :: es) = true := fun h => by
    have h' : (pureE a && pureEs (b :: es)) = true := by simpa [pureEs] using h
    simpa [Bool.and_eq_true] using h'
  rw [show (fun e => (evB W k false (a :: b :: es) e).bind fun r e => Out.of e r.d.truth) = fun e => (evT W a e).bind fun c e => if c = k then (evB W k false (b :: es) e).bind fun r e => Out.of e r.d.truth else .ok c e from funext fun e => by
    rw [evB_cons]
    unfold evT
    cases evE W a e with
    | stuck => rfl
    | exc c ds e1 => rfl
    | ok r e1 =>
      simp only [Out.bind, Bool.false_and, Bool.false_eq_true, if_false]
      cases r.d.truth with
      | none => rfl
      | some c =>
        simp only [Out.of]
        by_cases e : c = k
        · rw [if_pos e, if_pos e]
        · rw [if_neg e, if_neg e]; rfl] at q
  refine (rdT_bindT (pv := pureE a) q fun h => (pp h).1).mono fun c H' h => ?_
  by_cases e : c = k
  · rw [if_pos e]
    refine rdT_pu (pu := pureEs (a :: b :: es)) (by simpa only [if_pos e] using h) ?_
    cases z : pureEs (a :: b :: es) with
    | true => exact .inl (pp z).2
    | false => exact .inr rfl
  · rw [if_neg e]
    exact rdT_ret (by simpa only [if_neg e] using h)
theorem sw_cons {k : Bool} (ha : ST X Γ U W ea a) (hr : SW X Γ U W (.BoolOp (boS k) (eb :: exs) pos) k (b :: es)) : SW X Γ U W (.BoolOp (boS k) (ea :: eb :: exs) pos) k (a :: b :: es) := by
  cases k with
  | true =>
    exact PW.imp (pw_and ha hr) fun σ H Q q => (rd_boo q).mono fun c H1 h => by
      cases c with
      | true => exact h
      | false => exact h
  | false =>
    exact PW.imp (pw_or ha hr) fun σ H Q q => (rd_boo q).mono fun c H1 h => by
      cases c with
      | true => exact h
      | false => exact h
theorem st_boo {k : Bool} {ex : Expr} (h : SW X Γ U W ex k es) : ST X Γ U W ex (.boo k false es) := by
  have e : evT W (.boo k false es) = fun e => (evB W k false es e).bind fun r e => Out.of e r.d.truth := funext fun e => by show ((evE W (.boo k false es) e).bind _) = _; rw [evE]
  show PT X ex (rdT X.K Γ U (evT W (.boo k false es)) (pureEs es))
  rw [e]
  exact h.pt
/-- as values, all bools -/
abbrev SB (X : Cx) (Γ : Gm) (U : WX) (W : Wd) (ex : Expr) (k : Bool) (es : List E) : Prop := PE X ex (rdE X.K Γ U (evB W k true es) (pureEs es))
theorem sb_one {k : Bool} (ha : SE X Γ U W ea a) : SB X Γ U W (.BoolOp (boS k) [ea] pos) k [a] := by
  have e : evB W k true [a] = evE W a := funext fun e => by rw [evB]
  unfold SB
  rw [e, show pureEs [a] = pureE a from by simp [pureEs]]
  exact pe_one ha
theorem rd_booV {k : Bool} {σ : L2.St} {H : Hp} {Q : VK} (q : rdE X.K Γ U (evB W k true (a :: b :: es)) (pureEs (a :: b :: es)) σ H Q) :
    rdE X.K Γ U (evE W a) (pureE a) σ H fun x H1 => ∃ c, x = .bl c ∧ if c = k then rdE X.K Γ U (evB W k true (b :: es)) (pureEs (b :: es)) σ H1 Q else Q (.bl c) H1 := by
  have pp : pureEs (a :: b :: es) = true → pureE a = true ∧ pureEs (b :: es) = true := fun h => by
    have h' : (pureE a && pureEs (b :: es)) = true := by simpa [pureEs] using h
    simpa [Bool.and_eq_true] using h'
  rw [show evB W k true (a :: b :: es) = _ from funext fun e => evB_cons] at q
  have q' := rdT_bindE (pv := pureE a) q fun h => (pp h).1
  refine (rd_val (q := fun x H c => x = .bl c) q' fun r c x H F fp hr hc => ?_).mono fun x H1 ⟨c, e, h⟩ => ⟨c, e, ?_⟩
  · cases hd : r.d with
    | bl b => rw [hd] at hc; cases hc; exact hr.bl hd
    | _ => rw [hd] at hc; cases hc
  · by_cases e : c = k
    · rw [if_pos e]
      refine rdE_pu (pu := pureEs (a :: b :: es)) (by simpa only [if_pos e] using h) ?_
      cases z : pureEs (a :: b :: es) with
      | true => exact .inl (pp z).2
      | false => exact .inr rfl
    · rw [if_neg e]
      exact rdE_ret (K := X.K) (Γ := Γ) (d := .bl c) (fun _ _ => rfl) (by simpa only [if_neg e] using h)
theorem sb_cons {k : Bool} (ha : SE X Γ U W ea a) (hr : SB X Γ U W (.BoolOp (boS k) (eb :: exs) pos) k (b :: es)) : SB X Γ U W (.BoolOp (boS k) (ea :: eb :: exs) pos) k (a :: b :: es) := by
  cases k with
  | true => exact PE.imp (pe_and ha hr) fun σ H Q q => (rd_booV q).mono fun x H1 ⟨c, e, h⟩ => ⟨c, e, by
      cases c with
      | true => exact h
      | false => exact h⟩
  | false => exact PE.imp (pe_or ha hr) fun σ H Q q => (rd_booV q).mono fun x H1 ⟨c, e, h⟩ => ⟨c, e, by
      cases c with
      | true => exact h
      | false => exact h⟩
theorem se_boo {k : Bool} {ex : Expr} (h : SB X Γ U W ex k es) : SE X Γ U W ex (.boo k true es) := by
  have e : evE W (.boo k true es) = evB W k true es := funext fun e => by rw [evE]
  show PE X ex (rdE X.K Γ U (evE W (.boo k true es)) (pureEs es))
  rw [e]
  exact h
/-! ### displays -/
theorem se_tup {x1 : Nat} (h : SA X Γ U W exs es) : SE X Γ U W (.Tuple exs x1 pos) (.tup es) :=
  PE.imp (pe_tup h) fun σ H Q q => by
    rw [show evE W (.tup es) = fun e => (evEs W es e).bind fun rs e => Out.of e (if rs.any RV.loose = true then none else if lenOk rs.length = true then some (.of (.tup (rs.map RV.d))) else none) from funext fun e => by
      rw [evE]; congr 1; funext rs e; split
      · rfl
      · split <;> rfl] at q
    refine rd_fin (pu := pureEs es) (ro := fun xs H1 Q => xs.length ≤ sizeLine ∧ ∀ p, H1 p = none → Q (.ref p) (upd H1 p (.tup xs))) q fun rs r vs H F fr iF iR dF nd hr hf Q hq => ?_
    split at hf
    · cases hf
    · rename_i hl
      split at hf
      · rename_i hk
        cases hf
        refine ⟨by rw [← hr.len]; exact lenOk_iff hk, fun p hp => hq _ _ (op_tup iF iR hp ?_)⟩
        have := (hr.own (by simpa using hl)).freeze (F' := fun c => F c ∨ c ∈ fr) (fun _ h => .inl h) fun _ h => .inr h
        rw [toDs_map, List.map_map] at this
        exact this
      · cases hf
theorem se_lst (h : SA X Γ U W exs es) : SE X Γ U W (.List exs pos) (.lst es) :=
  PE.imp (pe_lst h) fun σ H Q q => by
    rw [show evE W (.lst es) = fun e => (evEs W es e).bind fun rs e => Out.of e (if rs.any RV.loose = true then none else if lenOk rs.length = true then some ⟨.lst (rs.map RV.m), false⟩ else none) from funext fun e => by
      rw [evE]; congr 1; funext rs e; split
      · rfl
      · split <;> rfl] at q
    refine rd_fin (pu := pureEs es) (ro := fun xs H1 Q => xs.length ≤ sizeLine ∧ ∀ p, H1 p = none → Q (.ref p) (upd H1 p (.lst xs))) q fun rs r vs H F fr iF iR dF nd hr hf Q hq => ?_
    split at hf
    · cases hf
    · rename_i hl
      split at hf
      · rename_i hk
        cases hf
        exact ⟨by rw [← hr.len]; exact lenOk_iff hk, fun p hp => hq _ _ (op_list iF iR dF nd hp (hr.own (by simpa using hl)))⟩
      · cases hf
theorem op_tupm {K : PySem.W.Frag} {H : Hp} {F : AP} {fr : List Addr} {ms : List M} {vs : List V} {p : Addr} (iF : ∀ a, F a → ∃ o, H a = some o) (iR : ∀ a ∈ fr, ∃ o, H a = some o) (dF : ∀ a ∈ fr, ¬ F a) (nd : fr.Nodup) (hp : H p = none) (h : RepMs K Γ true H F ms vs fr) : OpRes K Γ H F fr ⟨.tup ms, false⟩ (.ref p) (upd H p (.tup vs)) := by
  have kp : ∀ a o, H a = some o → upd H p (.tup vs) a = some o := fun a o q => by rw [upd_ne (ne_of_none q hp)]; exact q
  refine ⟨F, p :: fr, fun _ h => h, fun _ h => .inl h, kp, ?_, List.nodup_cons.mpr ⟨fun z => ?_, nd⟩, fun a ha => ?_, fun a ha => ?_⟩
  · show RepM K Γ true _ F (.tup ms) (.ref p) (p :: fr)
    exact ⟨p, vs, fr, rfl, rfl, upd_same, h.ext (.of (fun _ h => h) fun a o _ q => kp a o q) (.of fun a o _ q => kp a o q)⟩
  · obtain ⟨o, q⟩ := iR p z; rw [hp] at q; cases q
  · rcases List.mem_cons.mp ha with rfl | ha
    · exact ⟨fun z => (by obtain ⟨o, q⟩ := iF _ z; rw [hp] at q; cases q), .inl hp⟩
    · exact ⟨dF a ha, .inr ha⟩
  · obtain ⟨o, q⟩ := iF a ha; exact ⟨o, kp a o q⟩
/-- a tuple whose parts stay owned -/
theorem se_tupm {x1 : Nat} (h : SA X Γ U W exs es) : SE X Γ U W (.Tuple exs x1 pos) (.tupm es) :=
  PE.imp (pe_tup h) fun σ H Q q => by
    rw [show evE W (.tupm es) = fun e => (evEs W es e).bind fun rs e => Out.of e (if rs.any RV.loose = true then none else if lenOk rs.length = true then some ⟨.tup (rs.map RV.m), false⟩ else none) from funext fun e => by
      rw [evE]; congr 1; funext rs e; split
      · rfl
      · split <;> rfl] at q
    refine rd_fin (pu := pureEs es) (ro := fun xs H1 Q => xs.length ≤ sizeLine ∧ ∀ p, H1 p = none → Q (.ref p) (upd H1 p (.tup xs))) q fun rs r vs H F fr iF iR dF nd hr hf Q hq => ?_
    split at hf
    · cases hf
    · rename_i hl
      split at hf
      · rename_i hk
        cases hf
        exact ⟨by rw [← hr.len]; exact lenOk_iff hk, fun p hp => hq _ _ (op_tupm iF iR dF nd hp (hr.own (by simpa using hl)))⟩
      · cases hf
/-- a tuple that is only looked at -/
theorem RepRs.views {K : PySem.W.Frag} {H : Hp} {F : AP} : ∀ {rs : List RV} {vs : List V} {fr : List Addr}, RepRs K Γ H F rs vs fr → ∃ fq, RepMs K Γ false H F (rs.map RV.m) vs fq
  | [], _, _, ⟨h1, _⟩ => ⟨[], h1, rfl⟩
  | r :: rs, _, _, ⟨v, t, f1, f2, e1, _, h1, h2⟩ => by
    obtain ⟨fq, h3⟩ := RepRs.views h2
    unfold RepR at h1
    split at h1
    · obtain ⟨_, f, hm⟩ := h1
      exact ⟨f ++ fq, v, t, f, fq, e1, rfl, hm, h3⟩
    · exact ⟨f1 ++ fq, v, t, f1, fq, e1, rfl, h1.weak, h3⟩
theorem se_tupv {x1 : Nat} (h : SA X Γ U W exs es) : SE X Γ U W (.Tuple exs x1 pos) (.tupv es) :=
  PE.imp (pe_tup h) fun σ H Q q => by
    rw [show evE W (.tupv es) = fun e => (evEs W es e).bind fun rs e => Out.of e (if lenOk rs.length = true then some ⟨.tup (rs.map RV.m), true⟩ else none) from funext fun e => by
      rw [evE]; congr 1; funext rs e; split <;> rfl] at q
    refine rd_fin (pu := pureEs es) (ro := fun xs H1 Q => xs.length ≤ sizeLine ∧ ∀ p, H1 p = none → Q (.ref p) (upd H1 p (.tup xs))) q fun rs r vs H F fr iF iR dF nd hr hf Q hq => ?_
    split at hf
    · rename_i hk
      cases hf
      refine ⟨by rw [← hr.len]; exact lenOk_iff hk, fun p hp => hq _ _ ?_⟩
      have kp : ∀ a o, H a = some o → upd H p (.tup vs) a = some o := fun a o q => by rw [upd_ne (ne_of_none q hp)]; exact q
      obtain ⟨fq, hm⟩ := hr.views
      refine ⟨F, [], fun _ h => h, fun _ h => .inl h, kp, ?_, List.nodup_nil, fun _ h => (nomatch h), fun a ha => ?_⟩
      · show (if true = true then _ else _)
        rw [if_pos rfl]
        exact ⟨rfl, p :: fq, p, vs, fq, rfl, rfl, upd_same, hm.ext (.of (fun _ h => h) fun a o _ q => kp a o q) (.of fun a o _ q => kp a o q)⟩
      · obtain ⟨o, q⟩ := iF a ha; exact ⟨o, kp a o q⟩
    · cases hf
theorem se_dict0 : SE X Γ U W (.Dict [] [] pos) (.dict [] []) :=
  PE.imp pe_dnewK fun σ H Q ⟨F, G, P, env, ow, R, k⟩ p hp => by
    rw [evE] at k
    have kp : ∀ a o, H a = some o → upd H p (.dK []) a = some o := fun a o q => by rw [upd_ne (ne_of_none q hp)]; exact q
    refine k (.ref p) _ ⟨F, ow, [p], R.kept kp, ⟨by simp, fun a h => ?_, fun a h z => ?_, fun a h z => ?_, fun a h z => ?_, fun a h z => ?_⟩, ⟨fun a o q _ => kp a o q, fun _ h => h, fun _ h => .inl h, fun a h => ?_⟩, ?_, .refl, .refl⟩ fun _ => ⟨rfl, kp⟩
    · rw [List.mem_singleton] at h; subst h; exact ⟨_, upd_same⟩
    · rw [List.mem_singleton] at h; subst h; obtain ⟨o, q⟩ := R.iF _ z; rw [hp] at q; cases q
    · rw [List.mem_singleton] at h; subst h; obtain ⟨o, q⟩ := R.iG _ z; rw [hp] at q; cases q
    · rw [List.mem_singleton] at h; subst h; obtain ⟨o, q⟩ := R.iP _ z; rw [hp] at q; cases q
    · rw [List.mem_singleton] at h; subst h; obtain ⟨o, q⟩ := R.has _ z; rw [hp] at q; cases q
    · rcases List.mem_append.mp h with h | h
      · exact .inl h
      · rw [List.mem_singleton] at h; subst h; exact .inr hp
    · show RepM X.K Γ true _ F (.dct [] []) (.ref p) [p]
      exact ⟨p, [], [], rfl, rfl, by rw [if_pos rfl]; exact upd_same, rfl, rfl, rfl⟩
/-! ### parts -/
theorem se_sub (hu : X.A.units + 1 < cLine) (ha : SE X Γ U W ea a) (hb : SE X Γ U W eb b) (hs : PlainIx eb := by intro _ _; rfl) : SE X Γ U W (.Subscript ea eb pos) (.sub a b) :=
  PE.imp (pe_ix (roIx_ok hu) ha hb hs) fun σ H Q q => rd_op2 (by rw [show evE W (.sub a b) = fun e => (evE W a e).bind fun r e => if (r.loose && !pureE b) = true then Out.stuck else (evE W b e).bind fun s e => Out.of e (subR r s.d) from funext fun e => by rw [evE]] at q; exact q) subR_ok
theorem se_attr {f : Str} (hc : ∀ c, L2.Cls X.K (Γ.cls c)) (hn : ∀ c, NoAttr X.K (Γ.cls c) f) (ha : SE X Γ U W ea a) (hb : attributeBase ea f X.env (eval ea X.env) = eval ea X.env := by rfl) : SE X Γ U W (.Attribute ea f pos) (.attr a f) :=
  PE.imp (pe_fld ha hb) fun σ H Q q => rd_op1 (by rw [show evE W (.attr a f) = fun e => (evE W a e).bind fun r e => Out.of e (attrR r f) from funext fun e => by rw [evE]] at q; exact q) (attrR_ok hc hn)
theorem se_rev {k : Nat} {p1 p2 p3 : Pos} (ha : SE X Γ U W ea a) : SE X Γ U W (.Subscript ea (.Slice none none (some (.UnaryOp .USub (.Constant (.int 1) k p1) p2)) p3) pos) (.rev a) :=
  PE.imp (pe_revL ha) fun σ H Q q => by
    refine rd_op1 (f := revR) (ro := fun x H1 Q => ∃ a xs, x = .ref a ∧ SqL X.K H1 a xs ∧ ∀ p, H1 p = none → Q (.ref p) (upd H1 p (.lst xs.reverse))) (by rw [show evE W (.rev a) = fun e => (evE W a e).bind fun r e => Out.of e (revR r) from funext fun e => by rw [evE]] at q; exact q) fun r t x H F fx iF iR dF nd hr hf Q hq => ?_
    unfold revR at hf
    cases hl : r.lst? with
    | none => rw [hl] at hf; cases hf
    | some ds =>
      rw [hl] at hf
      cases hf
      obtain ⟨p, vs, rfl, hp, hd⟩ := hr.lst hl
      exact ⟨p, vs, rfl, SqL.of hp, fun q hq' => hq _ _ (op_new iF iR hq' hd.rev)⟩
/-- what a slice reads -/
def roS (K : PySem.W.Frag) : Nat → List V → Hp → VK → Prop
  | 0 => fun xs H Q => ∃ x, xs = [x] ∧ roSl K x none none H Q
  | 1 => fun xs H Q => ∃ x i, xs = [x, .int i] ∧ roSl K x (some i) none H Q
  | 2 => fun xs H Q => ∃ x i, xs = [x, .int i] ∧ roSl K x none (some i) H Q
  | _ => fun _ _ _ => False
theorem slcF_ok {K : PySem.W.Frag} (k : Nat) : ∀ rs r vs (H : Hp) (F : AP) fr, (∀ a, F a → ∃ o, H a = some o) → (∀ a ∈ fr, ∃ o, H a = some o) → (∀ a ∈ fr, ¬ F a) → fr.Nodup → RepRs K Γ H F rs vs fr → slcF k rs = some r → ∀ Q, (∀ z H', OpRes K Γ H F fr r z H' → Q z H') → roS K k vs H Q := by
  intro rs r vs H F fr iF iR dF nd hr hf Q hq
  unfold slcF at hf
  split at hf
  · rename_i s
    obtain ⟨x, rfl, q1⟩ := hr.one
    exact ⟨x, rfl, cutR_ok iF iR (fun _ h => h) q1 hf Q hq⟩
  · rename_i s l
    obtain ⟨x, y, f1, f2, rfl, ef, q1, q2⟩ := hr.two
    cases hi : l.i? with
    | none => rw [hi] at hf; cases hf
    | some i =>
      rw [hi] at hf
      rw [RV.i_of hi q2]
      exact ⟨x, i, rfl, cutR_ok iF iR (fun a h => by rw [ef]; exact List.mem_append_left _ h) q1 hf Q hq⟩
  · rename_i s l
    obtain ⟨x, y, f1, f2, rfl, ef, q1, q2⟩ := hr.two
    cases hi : l.i? with
    | none => rw [hi] at hf; cases hf
    | some i =>
      rw [hi] at hf
      rw [RV.i_of hi q2]
      exact ⟨x, i, rfl, cutR_ok iF iR (fun a h => by rw [ef]; exact List.mem_append_left _ h) q1 hf Q hq⟩
  · cases hf
theorem rd_slc {k : Nat} {σ : L2.St} {H : Hp} {Q : VK} (q : rdE X.K Γ U (evE W (.slc k es)) (pureE (.slc k es)) σ H Q) : rdL X.K Γ U (evEs W es) (pureEs es) σ H fun vs H1 => roS X.K k vs H1 Q :=
  rd_fin (f := slcF k) (by rw [show evE W (.slc k es) = fun e => (evEs W es e).bind fun rs e => Out.of e (slcF k rs) from funext fun e => by rw [evE]] at q; exact q) (slcF_ok k)
theorem se_slc0 {p2 : Pos} (ha : SE X Γ U W ea a) : SE X Γ U W (.Subscript ea (.Slice none none none p2) pos) (.slc 0 [a]) :=
  PE.imp (pe_slice roSl_ok ha po_none po_none) fun σ H Q q => (rdL_cons (rd_slc q)).mono fun x H1 h => by
    obtain ⟨y, e, h⟩ := rdL_nil h
    cases e
    exact h
theorem se_slc1 {p2 : Pos} (ha : SE X Γ U W ea a) (hb : SE X Γ U W eb b) : SE X Γ U W (.Subscript ea (.Slice (some eb) none none p2) pos) (.slc 1 [a, b]) :=
  PE.imp (pe_slice roSl_ok ha (po_some hb) po_none) fun σ H Q q => (rdL_cons (rd_slc q)).mono fun x H1 h => (rdL_cons h).mono fun y H2 h => by
    obtain ⟨x', i, e, h2⟩ := rdL_nil h
    cases e
    exact ⟨i, rfl, h2⟩
theorem se_slc2 {p2 : Pos} (ha : SE X Γ U W ea a) (hb : SE X Γ U W eb b) : SE X Γ U W (.Subscript ea (.Slice none (some eb) none p2) pos) (.slc 2 [a, b]) :=
  PE.imp (pe_slice roSl_ok ha po_none (po_some hb)) fun σ H Q q => (rdL_cons (rd_slc q)).mono fun x H1 h => (rdL_cons h).mono fun y H2 h => by
    obtain ⟨x', i, e, h2⟩ := rdL_nil h
    cases e
    exact ⟨i, rfl, h2⟩
theorem rd_slc3 {σ : L2.St} {H : Hp} {Q : VK} (q : rdE X.K Γ U (evE W (.slc3 a b c)) (pureE (.slc3 a b c)) σ H Q) :
    rdE X.K Γ U (evE W a) (pureE a) σ H fun x H1 => rdE X.K Γ U (evE W b) (pureE b) σ H1 fun y H2 => ∃ i, y = .int i ∧ rdE X.K Γ U (evE W c) (pureE c) σ H2 fun z H3 => ∃ j, z = .int j ∧ roSl X.K x (some i) (some j) H3 Q := by
  obtain ⟨F, G, P, env, ow, R, k⟩ := q
  have pp : pureE (.slc3 a b c) = true → pureE a = true ∧ pureE b = true ∧ pureE c = true := fun h => by
    have h' : (pureE a && (pureE b && pureE c)) = true := h
    simp only [Bool.and_eq_true] at h'
    exact h'
  refine ⟨F, G, P, env, ow, R, ?_⟩
  rw [evE] at k
  cases ha : evE W a env with
  | stuck => simp only [ha, Out.bind] at k; exact k
  | exc c ds e1 => simp only [ha, Out.bind] at k; exact k
  | ok r e1 =>
    simp only [ha, Out.bind] at k
    intro x H1 ⟨F1, ow1, fp1, R1, S1, T1, q1, l1, lr1⟩ pu1
    cases hl : (r.loose && !(pureE b && pureE c)) with
    | true => simp only [hl, if_true] at k; exact k.elim
    | false =>
    simp only [hl, Bool.false_eq_true, if_false] at k
    refine ⟨F1, G, _, e1, ow1, R1.push S1, ?_⟩
    cases hb : evE W b e1 with
    | stuck => simp only [hb] at k; exact k
    | exc c ds e2 => simp only [hb] at k; exact fun cls d H2 x => k cls d H2 (x.after T1 l1 lr1)
    | ok s e2 =>
      simp only [hb] at k
      intro y H2 ⟨F2, ow2, fp2, R2, S2, T2, q2, l2, lr2⟩ pu2
      cases hs : s.d with
      | int i =>
        simp only [hs] at k
        cases q2.int hs
        refine ⟨i, rfl, F2, G, _, e2, ow2, R2, ?_⟩
        have T2' := T2.less fun x hx => List.mem_append_left _ hx
        cases hc : evE W c e2 with
        | stuck => simp only [hc] at k; exact k
        | exc c ds e3 => simp only [hc] at k; exact fun cls d H4 x => k cls d H4 ((x.afterT T2' l2 lr2).after T1 l1 lr1)
        | ok t e3 =>
          simp only [hc] at k
          intro z H3 ⟨F3, ow3, fp3, R3, S3, T3, q3, l3, lr3⟩ pu3
          cases ht : t.d with
          | int j =>
            simp only [ht] at k
            cases q3.int ht
            refine ⟨j, rfl, ?_⟩
            have T3' := T3.less fun x hx => List.mem_append_left _ hx
            have hR : ResL X.K Γ H1 F1 G (fun a => P a ∨ a ∈ fp1) e1 σ ow1 [] e3 [] H3 := ⟨F3, ow3, [], R3, .nil, by rw [List.append_nil]; exact T2'.trans T3' fun x hx => hx, ⟨rfl, rfl⟩, l2.trans l3, lr2.trans lr3⟩
            obtain ⟨F4, ow4, fr, R4, S4, T4, q4, l4, lr4⟩ := Res.cons R1 S1 T1 q1 l1 lr1 hR fun lo => by
              rw [lo] at hl
              have hbc : pureE b = true ∧ pureE c = true := by simpa [Bool.and_eq_true] using hl
              exact fun a o q => (pu3 hbc.2).2 a o ((pu2 hbc.1).2 a o q)
            obtain ⟨x', e4, q4⟩ := q4.one
            cases e4
            cases hf : cutR r (some i) (some j) with
            | none => simp only [hf, Out.of] at k; exact k.elim
            | some t' =>
              simp only [hf, Out.of] at k
              refine cutR_ok R4.iF S4.has (fun _ h => h) q4 hf Q fun z H5 op => k z H5 (fin R4 S4 T4 l4 lr4 op) fun pq => ?_
              obtain ⟨F5, fp5, _, _, kp, _⟩ := op
              obtain ⟨p1, p2, p3⟩ := pp pq
              exact ⟨(pu3 p3).1.trans ((pu2 p2).1.trans (pu1 p1).1), fun a o q => kp a o ((pu3 p3).2 a o ((pu2 p2).2 a o ((pu1 p1).2 a o q)))⟩
          | _ => simp only [ht] at k; exact k.elim
      | _ => simp only [hs] at k; exact k.elim
theorem se_slc3 {p2 : Pos} (ha : SE X Γ U W ea a) (hb : SE X Γ U W eb b) (hc : SE X Γ U W ec c) : SE X Γ U W (.Subscript ea (.Slice (some eb) (some ec) none p2) pos) (.slc3 a b c) :=
  PE.imp (pe_slice roSl_ok ha (po_some hb) (po_some hc)) fun σ H Q q => rd_slc3 q
/-- a fresh tree is data from here on -/
theorem Res.freeze {K : PySem.W.Frag} {H H' : Hp} {F G P : AP} {e e1 : Env} {σ : L2.St} {ow : List Addr} {r : RV} {v : V} (h : Res K Γ H F G P e σ ow r e1 v H') (hl : r.loose = false) : Res K Γ H F G P e σ ow (.of r.d) e1 v H' := by
  obtain ⟨F', ow', fp, R, S, T, q, l, lr⟩ := h
  obtain ⟨m, al⟩ := r
  cases al with
  | true =>
    cases m with
    | fz d =>
      unfold RepR at q; rw [if_pos rfl] at q
      obtain ⟨ef, fq, _, hd⟩ := q
      subst ef
      refine ⟨F', ow', [], R, S, T, ?_, l, lr⟩
      show RepM K Γ true H' F' (.fz (RV.d ⟨.fz d, true⟩)) v []
      exact ⟨rfl, by rw [show RV.d ⟨.fz d, true⟩ = d by unfold RV.d; rw [M.toD]]; exact hd⟩
    | lst ms => cases hl
    | tup ms => cases hl
    | dct ks ms => cases hl
    | obj c fs ms => cases hl
  | false =>
    have hm : RepM K Γ true H' F' m v fp := q
    refine ⟨fun a => F' a ∨ a ∈ fp, ow', [], ⟨R.rep.ext (.of (fun a h => .inl h) fun _ _ _ q => q) (fun a o _ q => q) fun a o _ q => .inl q, R.nd, fun a h z => z.elim (R.dF a h) (fun z => S.dO a z h), R.dG, R.dP, fun a h => h.elim (R.iF a) (S.has a), R.iG, R.iP⟩, .nil, ?_, ⟨rfl, hm.freeze (fun a h => .inl h) fun a h => .inr h⟩, l, lr⟩
    rw [List.append_nil]
    refine ⟨fun a o h n => T.frame a o h n, fun a h => .inl (T.sub a h), fun a h => ?_, fun a h => T.own a (List.mem_append_left _ h)⟩
    rcases h with h | h
    · exact T.new a h
    · rcases T.own a (List.mem_append_right _ h) with w | w
      · exact .inr (.inl w)
      · exact .inr (.inr w)
theorem se_frz (ha : SE X Γ U W ea a) : SE X Γ U W ea (.frz a) := PE.imp ha fun σ H Q ⟨F, G, P, env, ow, R, k⟩ => ⟨F, G, P, env, ow, R, by
  rw [evE, pureE] at k
  cases h : evE W a env with
  | stuck => rw [h] at k; exact k
  | exc c ds e1 => rw [h] at k; exact k
  | ok r e1 =>
    rw [h] at k
    simp only [Out.bind] at k
    intro v H' hr pu
    cases hl : r.loose with
    | true => rw [hl] at k; exact k.elim
    | false => rw [hl] at k; exact k v H' (hr.freeze hl) pu⟩
end
end Pv
/-! Pv: built-in functions and methods by the evaluator. -/
namespace Pv
open PySem L2
section
variable {X : Cx} {Γ : Gm} {U : WX} {W : Wd} {ea eb ec : Expr} {a b c : E} {exs : List Expr} {es : List E} {pos p : Pos}
abbrev biOk (k : Bi) : Bool := match k with | .isi _ => false | .lrange1 => false | .lrange2 => false | .set => false | _ => true
theorem rd_bi {k : Bi} (hk : biOk k = true) {σ : L2.St} {H : Hp} {Q : VK} (q : rdE X.K Γ U (evE W (.bi k es)) (pureE (.bi k es)) σ H Q) :
    rdL X.K Γ U (evEs W es) (pureEs es) σ H fun vs H1 => roBi X.K k vs H1 Q :=
  rd_fin (f := biF k) (by rw [show evE W (.bi k es) = fun e => (evEs W es e).bind fun rs e => Out.of e (biF k rs) from funext fun e => by rw [evE]] at q; exact q) fun rs r vs H F fr h1 h2 h3 h4 h5 h6 Q h7 => biF_ok k rs r vs H F fr h1 h2 h3 h4 h5 hk h6 Q h7
theorem se_biB {k : Bi} {id : String} {x : Str} (hid : biV k = .builtin id) (hk : biOk k = true) (hc : X.calm = true) (hg : Gl X x) (hm : X.mg x = none) (hv : bootBuiltins x = some (.builtin id))
    (ha : SA X Γ U W (ea :: exs) es) (hn : x ≠ "__name__" := by decide) (hdb : (x == ("__debug__" : Str)) = false := by decide) (he : starEach (ea :: exs) X.env = (false, eval ea X.env) :: starEach exs X.env := by rfl) (hpl : (backTo pos (starEach exs X.env)).any (·.1) = false := by rfl) :
    SE X Γ U W (.Call (.Name x p) (ea :: exs) [] pos) (.bi k es) :=
  PE.imp (pe_callB (by have := roBi_ok (X := X) hc k; rwa [hid] at this) hg hm hv ha hn hdb he hpl) fun σ H Q q => rd_bi hk q
theorem se_biT {k : Bi} {id : String} {x : Str} (hid : biV k = .type id) (hk : biOk k = true) (hc : X.calm = true) (hg : Gl X x) (hm : X.mg x = none) (hv : bootBuiltins x = some (.type id))
    (ha : SA X Γ U W (ea :: exs) es) (hn : x ≠ "__name__" := by decide) (hdb : (x == ("__debug__" : Str)) = false := by decide) (he : starEach (ea :: exs) X.env = (false, eval ea X.env) :: starEach exs X.env := by rfl) (hpl : (backTo pos (starEach exs X.env)).any (·.1) = false := by rfl) :
    SE X Γ U W (.Call (.Name x p) (ea :: exs) [] pos) (.bi k es) :=
  PE.imp (pe_callTy (by have := roBi_ok (X := X) hc k; rwa [hid] at this) hg hm hv ha hn hdb he hpl) fun σ H Q q => rd_bi hk q
/-! ### isinstance -/
structure IsiC (K : PySem.W.Frag) (C : Addr) : Prop where
  cl : L2.Cls K C
  ha : PySem.W.findIn K (.ref C) "__class__" = some (some (.builtin "object.__class__"))
  hn : PySem.W.specialIn K (.builtin "object.__class__") "__get__" = some (some (.builtin "getset_descriptor.__get__"))
  htk : PySem.W.takesIn K (.builtin "object.__class__") = some true
  hm : PySem.W.mroIn K C (.type "object") = some true
def tyN (Γ : Gm) : D → Option Value
  | .non => some (.type "NoneType")
  | .bl _ => some (.type "bool")
  | .int _ => some (.type "int")
  | .str _ => some (.type "str")
  | .lst _ => some (.type "list")
  | .scr _ => some (.type "list")
  | .tup _ => some (.type "tuple")
  | .dct _ _ => some (.type "dict")
  | .obj c _ _ => some (.ref (Γ.cls c))
  | _ => none
theorem tyX_of {K : PySem.W.Frag} {H : Hp} {F : AP} {d : D} (hc : ∀ c, d.cls = some c → IsiC K (Γ.cls c)) {v : V} {t : Value} (h : RepD K Γ H F d v) (e : tyN Γ d = some t) : TyX K H v t := by
  cases d with
  | non => cases e; cases h; exact .base .non
  | bl b => cases e; cases h; exact .base (.bl b)
  | int i => cases e; cases h; exact .base (.int i)
  | str x => cases e; cases h; exact .base (.str x)
  | lst ds => cases e; obtain ⟨a, xs, rfl, _, ha, _⟩ := h; exact .base (.lst ha)
  | tup ds =>
    cases e
    obtain ⟨a, xs, rfl, ht, _⟩ := h
    rcases ht.sq with (h1 | ⟨o, h1⟩) | ⟨o, its, n, h1, h2, _⟩
    · exact .base (.tup h1)
    · exact .fTuple h1
    · exact .kTuple h1 h2
  | dct ks ds =>
    cases e
    obtain ⟨a, xs, rfl, _, hr, _⟩ := h
    rcases hr with h1 | ⟨o, h1⟩
    · exact .base (.dK h1)
    · exact .fDict h1
  | set xs => cases e
  | obj c fs vs => cases e; obtain ⟨a, dx, xs, rfl, _, ha, _⟩ := h; have hc := hc c rfl; exact .base (.ins ha hc.cl hc.ha hc.hn hc.htk hc.hm)
  | fn f => cases e
  | scr xs =>
    cases e
    obtain ⟨a, rfl, hs, _⟩ := h
    rcases hs with (h1 | ⟨o, h1⟩) | ⟨o, its, n, h1, h2, _⟩
    · exact .base (.lst h1)
    · exact .base (.frz h1)
    · exact .kList h1 h2
/-- what isinstance says of each kind -/
def IsiK (K : PySem.W.Frag) (Γ : Gm) (t : Ty) (u : Value) : Prop := ∀ d k, isTy t d = some k → ∃ tv, tyN Γ d = some tv ∧ (∀ c, d.cls = some c → IsiC K (Γ.cls c)) ∧ PySem.W.kitOne K tv u = some k
theorem isiK_int {K : PySem.W.Frag} : IsiK K Γ .int (.type "int") := fun d k h => by
  cases d <;> cases h <;> exact ⟨_, rfl, fun _ h => (nomatch h), rfl⟩
theorem isiK_bool {K : PySem.W.Frag} : IsiK K Γ .bool (.type "bool") := fun d k h => by
  cases d <;> cases h <;> exact ⟨_, rfl, fun _ h => (nomatch h), rfl⟩
theorem isiK_list {K : PySem.W.Frag} : IsiK K Γ .list (.type "list") := fun d k h => by
  cases d <;> cases h <;> exact ⟨_, rfl, fun _ h => (nomatch h), rfl⟩
theorem isiK_tuple {K : PySem.W.Frag} : IsiK K Γ .tuple (.type "tuple") := fun d k h => by
  cases d <;> cases h <;> exact ⟨_, rfl, fun _ h => (nomatch h), rfl⟩
theorem isiK_str {K : PySem.W.Frag} : IsiK K Γ .str (.type "str") := fun d k h => by
  cases d <;> cases h <;> exact ⟨_, rfl, fun _ h => (nomatch h), rfl⟩
theorem isiK_dict {K : PySem.W.Frag} : IsiK K Γ .dict (.type "dict") := fun d k h => by
  cases d <;> cases h <;> exact ⟨_, rfl, fun _ h => (nomatch h), rfl⟩
theorem se_isi {t : Ty} {cv : V} {u : Value} (hu : ClsV cv u) (hk : IsiK X.K Γ t u) (hg : Gl X "isinstance") (hm : X.mg "isinstance" = none)
    (ha : SE X Γ U W ea a) (hb : PE X eb (tC cv)) (he : starEach [ea, eb] X.env = (false, eval ea X.env) :: starEach [eb] X.env := by rfl) (he2 : starEach [eb] X.env = (false, eval eb X.env) :: starEach [] X.env := by rfl) (hpl : (backTo pos (starEach [eb] X.env)).any (·.1) = false := by rfl) :
    SE X Γ U W (.Call (.Name "isinstance" p) [ea, eb] [] pos) (.bi (.isi t) [a]) :=
  PE.imp (pe_callB (call_isi (X := X)) hg hm rfl (pa_cons ha (pa_cons hb pa_nil he2) he) (by decide) (by decide) he hpl) fun σ H Q q => by
    have q1 := rd_fin (f := biF (.isi t)) (os := evEs W [a]) (pu := pureEs [a]) (ro := fun vs H Q => ∃ x, vs = [x] ∧ rIsi X.K [x, cv] H Q) (by rw [show evE W (.bi (.isi t) [a]) = fun e => (evEs W [a] e).bind fun rs e => Out.of e (biF (.isi t) rs) from funext fun e => by rw [evE]] at q; exact q) fun rs r vs H F fr iF iR dF nd hr hf Q hq => ?_
    · exact (rdL_cons q1).mono fun x H1 h => by
        obtain ⟨x', e, h2⟩ := rdL_nil h
        cases e
        exact h2
    · cases rs with
      | nil => cases hf
      | cons s rs =>
        cases rs with
        | cons _ _ => cases hf
        | nil =>
          obtain ⟨x, rfl, q1⟩ := hr.one
          have hf' : (isTy t s.d).map (fun b => RV.of (.bl b)) = some r := hf
          cases hi : isTy t s.d with
          | none => rw [hi] at hf'; cases hf'
          | some k =>
            rw [hi] at hf'
            cases hf'
            obtain ⟨tv, e1, e0, e2⟩ := hk _ _ hi
            exact ⟨x, rfl, x, cv, tv, u, k, rfl, hu, tyX_of e0 q1.any e1, e2, hq _ _ (.data iF rfl)⟩
/-! ### built-in methods -/
theorem rd_bmE {m : Bm} {ro : V → List V → Hp → VK → Prop} {σ : L2.St} {H : Hp} {Q : VK} (q : rdE X.K Γ U (evE W (.bm m a es)) (pureE (.bm m a es)) σ H Q)
    (hf : ∀ r rs t x vs H F fx fy, (∀ a, F a → ∃ o, H a = some o) → (∀ a ∈ fx ++ fy, ∃ o, H a = some o) → (∀ a ∈ fx ++ fy, ¬ F a) → (fx ++ fy).Nodup → RepR X.K Γ H F r x fx → RepRs X.K Γ H F rs vs fy → bmF m r rs = some t → ∀ Q, (∀ z H', OpRes X.K Γ H F (fx ++ fy) t z H' → Q z H') → ro x vs H Q) :
    rdE X.K Γ U (evE W a) (pureE a) σ H fun x H1 => (∃ r F fp, bmTy m r.d = true ∧ RepR X.K Γ H1 F r x fp) ∧ rdL X.K Γ U (evEs W es) (pureEs es) σ H1 fun xs H2 => ro x xs H2 Q :=
  rd_bm (f := bmF m) (pty := bmTy m) (by rw [show evE W (.bm m a es) = fun e => (evE W a e).bind fun r e => if (r.loose && !pureEs es) = true then Out.stuck else if bmTy m r.d = true then (evEs W es e).bind fun rs e => Out.of e (bmF m r rs) else Out.stuck from funext fun e => by rw [evE]] at q; exact q) hf
theorem isLst_any {K : PySem.W.Frag} {H : Hp} {F : AP} {r : RV} {x : V} {fp : List Addr} (h : RepR K Γ H F r x fp) (e : r.d.isLst = true) : tyV K "list" x H := by
  cases hd : r.d with
  | lst ds =>
    obtain ⟨a, vs, rfl, ha, _⟩ := lstAny h hd
    exact .inl ⟨rfl, vs, SqL.of ha⟩
  | _ => rw [hd] at e; cases e
theorem isDct_any {K : PySem.W.Frag} {H : Hp} {F : AP} {r : RV} {x : V} {fp : List Addr} (h : RepR K Γ H F r x fp) (e : r.d.isDct = true) : ∃ a, x = .ref a ∧ IsD H a := by
  have h' := h.any
  cases hd : r.d with
  | dct ks vs =>
    rw [hd] at h'
    obtain ⟨a, xs, rfl, _, hr, _⟩ := h'
    exact ⟨a, rfl, .inl ⟨_, hr⟩⟩
  | _ => rw [hd] at e; cases e
theorem se_count {apos : Pos} (ha : SE X Γ U W ea a) (hb : SE X Γ U W eb b) (hbase : attributeBase ea "count" X.env (eval ea X.env) = eval ea X.env := by rfl)
    (hfew : ((backTo pos (starEach [eb] X.env)).all (fun x => !x.1) && (backToKw pos (keywordEach [] X.env)).all (fun x => x.1.isSome) && decide (([eb] : List Expr).length + ([] : List Keyword).length + (if ([] : List Keyword).isEmpty then 0 else 1) < 30)) = true := by rfl)
    (hline : (apos.endLine == pos.line) = true := by rfl) (hs : starEach [eb] X.env = (false, eval eb X.env) :: starEach [] X.env := by rfl) (hplain : (backTo pos (starEach [] X.env)).any (·.1) = false := by rfl) :
    SE X Γ U W (.Call (.Attribute ea "count" apos) [eb] [] pos) (.bm .count a [b]) :=
  PE.imp (pe_bm PySem.F.plainAttrs_list PySem.F.slot_list_count PySem.F.type_list_count mt_lcount ha (pa_cons hb pa_nil hs) hbase hfew hline hs hplain) fun σ H Q q => by
    refine (rd_bmE (ro := fun x vs H Q => ∃ y, vs = [y] ∧ rCntI X.K x [y] H Q) q fun r rs t x vs H F fx fy iF iR dF nd hr hrs hf Q hq => ?_).mono fun x H1 ⟨⟨r, F, fp, h1, h2⟩, h3⟩ => ⟨isLst_any h2 h1, (rdL_cons h3).mono fun y H2 h => ?_⟩
    · cases rs with
      | nil => cases hf
      | cons s rs =>
        cases rs with
        | cons _ _ => cases hf
        | nil =>
          obtain ⟨y, rfl, q1⟩ := hrs.one
          have hf' : (match r.d, s.d with | .lst ds, .int i => (ints? ds).map fun ns => RV.of (.int (ns.count i)) | _, _ => none) = some t := hf
          split at hf'
          · rename_i ds i hd hi
            cases hn : ints? ds with
            | none => rw [hn] at hf'; cases hf'
            | some ns =>
              rw [hn] at hf'
              cases hf'
              obtain ⟨a, ws, rfl, ha, hw⟩ := lstAny hr hd
              refine ⟨y, rfl, a, ns, i, rfl, by rw [q1.int hi], ?_, hq _ _ (.data iF rfl)⟩
              rw [← hw.ints hn]
              exact SqL.of ha
          · cases hf'
    · obtain ⟨y', e, h2⟩ := rdL_nil h
      cases e
      exact h2
theorem se_bits {apos : Pos} (ha : SE X Γ U W ea a) (hbase : attributeBase ea "bit_length" X.env (eval ea X.env) = eval ea X.env := by rfl) (hline : (apos.endLine == pos.line) = true := by rfl) :
    SE X Γ U W (.Call (.Attribute ea "bit_length" apos) [] [] pos) (.bm .bitlen a []) :=
  PE.imp (pe_bits ha hbase hline) fun σ H Q q => by
    refine (rd_bmE (ro := fun x vs H Q => ∃ i, x = .int i ∧ Q (.int (Builtin.Int.intBits i : Nat)) H) q fun r rs t x vs H F fx fy iF iR dF nd hr hrs hf Q hq => ?_).mono fun x H1 ⟨_, h3⟩ => rdL_nil h3
    cases rs with
    | cons _ _ => cases hf
    | nil =>
      have hf' : (match r.d with | .int i => some (RV.of (.int (Builtin.Int.intBits i : Nat))) | _ => none) = some t := hf
      split at hf'
      · rename_i i hd
        cases hf'
        exact ⟨i, hr.int hd, hq _ _ (.data iF rfl)⟩
      · cases hf'
/-- a result that is an operand -/
theorem op_pass {K : PySem.W.Frag} {H : Hp} {F : AP} {r : RV} {v : V} {fp fr : List Addr} (iF : ∀ a, F a → ∃ o, H a = some o) (h : RepR K Γ H F r v fp) (s : fp.Sublist fr) (nd : fr.Nodup) (dF : ∀ a ∈ fr, ¬ F a) : OpRes K Γ H F fr r v H :=
  ⟨F, fp, fun _ h => h, fun _ h => .inl h, fun _ _ h => h, h, nd.sublist s, fun a ha => ⟨dF a (s.subset ha), .inr (s.subset ha)⟩, iF⟩
/-- a dict's item, read -/
theorem dget_ok {K : PySem.W.Frag} {H : Hp} {F : AP} {r s : RV} {x y : V} {fx fy fr : List Addr} {k : Key} (hx : fx.Sublist fr) (iF : ∀ a, F a → ∃ o, H a = some o) (nd : fr.Nodup) (dF : ∀ a ∈ fr, ¬ F a)
    (hr : RepR K Γ H F r x fx) (hs : RepR K Γ H F s y fy) (hk : s.d.key = some k) (hd : r.d.isDct = true) : ∃ a o, x = .ref a ∧ DGet H a y o ∧
      (match r.m with
        | .fz (.dct ks vs) => match dget ks vs k with | some d => ∃ v, o = some v ∧ OpRes K Γ H F fr (.of d) v H | none => o = none
        | .dct ks vs => match dget ks vs k with | some m => ∃ v, o = some v ∧ OpRes K Γ H F fr ⟨m, r.al⟩ v H | none => o = none
        | _ => False) := by
  have ky := key_kV hs.any hk
  cases hm : r.m with
  | fz d =>
    obtain ⟨hr', _⟩ := hr.fzd hm
    cases d with
    | dct ks vs =>
      obtain ⟨a, xs, rfl, _, h1, l, hq⟩ := hr'
      refine ⟨a, dget ks xs k, rfl, .inl ⟨_, k, h1, ky, (valV_dget (α := Nat) l).symm⟩, ?_⟩
      dsimp only
      cases hg : dget ks vs k with
      | some d => obtain ⟨v, e1, e2⟩ := dget_rep hq hg; exact ⟨v, e1, .data iF e2⟩
      | none =>
        have := dget_len (ks := ks) (k := k) hq.len
        rw [hg] at this
        dsimp only
        cases z : dget ks xs k with
        | none => rfl
        | some w => rw [z] at this; cases this
    | _ => unfold RV.d at hd; rw [hm] at hd; cases hd
  | dct ks ms =>
    obtain ⟨fq, h1, h2⟩ := hr.node hm rfl
    have key : ∃ a xs fs, x = .ref a ∧ fq = a :: fs ∧ Rd H a (.dK (ks.zip xs)) ∧ ks.length = xs.length ∧ (if r.al = true then RepMs K Γ false H F ms xs fs else RepMs K Γ true H F ms xs fs) := by
      by_cases al : r.al = true
      · simp only [al, if_true] at h1 ⊢
        obtain ⟨a, xs, fs, e1, e2, e3, e4, e5⟩ := h1
        exact ⟨a, xs, fs, e1, e2, by simpa using e3, e4, e5⟩
      · simp only [al, Bool.false_eq_true, if_false] at h1 ⊢
        obtain ⟨a, xs, fs, e1, e2, e3, e4, e5⟩ := h1
        exact ⟨a, xs, fs, e1, e2, .inl (by simpa using e3), e4, e5⟩
    obtain ⟨a, xs, fs, rfl, e2, e3, l, e5⟩ := key
    refine ⟨a, dget ks xs k, rfl, .inl ⟨_, k, e3, ky, (valV_dget (α := Nat) l).symm⟩, ?_⟩
    dsimp only
    cases hg : dget ks ms k with
    | some m =>
      by_cases al : r.al = true
      · rw [if_pos al] at e5
        obtain ⟨v, fq', e6, e7, sb⟩ := dget_repM e5 hg
        exact ⟨v, e6, op_part iF (fun z => by rw [al] at z; cases z) nd dF (by rw [if_pos al]; exact e7)⟩
      · rw [if_neg al] at e5
        obtain ⟨v, fq', e6, e7, sb⟩ := dget_repM e5 hg
        refine ⟨v, e6, op_part iF (fun z => ?_) nd dF (by rw [if_neg al]; exact e7)⟩
        have hfx := h2 z
        rw [hfx] at e2
        exact (sb.trans (by rw [e2]; exact List.sublist_cons_self ..)).trans hx
    | none =>
      have hl : ms.length = xs.length := by
        by_cases al : r.al = true
        · rw [if_pos al] at e5; exact e5.len
        · rw [if_neg al] at e5; exact e5.len
      have := dget_len (ks := ks) (k := k) hl
      rw [hg] at this
      dsimp only
      cases z : dget ks xs k with
      | none => rfl
      | some w => rw [z] at this; cases this
  | lst ms => unfold RV.d at hd; rw [hm] at hd; cases hd
  | tup ms => unfold RV.d at hd; rw [hm] at hd; cases hd
  | obj c fs ms => unfold RV.d at hd; rw [hm] at hd; cases hd
theorem bm_dct1 {r s t : RV} (h : bmF .get1 r [s] = some t) : r.d.isDct = true ∧ ∃ k, s.d.key = some k := by
  have h' : (match r.m, s.d.key with
    | .fz (.dct ks vs), some x => some ⟨.fz ((dget ks vs x).getD .non), false⟩
    | .dct ks vs, some x => some ⟨(dget ks vs x).getD (.fz .non), r.al⟩
    | _, _ => none) = some t := h
  split at h'
  · rename_i hm hk; exact ⟨by unfold RV.d; rw [hm]; rfl, _, hk⟩
  · rename_i hm hk; exact ⟨by unfold RV.d; rw [hm]; rfl, _, hk⟩
  · cases h'
theorem bm_dct2 {r s u t : RV} (h : bmF .get2 r [s, u] = some t) : r.d.isDct = true ∧ ∃ k, s.d.key = some k := by
  have h' : (match r.m, s.d.key with
    | .fz (.dct ks vs), some x => (match dget ks vs x with
      | some d => some ⟨.fz d, false⟩
      | none => some u)
    | .dct ks vs, some x => (match dget ks vs x with
      | some m => some ⟨m, r.al⟩
      | none => some u)
    | _, _ => none) = some t := h
  split at h'
  · rename_i hm hk; exact ⟨by unfold RV.d; rw [hm]; rfl, _, hk⟩
  · rename_i hm hk; exact ⟨by unfold RV.d; rw [hm]; rfl, _, hk⟩
  · cases h'
theorem se_get1 {apos : Pos} (hu : X.A.units + 1 < cLine) (ha : SE X Γ U W ea a) (hb : SE X Γ U W eb b) (m : M1 X ea "get" apos eb pos) : SE X Γ U W (.Call (.Attribute ea "get" apos) [eb] [] pos) (.bm .get1 a [b]) :=
  PE.imp (pe_dget1 hu ha hb m) fun σ H Q q => by
    refine (rd_bmE (ro := fun x vs H Q => ∃ a y o, x = .ref a ∧ vs = [y] ∧ DGet H a y o ∧ Q (o.getD .non) H) q fun r rs t x vs H F fx fy iF iR dF nd hr hrs hf Q hq => ?_).mono fun x H1 ⟨⟨r, F, fp, h1, h2⟩, h3⟩ => ?_
    · cases rs with
      | nil => cases hf
      | cons s rs =>
        cases rs with
        | cons _ _ => cases hf
        | nil =>
          obtain ⟨hd, k, hk⟩ := bm_dct1 hf
          obtain ⟨y, rfl, q1⟩ := hrs.one
          obtain ⟨a, o, rfl, hg, hm⟩ := dget_ok (fr := fx ++ fy) (List.sublist_append_left _ _) iF nd dF hr q1 hk hd
          refine ⟨a, y, o, rfl, rfl, hg, hq _ _ ?_⟩
          have hf' : (match r.m, s.d.key with
            | .fz (.dct ks vs), some x => some ⟨.fz ((dget ks vs x).getD .non), false⟩
            | .dct ks vs, some x => some ⟨(dget ks vs x).getD (.fz .non), r.al⟩
            | _, _ => none) = some t := hf
          rw [hk] at hf'
          cases h : r.m with
          | fz d =>
            rw [h] at hf' hm
            cases d with
            | dct ks vs =>
              cases hf'
              dsimp only at hm
              cases z : dget ks vs k with
              | none => rw [z] at hm; cases hm; exact .data iF rfl
              | some d => rw [z] at hm; obtain ⟨v, rfl, op⟩ := hm; exact op
            | _ => exact hm.elim
          | dct ks ms =>
            rw [h] at hf' hm
            cases hf'
            dsimp only at hm
            cases z : dget ks ms k with
            | none =>
              rw [z] at hm
              cases hm
              exact op_part iF (fq := []) (fun _ => List.nil_sublist _) nd dF (by split <;> exact ⟨rfl, rfl⟩)
            | some m => rw [z] at hm; obtain ⟨v, rfl, op⟩ := hm; exact op
          | lst ms => rw [h] at hm; exact hm.elim
          | tup ms => rw [h] at hm; exact hm.elim
          | obj c fs ms => rw [h] at hm; exact hm.elim
    · obtain ⟨a', ea', hI⟩ := isDct_any h2 h1
      refine ⟨a', ea', hI, (rdL_cons h3).mono fun y H2 h => ?_⟩
      obtain ⟨a2, y2, o, e1, e2, e3, e4⟩ := rdL_nil h
      cases e2
      rw [ea'] at e1
      cases e1
      exact ⟨o, e3, e4⟩
theorem se_get2 {apos : Pos} (hu : X.A.units + 1 < cLine) (ha : SE X Γ U W ea a) (hb : SE X Γ U W eb b) (hc : SE X Γ U W ec c) (m : M2 X ea "get" apos eb ec pos) : SE X Γ U W (.Call (.Attribute ea "get" apos) [eb, ec] [] pos) (.bm .get2 a [b, c]) :=
  PE.imp (pe_dget2 hu ha hb hc m) fun σ H Q q => by
    refine (rd_bmE (ro := fun x vs H Q => ∃ a y z o, x = .ref a ∧ vs = [y, z] ∧ DGet H a y o ∧ Q (o.getD z) H) q fun r rs t x vs H F fx fy iF iR dF nd hr hrs hf Q hq => ?_).mono fun x H1 ⟨⟨r, F, fp, h1, h2⟩, h3⟩ => ?_
    · cases rs with
      | nil => cases hf
      | cons s rs =>
        cases rs with
        | nil => cases hf
        | cons u rs =>
        cases rs with
        | cons _ _ => cases hf
        | nil =>
          obtain ⟨hd, k, hk⟩ := bm_dct2 hf
          obtain ⟨y, z, f1, f2, rfl, ef, q1, q2⟩ := hrs.two
          obtain ⟨a, o, rfl, hg, hm⟩ := dget_ok (fr := fx ++ fy) (List.sublist_append_left _ _) iF nd dF hr q1 hk hd
          have hz : OpRes X.K Γ H F (fx ++ fy) u z H := op_pass iF q2 (by rw [ef]; exact (List.sublist_append_right _ _).trans (List.sublist_append_right _ _)) nd dF
          refine ⟨a, y, z, o, rfl, rfl, hg, hq _ _ ?_⟩
          have hf' : (match r.m, s.d.key with
            | .fz (.dct ks vs), some x => (match dget ks vs x with
              | some d => some ⟨.fz d, false⟩
              | none => some u)
            | .dct ks vs, some x => (match dget ks vs x with
              | some m => some ⟨m, r.al⟩
              | none => some u)
            | _, _ => none) = some t := hf
          rw [hk] at hf'
          cases h : r.m with
          | fz d =>
            rw [h] at hf' hm
            cases d with
            | dct ks vs =>
              dsimp only at hm hf'
              cases z : dget ks vs k with
              | none => rw [z] at hm hf'; cases hm; cases hf'; exact hz
              | some d => rw [z] at hm hf'; obtain ⟨v, rfl, op⟩ := hm; cases hf'; exact op
            | _ => exact hm.elim
          | dct ks ms =>
            rw [h] at hf' hm
            dsimp only at hm hf'
            cases z : dget ks ms k with
            | none => rw [z] at hm hf'; cases hm; cases hf'; exact hz
            | some m => rw [z] at hm hf'; obtain ⟨v, rfl, op⟩ := hm; cases hf'; exact op
          | lst ms => rw [h] at hm; exact hm.elim
          | tup ms => rw [h] at hm; exact hm.elim
          | obj c fs ms => rw [h] at hm; exact hm.elim
    · obtain ⟨a', ea', hI⟩ := isDct_any h2 h1
      refine ⟨a', ea', hI, (rdL_cons h3).mono fun y H2 h => (rdL_cons h).mono fun z H3 h => ?_⟩
      obtain ⟨a2, y2, z2, o, e1, e2, e3, e4⟩ := rdL_nil h
      cases e2
      rw [ea'] at e1
      cases e1
      exact ⟨o, e3, e4⟩
/-! ### list(range(..)) -/
end
end Pv
/-! Pv: arguments and calls by the evaluator. -/
namespace Pv
open PySem PySem.Spec PyProof.Rows L2
section
variable (K : PySem.W.Frag) (Γ : Gm) (W : WX)
def ResB (H : Hp) (F G P : AP) (e : Env) (σ : L2.St) (ow : List Addr) (a : Arg) (e' : Env) (v : V) (H' : Hp) : Prop :=
  ∃ F' ow' fp, Rst K Γ H' F' G P e' σ ow' ∧ Sep H' F' G P ow' fp ∧ Stp H F ow H' F' (ow' ++ fp) ∧ RepA K Γ H' F' σ a v fp ∧ LK e e' ∧ LR σ σ e e'
def OutB (H : Hp) (F G P : AP) (env : Env) (σ : L2.St) (ow : List Addr) (Q : V → Hp → Prop) : Out Arg → Prop
  | .ok r e => ∀ v H', ResB K Γ H F G P env σ ow r e v H' → Q v H'
  | .exc c ds e => ∀ cls d H', ResX K Γ H F G P env σ ow c ds e cls d H' → W cls d σ H'
  | .stuck => False
def rdB (o : Env → Out Arg) : TE := fun σ H Q => ∃ F G P env ow, Rst K Γ H F G P env σ ow ∧ OutB K Γ W H F G P env σ ow Q (o env)
end
section
variable {K : PySem.W.Frag} {Γ : Gm} {W : WX} {H H' H1 H2 : Hp} {F F' F1 F2 G P : AP} {e e' e1 e2 env : Env} {σ : L2.St} {ow ow' ow1 ow2 fp fr : List Addr}
theorem rdA_mono {Q Q' : List V → Hp → Prop} {o : Env → Out (List Arg)} (h : rdA K Γ W o σ H Q) (q : ∀ v H', Q v H' → Q' v H') : rdA K Γ W o σ H Q' := by
  obtain ⟨F, G, P, env, ow, R, k⟩ := h
  refine ⟨F, G, P, env, ow, R, ?_⟩
  cases ha : o env with
  | stuck => rw [ha] at k; exact k
  | exc c ds e1 => rw [ha] at k; exact k
  | ok r e1 => rw [ha] at k; exact fun v H' a => q _ _ (k v H' a)
theorem rdB_mono {Q Q' : V → Hp → Prop} {o : Env → Out Arg} (h : rdB K Γ W o σ H Q) (q : ∀ v H', Q v H' → Q' v H') : rdB K Γ W o σ H Q' := by
  obtain ⟨F, G, P, env, ow, R, k⟩ := h
  refine ⟨F, G, P, env, ow, R, ?_⟩
  cases ha : o env with
  | stuck => rw [ha] at k; exact k
  | exc c ds e1 => rw [ha] at k; exact k
  | ok r e1 => rw [ha] at k; exact fun v H' a => q _ _ (k v H' a)
theorem RepAs.app : ∀ {as bs : List Arg} {vs ws : List V} {fs gs : List (List Addr)}, RepAs K Γ H F σ as vs fs → RepAs K Γ H F σ bs ws gs → RepAs K Γ H F σ (as ++ bs) (vs ++ ws) (fs ++ gs)
  | [], _, _, _, _, _, ⟨e1, e2⟩, h => by rw [e1, e2]; exact h
  | a :: as, _, _, _, _, _, ⟨v, t, f, g, e1, e2, h1, h2⟩, h => ⟨v, t ++ _, f, g ++ _, by rw [e1]; rfl, by rw [e2]; rfl, h1, RepAs.app h2 h⟩
theorem RepAs.ext : ∀ {as : List Arg} {vs : List V} {fs : List (List Addr)}, RepAs K Γ H F σ as vs fs → Ext H H' F F' → (∀ a ob, a ∈ fs.flatten → H a = some ob → H' a = some ob) → RepAs K Γ H' F' σ as vs fs
  | [], _, _, h, _, _ => h
  | a :: as, _, _, ⟨v, t, f, g, e1, e2, h1, h2⟩, x, o => ⟨v, t, f, g, e1, e2, h1.ext x fun a ob ha => o a ob (by rw [e2, List.flatten_cons]; exact List.mem_append_left _ ha), RepAs.ext h2 x fun a ob ha => o a ob (by rw [e2, List.flatten_cons]; exact List.mem_append_right _ ha)⟩
theorem RepAs.len : ∀ {as : List Arg} {vs : List V} {fs : List (List Addr)}, RepAs K Γ H F σ as vs fs → as.length = vs.length
  | [], _, _, ⟨e1, _⟩ => by rw [e1]; rfl
  | a :: as, _, _, ⟨v, t, f, g, e1, e2, h1, h2⟩ => by rw [e1, List.length_cons, List.length_cons, RepAs.len h2]
/-- arguments behind arguments -/
theorem ResA.app {as bs : List Arg} {vs ws : List V} {F1 : AP} {ow1 : List Addr} {fs : List (List Addr)} (R1 : Rst K Γ H1 F1 G P e1 σ ow1) (S1 : Sep H1 F1 G P ow1 fs.flatten) (T1 : Stp H F ow H1 F1 (ow1 ++ fs.flatten)) (q1 : RepAs K Γ H1 F1 σ as vs fs) (l1 : LK e e1) (lr1 : LR σ σ e e1)
    (h2 : ResA K Γ H1 F1 G (fun a => P a ∨ a ∈ fs.flatten) e1 σ ow1 bs e2 ws H2) : ResA K Γ H F G P e σ ow (as ++ bs) e2 (vs ++ ws) H2 := by
  obtain ⟨F2, ow2, gs, R2, S2, T2, q2, l2, lr2⟩ := h2
  have k1 : ∀ a o, a ∈ fs.flatten → H1 a = some o → H2 a = some o := fun a o f q => T2.frame a o q (S1.dO a f)
  have n1 : ∀ a ∈ fs.flatten, ¬ F2 a := fun a f z => by
    rcases T2.new a z with w | w | w
    · exact S1.dF a f w
    · exact S1.dO a f w
    · obtain ⟨o, q⟩ := S1.has a f
      rw [q] at w; cases w
  have o1 : ∀ a ∈ fs.flatten, a ∉ ow2 ++ gs.flatten := fun a f z => by
    rcases T2.own a z with w | w
    · exact S1.dO a f w
    · obtain ⟨o, q⟩ := S1.has a f
      rw [q] at w; cases w
  refine ⟨F2, ow2, fs ++ gs, R2.pop fun a h => .inl h, ?_, ?_, (q1.ext (R1.ext (T2.less fun x hx => hx)) fun a o h => k1 a o h).app q2, l1.trans l2, lr1.trans lr2⟩
  · rw [List.flatten_append]
    refine ⟨?_, fun a h => ?_, fun a h => ?_, fun a h => ?_, fun a h => ?_, fun a h => ?_⟩
    · exact List.nodup_append.mpr ⟨S1.nd, S2.nd, fun a ha b hb z => by subst z; exact o1 a ha (List.mem_append_right _ hb)⟩
    · rcases List.mem_append.mp h with h | h
      · obtain ⟨o, q⟩ := S1.has a h; exact ⟨o, k1 a o h q⟩
      · exact S2.has a h
    · rcases List.mem_append.mp h with h | h
      · exact n1 a h
      · exact S2.dF a h
    · rcases List.mem_append.mp h with h | h
      · exact S1.dG a h
      · exact S2.dG a h
    · rcases List.mem_append.mp h with h | h
      · exact S1.dP a h
      · exact fun z => S2.dP a h (.inl z)
    · rcases List.mem_append.mp h with h | h
      · exact fun z => o1 a h (List.mem_append_left _ z)
      · exact S2.dO a h
  · rw [List.flatten_append]
    have T := T1.trans T2 fun x hx => List.mem_append_left _ hx
    refine ⟨T.frame, T.sub, T.new, fun a h => ?_⟩
    rcases List.mem_append.mp h with h | h
    · exact T.own a (List.mem_append_left _ h)
    · rcases List.mem_append.mp h with h | h
      · exact T1.own a (List.mem_append_right _ h)
      · exact T.own a (List.mem_append_right _ h)
theorem rdA_app {oa ob : Env → Out (List Arg)} {Q : List V → Hp → Prop} (h : rdA K Γ W (fun e => (oa e).bind fun as e => (ob e).bind fun bs e => Out.ok (as ++ bs) e) σ H Q) :
    rdA K Γ W oa σ H fun vs H1 => rdA K Γ W ob σ H1 fun ws H2 => Q (vs ++ ws) H2 := by
  obtain ⟨F, G, P, env, ow, R, k⟩ := h
  refine ⟨F, G, P, env, ow, R, ?_⟩
  cases ha : oa env with
  | stuck => simp only [ha, Out.bind] at k; exact k
  | exc c ds e1 => simp only [ha, Out.bind] at k; exact k
  | ok as e1 =>
    simp only [ha, Out.bind] at k
    intro vs H1 ⟨F1, ow1, fs, R1, S1, T1, q1, l1, lr1⟩
    refine ⟨F1, G, _, e1, ow1, R1.push S1, ?_⟩
    cases hb : ob e1 with
    | stuck => simp only [hb] at k; exact k
    | exc c ds e2 => simp only [hb] at k; exact fun cls d H2 x => k cls d H2 (x.after T1 l1 lr1)
    | ok bs e2 =>
      simp only [hb] at k
      exact fun ws H2 h2 => k _ H2 (ResA.app R1 S1 T1 q1 l1 lr1 h2)
theorem rdA_cons {oa : Env → Out Arg} {ob : Env → Out (List Arg)} {Q : List V → Hp → Prop} (h : rdA K Γ W (fun e => (oa e).bind fun a e => (ob e).bind fun bs e => Out.ok (a :: bs) e) σ H Q) :
    rdB K Γ W oa σ H fun v H1 => rdA K Γ W ob σ H1 fun ws H2 => Q (v :: ws) H2 := by
  obtain ⟨F, G, P, env, ow, R, k⟩ := h
  refine ⟨F, G, P, env, ow, R, ?_⟩
  cases ha : oa env with
  | stuck => simp only [ha, Out.bind] at k; exact k
  | exc c ds e1 => simp only [ha, Out.bind] at k; exact k
  | ok a e1 =>
    simp only [ha, Out.bind] at k
    intro v H1 ⟨F1, ow1, fp, R1, S1, T1, q1, l1, lr1⟩
    have ef : [fp].flatten = fp := by simp
    have S1' : Sep H1 F1 G P ow1 [fp].flatten := by rw [ef]; exact S1
    have T1' : Stp H F ow H1 F1 (ow1 ++ [fp].flatten) := by rw [ef]; exact T1
    have q1' : RepAs K Γ H1 F1 σ [a] [v] [fp] := ⟨v, [], fp, [], rfl, rfl, q1, rfl, rfl⟩
    refine ⟨F1, G, _, e1, ow1, R1.push S1', ?_⟩
    cases hb : ob e1 with
    | stuck => simp only [hb] at k; exact k
    | exc c ds e2 => simp only [hb] at k; exact fun cls d H2 x => k cls d H2 (x.after T1' l1 lr1)
    | ok bs e2 =>
      simp only [hb] at k
      exact fun ws H2 h2 => k _ H2 (ResA.app R1 S1' T1' q1' l1 lr1 h2)
theorem rdA_nil {Q : List V → Hp → Prop} (h : rdA K Γ W (fun e => Out.ok [] e) σ H Q) : Q [] H := by
  obtain ⟨F, G, P, env, ow, R, k⟩ := h
  exact k [] H ⟨F, ow, [], R, .nil, by rw [List.flatten_nil, List.append_nil]; exact .refl, ⟨rfl, rfl⟩, .refl, .refl⟩
theorem evAs_app {W' : Wd} : ∀ (as bs : List E), evAs W' (as ++ bs) = fun e => (evAs W' as e).bind fun xs e => (evAs W' bs e).bind fun ys e => Out.ok (xs ++ ys) e
  | [], bs => funext fun e => by
    rw [List.nil_append, evAs]
    simp only [Out.bind]
    cases evAs W' bs e <;> rfl
  | a :: as, bs => funext fun e => by
    rw [List.cons_append, evAs, evAs_app as bs, evAs]
    cases evA W' a e with
    | stuck => rfl
    | exc c ds e1 => rfl
    | ok x e1 =>
      simp only [Out.bind]
      cases evAs W' as e1 with
      | stuck => rfl
      | exc c ds e2 => rfl
      | ok xs e2 =>
        simp only
        cases evAs W' bs e2 <;> rfl
theorem evAs_len {W' : Wd} : ∀ {es : List E} {e e' : Env} {as : List Arg}, evAs W' es e = .ok as e' → as.length = es.length
  | [], e, e', as, h => by rw [evAs] at h; cases h; rfl
  | a :: es, e, e', as, h => by
    rw [evAs] at h
    cases ha : evA W' a e with
    | stuck => simp only [ha, Out.bind] at h; cases h
    | exc c ds e1 => simp only [ha, Out.bind] at h; cases h
    | ok x e1 =>
      simp only [ha, Out.bind] at h
      cases hb : evAs W' es e1 with
      | stuck => simp only [hb] at h; cases h
      | exc c ds e2 => simp only [hb] at h; cases h
      | ok xs e2 => simp only [hb] at h; cases h; rw [List.length_cons, List.length_cons, evAs_len hb]
theorem rdA_len {W' : Wd} {es : List E} {Q : List V → Hp → Prop} (h : rdA K Γ W (evAs W' es) σ H Q) : rdA K Γ W (evAs W' es) σ H fun vs H1 => vs.length = es.length ∧ Q vs H1 := by
  obtain ⟨F, G, P, env, ow, R, k⟩ := h
  refine ⟨F, G, P, env, ow, R, ?_⟩
  cases ha : evAs W' es env with
  | stuck => rw [ha] at k; exact k
  | exc c ds e1 => rw [ha] at k; exact k
  | ok as e1 =>
    rw [ha] at k
    exact fun v H' a => ⟨by obtain ⟨F1, ow1, fs, R1, S1, T1, q1, l1, lr1⟩ := a; rw [← q1.len, evAs_len ha], k v H' a⟩
end
abbrev SG1 (X : Cx) (Γ : Gm) (U : WX) (W : Wd) (ex : Expr) (e : E) : Prop := PE X ex (rdB X.K Γ U (evA W e))
abbrev SG (X : Cx) (Γ : Gm) (U : WX) (W : Wd) (exs : List Expr) (es : List E) : Prop := PA X exs (rdA X.K Γ U (evAs W es))
abbrev SK (X : Cx) (Γ : Gm) (U : WX) (W : Wd) (kws : List Keyword) (es : List E) : Prop := PK X kws (rdA X.K Γ U (evAs W es))
theorem PK.imp {X : Cx} {ex : List Keyword} {t t' : TA} (h : PK X ex t) (i : ∀ σ H Q, t' σ H Q → t σ H Q) : PK X ex t' := ⟨fun pos pins s σ H Q I q => h.run pos pins s σ H Q I (i _ _ _ q)⟩
section
variable {X : Cx} {Γ : Gm} {U : WX} {W : Wd} {ea eb ec : Expr} {a b c : E} {exs : List Expr} {es es2 : List E} {pos p kpos : Pos} {kws : List Keyword} {nm : Option Str}
theorem sg_var {i : Nat} {x : Str} (hN : X.N[i]? = some x) (hv : Vis X.env.scope x) (hd : (x == ("__debug__" : Str)) = false := by decide) (hcd : (x == ("__classdict__" : Str)) = false := by decide) : SG1 X Γ U W (.Name x pos) (.var i) :=
  PE.imp (pe_var hN hv hd hcd) fun σ H Q ⟨F, G, P, env, ow, R, k⟩ => by
    rw [evA] at k
    cases hs : env.at i with
    | no => rw [hs] at k; exact k.elim
    | ok m w =>
      rw [hs] at k
      obtain ⟨u, fq, hu, hm, hz⟩ := R.rep.read hs
      refine ⟨u, hu, ?_⟩
      dsimp only at k
      have base : ∀ ar, RepA X.K Γ H F σ ar u [] → ResB X.K Γ H F G P env σ ow ar env u H := fun ar h => ⟨F, ow, [], R, .nil, by rw [List.append_nil]; exact .refl, h, .refl, .refl⟩
      cases hn : m.isNode with
      | true =>
        rw [hn, if_pos rfl] at k
        cases w with
        | true => exact k u H (base _ ⟨rfl, hu⟩)
        | false => exact k.elim
      | false =>
        rw [hn, if_neg (by decide)] at k
        refine k u H (base _ ?_)
        cases m with
        | fz d => exact ⟨rfl, hm.2⟩
        | _ => cases hn
theorem sg_e (ha : SE X Γ U W ea a) (hv : ∀ i, a ≠ .var i := by intro _ h; cases h) : SG1 X Γ U W ea a :=
  PE.imp ha fun σ H Q ⟨F, G, P, env, ow, R, k⟩ => by
    refine ⟨F, G, P, env, ow, R, ?_⟩
    rw [show evA W a env = (evE W a env).bind fun r e => match r.sto with | some m => Out.ok (.val m) e | none => .stuck by
      cases a with
      | var i => exact absurd rfl (hv i)
      | _ =>
        rw [evA] <;> first
          | rfl
          | (intro i h; cases h)] at k
    cases he : evE W a env with
    | stuck => simp only [he, Out.bind] at k; exact k
    | exc c ds e1 => simp only [he, Out.bind] at k; exact k
    | ok r e1 =>
      simp only [he, Out.bind] at k
      intro v H1 ⟨F1, ow1, fp, R1, S1, T1, q1, l1, lr1⟩ _
      unfold RV.sto at k
      cases hl : r.loose with
      | true => simp only [hl, if_true] at k; exact k.elim
      | false =>
        simp only [hl, Bool.false_eq_true, if_false] at k
        exact k v H1 ⟨F1, ow1, fp, R1, S1, T1, q1.own hl, l1, lr1⟩
theorem sg_nil : SG X Γ U W [] [] := PA.imp pa_nil fun σ H Q q => rdA_nil (K := X.K) (Γ := Γ) (W := U) (σ := σ) (by rw [show evAs W [] = fun e => Out.ok [] e from funext fun e => by rw [evAs]] at q; exact q)
theorem evAs_cons : evAs W (a :: es) = fun e => (evA W a e).bind fun r e => (evAs W es e).bind fun rs e => Out.ok (r :: rs) e := funext fun e => by rw [evAs]
theorem sg_cons (ha : SG1 X Γ U W ea a) (hr : SG X Γ U W exs es) (hs : starEach (ea :: exs) X.env = (false, eval ea X.env) :: starEach exs X.env := by rfl) : SG X Γ U W (ea :: exs) (a :: es) :=
  PA.imp (pa_cons ha hr hs) fun σ H Q q => rdA_cons (by rw [evAs_cons] at q; exact q)
theorem sk_nil : SK X Γ U W [] [] := PK.imp pk_nil fun σ H Q q => rdA_nil (K := X.K) (Γ := Γ) (W := U) (σ := σ) (by rw [show evAs W [] = fun e => Out.ok [] e from funext fun e => by rw [evAs]] at q; exact q)
theorem sk_cons (ha : SG1 X Γ U W ea a) (hr : SK X Γ U W kws es) : SK X Γ U W (⟨nm, ea, kpos⟩ :: kws) (a :: es) :=
  PK.imp (pk_cons ha hr) fun σ H Q q => rdA_cons (by rw [evAs_cons] at q; exact q)
/-! ### what a call binds -/
structure BSh (K : PySem.W.Frag) (fd : FuncData) (ps : List Str) (n : Nat) (ks : List Str) (pm : List Pm) (dV : Nat → Option V) : Prop where
  ex : ∃ g : List Value → List Value → List Value, (∀ (s : Shared) (us ws : List Value), K.In s.heap → us.length = n → ws.length = ks.length → BindsTo s fd ⟨us, ks.zip ws⟩ (ps.zip (g us ws))) ∧
    ∀ (vs zs xs : List V) (us ws : List Value), vs.length = n → zs.length = ks.length → Vals vs us → Vals zs ws → pick (vs ++ zs) dV pm = some xs → Vals xs (g us ws)
theorem BSh.ofB {K : PySem.W.Frag} {fd : FuncData} {ps : List Str} {n : Nat} {pm : List Pm} {dV : Nat → Option V} {ds : List Value} {dvs : List V} (hb : Binds K fd ps ds) (hd : Vals dvs ds) (hn : n + dvs.length = ps.length)
    (hp : ∀ vs xs : List V, vs.length = n → pick vs dV pm = some xs → xs = vs ++ dvs) : BSh K fd ps n [] pm dV :=
  ⟨fun us _ => us ++ ds, fun s us ws kin l1 l2 => by
    have e : us.length + ds.length = ps.length := by rw [← hd.length, l1]; exact hn
    have := hb s us kin (by rw [List.length_append]; exact e)
    simpa using this, fun vs zs xs us ws l1 l2 r1 r2 e => by
    cases zs with
    | cons _ _ => cases l2
    | nil =>
      rw [List.append_nil] at e
      rw [hp vs xs l1 e]
      exact r1.append hd⟩
theorem BSh.kw {K : PySem.W.Frag} {fd : FuncData} {ps : List Str} {n : Nat} {ks : List Str} {pm : List Pm} {dV : Nat → Option V} {g : List Value → List Value → List Value} {gV : List V → List V → List V} (hb : KBn K fd ps n ks g gV)
    (hp : ∀ vs zs xs : List V, vs.length = n → zs.length = ks.length → pick (vs ++ zs) dV pm = some xs → xs = gV vs zs) : BSh K fd ps n ks pm dV :=
  ⟨g, hb.to, fun vs zs xs us ws l1 l2 r1 r2 e => by rw [hp vs zs xs l1 l2 e]; exact hb.rel r1 r2⟩
def tFP (sp : Sp) (E : L2.St → XK) (pm : List Pm) (dV : Nat → Option V) (n m : Nat) (t tk : TA) : TE := fun σ H Q => t σ H fun vs H1 => tk σ H1 fun zs H2 => vs.length = n ∧ zs.length = m ∧ ∃ xs, pick (vs ++ zs) dV pm = some xs ∧ sp xs H2 Q (E σ)
section
variable {CX : CXT} {k n : Nat} {f : Addr} {fd : FuncData} {ps ks : List Str} {sp : Sp} {E : L2.St → XK} {x : Str} {e : Expr} {ees : List Expr} {t tk : TA} {pm : List Pm} {dV : Nat → Option V}
theorem run_P {pins : List (Addr × Obj)} {σ : L2.St} {H : Hp} {s : Shared} {Q : VK} {us ws : List Value} {vs zs xs : List V} (F : FnOk X.prog X.w X.K X.mg X.base CX k f fd ps sp) (hr : Room k X.A) (hb : BSh X.K fd ps n ks pm dV) (hx : PassesAt CX X σ (E σ))
    (I : L2.Inv X pins σ H s) (r : Vals vs us) (rz : Vals zs ws) (l1 : vs.length = n) (l2 : zs.length = ks.length) (hp : pick (vs ++ zs) dV pm = some xs) (h : sp xs H Q (E σ)) : wpAny (model X.prog X.w) X.A (call (.ref f) us (ks.zip ws)) (EP X pins σ Q) X.xe s := by
  obtain ⟨g, h1, h2⟩ := hb.ex
  refine wpAny_call (codeAny_mono (F.run X.A X.stack s H ⟨us, ks.zip ws⟩ (g us ws) xs Q (E σ) hr I.env0 (h1 s us ws I.kIn (r.length.symm.trans l1) (rz.length.symm.trans l2)) (h2 vs zs xs us ws l1 l2 r rz hp) h) fun r s' hq => ?_)
  cases r with
  | error e => exact hx pins H s e s' I hq
  | ok fl =>
    cases fl with
    | ret u => exact I.after hq
    | next => exact False.elim hq
    | brk => exact False.elim hq
    | cont => exact False.elim hq
theorem pe_P (F : FnOk X.prog X.w X.K X.mg X.base CX k f fd ps sp) (hr : Room k X.A) (hg : Gl X x) (hm : X.mg x = some (.ref f)) (hk : PySem.W.keepIn X.K (.ref f) = true) (hb : BSh X.K fd ps n [] pm dV) (hx : ∀ σ, PassesAt CX X σ (E σ))
    (ha : PA X (e :: ees) t) (hdb : (x == ("__debug__" : Str)) = false) (he : starEach (e :: ees) X.env = (false, eval e X.env) :: starEach ees X.env) (hpl : (backTo pos (starEach ees X.env)).any (·.1) = false) :
    PE X (.Call (.Name x p) (e :: ees) [] pos) (tFP sp E pm dV n 0 t tNil) := by
  refine ⟨fun pins s σ H Q I h => ?_⟩
  refine wpAny_Call_Name_kw (ld_glob I hg hm ?_ hdb)
  refine PySem.W.callWith_K (h₀ := X.base) I.ok.mod.kin hk (thn (ha.run pos pins s σ H _ I h) fun us s1 ⟨vs, H1, I1, r, l1, l2, xs, hp, q⟩ => ⟨I1.kIn, ?_⟩) he hpl
  exact run_P (ks := []) (ws := []) F hr hb (hx σ) I1 r .nil l1 l2 hp q
theorem pe_P0 (F : FnOk X.prog X.w X.K X.mg X.base CX k f fd ps sp) (hr : Room k X.A) (hg : Gl X x) (hm : X.mg x = some (.ref f)) (hk : PySem.W.keepIn X.K (.ref f) = true) (hb : BSh X.K fd ps n [] pm dV) (hx : ∀ σ, PassesAt CX X σ (E σ))
    (hdb : (x == ("__debug__" : Str)) = false) : PE X (.Call (.Name x p) [] [] pos) (tFP sp E pm dV n 0 tNil tNil) := by
  refine ⟨fun pins s σ H Q I ⟨l1, l2, xs, hp, q⟩ => ?_⟩
  refine wpAny_Call_Name_kw (ld_glob I hg hm ?_ hdb)
  exact PySem.W.callWith_K0 I.kIn hk (run_P (ks := []) (us := []) (ws := []) F hr hb (hx σ) I .nil .nil l1 l2 hp q)
theorem pe_PK (F : FnOk X.prog X.w X.K X.mg X.base CX k f fd ps sp) (hr : Room k X.A) (hg : Gl X x) (hm : X.mg x = some (.ref f)) (hk : PySem.W.keepIn X.K (.ref f) = true) (hb : BSh X.K fd ps n ks pm dV) (hx : ∀ σ, PassesAt CX X σ (E σ))
    (ha : PA X (e :: ees) t) (hkw : PK X kws tk) (hall : (backToKw pos (keywordEach kws X.env)).all (·.1.isSome) = true) (hks : (backToKw pos (keywordEach kws X.env)).filterMap (·.1) = ks)
    (hdb : (x == ("__debug__" : Str)) = false) (he : starEach (e :: ees) X.env = (false, eval e X.env) :: starEach ees X.env)
    (hpl : ((backTo pos (starEach (e :: ees) X.env)).any (·.1) || (backToKw pos (keywordEach kws X.env)).any (·.1.isNone)) = false) :
    PE X (.Call (.Name x p) (e :: ees) kws pos) (tFP sp E pm dV n ks.length t tk) := by
  refine ⟨fun pins s σ H Q I h => ?_⟩
  refine wpAny_Call_Name_kw (ld_glob I hg hm ?_ hdb)
  refine PySem.W.callWith_KW (h₀ := X.base) I.ok.mod.kin hk hall (thn (ha.run pos pins s σ H _ I h) fun us s1 ⟨vs, H1, I1, r, q⟩ => ?_) hpl he
  refine thn (hkw.run pos pins s1 σ H1 _ I1 q) fun ws s2 ⟨zs, H2, I2, rz, l1, l2, xs, hp, q2⟩ => ⟨I2.kIn, ?_⟩
  rw [hks]
  exact run_P F hr hb (hx σ) I2 r rz l1 l2 hp q2
theorem pe_PK0 (F : FnOk X.prog X.w X.K X.mg X.base CX k f fd ps sp) (hr : Room k X.A) (hg : Gl X x) (hm : X.mg x = some (.ref f)) (hk : PySem.W.keepIn X.K (.ref f) = true) (hb : BSh X.K fd ps n ks pm dV) (hx : ∀ σ, PassesAt CX X σ (E σ))
    (hkw : PK X kws tk) (hall : (backToKw pos (keywordEach kws X.env)).all (·.1.isSome) = true) (hks : (backToKw pos (keywordEach kws X.env)).filterMap (·.1) = ks)
    (hdb : (x == ("__debug__" : Str)) = false) (hpl : ((backTo pos (starEach [] X.env)).any (·.1) || (backToKw pos (keywordEach kws X.env)).any (·.1.isNone)) = false) :
    PE X (.Call (.Name x p) [] kws pos) (tFP sp E pm dV n ks.length tNil tk) := by
  refine ⟨fun pins s σ H Q I h => ?_⟩
  refine wpAny_Call_Name_kw (ld_glob I hg hm ?_ hdb)
  refine PySem.W.callWith_KW0 (h₀ := X.base) I.ok.mod.kin hk hall ?_ hpl
  refine thn (hkw.run pos pins s σ H _ I h) fun ws s2 ⟨zs, H2, I2, rz, l1, l2, xs, hp, q2⟩ => ⟨I2.kIn, ?_⟩
  rw [hks]
  exact run_P (us := []) F hr hb (hx σ) I2 .nil rz l1 l2 hp q2
end
/-- the defaults' values -/
structure DV (K : PySem.W.Frag) (Γ : Gm) (cs : List D) (dV : Nat → Option V) : Prop where
  ok : DflOk K Γ cs dV
  t : ∀ n, (dV n).isSome = (dflA cs n).isSome
/-- a def, as the frame knows it -/
structure FnAt (X : Cx) (Γ : Gm) (W : Wd) (n : Nat) (x : Str) (k : Nat) (fd : FuncData) (ps : List Str) : Prop where
  ok : FnOk X.prog X.w X.K X.mg X.base (L2.CX X.prog X.w) k (Γ.fn n) fd ps (spI X.K Γ W.C n)
  mg : X.mg x = some (.ref (Γ.fn n))
  kp : PySem.W.keepIn X.K (.ref (Γ.fn n)) = true
section
variable {k n f : Nat} {fd : FuncData} {ps ks : List Str} {x : Str} {pm : List Pm} {dV : Nat → Option V}
theorem rd_callP {σ : L2.St} {H : Hp} {Q : VK} (q : rdE X.K Γ U (evE W (.call f es ks pm)) (pureE (.call f es ks pm)) σ H Q) (hd : DV X.K Γ W.cs dV) (hix : (pmIx pm).Nodup) :
    rdA X.K Γ U (evAs W es) σ H fun vs H1 => vs.length = es.length ∧ ∃ ws, pick vs dV pm = some ws ∧ spI X.K Γ W.C f ws H1 Q (WE U σ) :=
  rdA_len (rd_call (by rw [show evE W (.call f es ks pm) = fun e => (evAs W es e).bind fun as e => (callA W.C W.cs f as pm e).bind fun m e => Out.ok ⟨m, false⟩ e from funext fun e => by rw [evE]] at q; exact q) hd.ok hd.t hix)
theorem se_call (F : FnAt X Γ W f x k fd ps) (hr : Room k X.A) (hg : Gl X x) (hb : BSh X.K fd ps n [] pm dV) (tk : Takes X U) (hd : DV X.K Γ W.cs dV) (hix : (pmIx pm).Nodup) (ha : SG X Γ U W (ea :: exs) es) (hn : es.length = n)
    (hdb : (x == ("__debug__" : Str)) = false := by decide) (he : starEach (ea :: exs) X.env = (false, eval ea X.env) :: starEach exs X.env := by rfl) (hpl : (backTo pos (starEach exs X.env)).any (·.1) = false := by rfl) :
    SE X Γ U W (.Call (.Name x p) (ea :: exs) [] pos) (.call f es [] pm) :=
  PE.imp (pe_P F.ok hr hg F.mg F.kp hb (fun σ => passAt tk σ) ha hdb he hpl) fun σ H Q q =>
    rdA_mono (rd_callP q hd hix) fun vs H1 ⟨l, ws, hp, h⟩ => ⟨l.trans hn, rfl, ws, by rw [List.append_nil]; exact hp, h⟩
theorem se_call0 (F : FnAt X Γ W f x k fd ps) (hr : Room k X.A) (hg : Gl X x) (hb : BSh X.K fd ps 0 [] pm dV) (tk : Takes X U) (hd : DV X.K Γ W.cs dV) (hix : (pmIx pm).Nodup)
    (hdb : (x == ("__debug__" : Str)) = false := by decide) : SE X Γ U W (.Call (.Name x p) [] [] pos) (.call f [] [] pm) :=
  PE.imp (pe_P0 F.ok hr hg F.mg F.kp hb (fun σ => passAt tk σ) hdb) fun σ H Q q => by
    have h := rd_callP q hd hix
    rw [show evAs W [] = fun e => Out.ok [] e from funext fun e => by rw [evAs]] at h
    obtain ⟨l, ws, hp, h⟩ := rdA_nil h
    exact ⟨rfl, rfl, ws, hp, h⟩
theorem se_callK (F : FnAt X Γ W f x k fd ps) (hr : Room k X.A) (hg : Gl X x) (hb : BSh X.K fd ps n ks pm dV) (tk : Takes X U) (hd : DV X.K Γ W.cs dV) (hix : (pmIx pm).Nodup) (ha : SG X Γ U W (ea :: exs) es) (hkw : SK X Γ U W kws es2) (hn : es.length = n) (hn2 : es2.length = ks.length)
    (hall : (backToKw pos (keywordEach kws X.env)).all (·.1.isSome) = true := by rfl) (hks : (backToKw pos (keywordEach kws X.env)).filterMap (·.1) = ks := by rfl)
    (hdb : (x == ("__debug__" : Str)) = false := by decide) (he : starEach (ea :: exs) X.env = (false, eval ea X.env) :: starEach exs X.env := by rfl)
    (hpl : ((backTo pos (starEach (ea :: exs) X.env)).any (·.1) || (backToKw pos (keywordEach kws X.env)).any (·.1.isNone)) = false := by rfl) :
    SE X Γ U W (.Call (.Name x p) (ea :: exs) kws pos) (.call f (es ++ es2) ks pm) :=
  PE.imp (pe_PK F.ok hr hg F.mg F.kp hb (fun σ => passAt tk σ) ha hkw hall hks hdb he hpl) fun σ H Q q => by
    have h := rd_callP q hd hix
    rw [evAs_app] at h
    exact rdA_mono (rdA_len (rdA_app h)) fun vs H1 ⟨l1, h⟩ => rdA_mono (rdA_len h) fun zs H2 ⟨l2, _, ws, hp, h⟩ => ⟨l1.trans hn, l2.trans hn2, ws, hp, h⟩
theorem se_callK0 (F : FnAt X Γ W f x k fd ps) (hr : Room k X.A) (hg : Gl X x) (hb : BSh X.K fd ps 0 ks pm dV) (tk : Takes X U) (hd : DV X.K Γ W.cs dV) (hix : (pmIx pm).Nodup) (hkw : SK X Γ U W kws es2) (hn2 : es2.length = ks.length)
    (hall : (backToKw pos (keywordEach kws X.env)).all (·.1.isSome) = true := by rfl) (hks : (backToKw pos (keywordEach kws X.env)).filterMap (·.1) = ks := by rfl)
    (hdb : (x == ("__debug__" : Str)) = false := by decide) (hpl : ((backTo pos (starEach [] X.env)).any (·.1) || (backToKw pos (keywordEach kws X.env)).any (·.1.isNone)) = false := by rfl) :
    SE X Γ U W (.Call (.Name x p) [] kws pos) (.call f es2 ks pm) :=
  PE.imp (pe_PK0 F.ok hr hg F.mg F.kp hb (fun σ => passAt tk σ) hkw hall hks hdb hpl) fun σ H Q q =>
    rdA_mono (rd_callP q hd hix) fun zs H1 ⟨l, ws, hp, h⟩ => ⟨rfl, l.trans hn2, ws, hp, h⟩
end
end
end Pv
/-! Pv: new objects, methods, by the evaluator. -/
namespace Pv
open PySem PySem.Spec PyProof.Rows L2
section
variable {K : PySem.W.Frag} {Γ : Gm} {W : WX} {H H' H1 H2 : Hp} {F F' F1 F2 G P : AP} {e e' e1 e2 env : Env} {σ : L2.St} {ow ow' ow1 ow2 fp fr : List Addr}
theorem fresh_keep {x dx : Addr} {o1 o2 : HO} (hx : H1 x = none) (hd : H1 dx = none) : ∀ a o, H1 a = some o → upd (upd H1 dx o1) x o2 a = some o := fun a o q => by
  have n1 : a ≠ x := fun z => by rw [z, hx] at q; cases q
  have n2 : a ≠ dx := fun z => by rw [z, hd] at q; cases q
  rw [upd_ne n1, upd_ne n2]; exact q
theorem fresh_back {x dx a : Addr} {o1 o2 : HO} (h : upd (upd H1 dx o1) x o2 a = none) : H1 a = none := by
  by_cases c1 : a = x
  · subst c1; rw [upd_same] at h; cases h
  · rw [upd_ne c1] at h
    by_cases c2 : a = dx
    · subst c2; rw [upd_same] at h; cases h
    · rw [upd_ne c2] at h; exact h
theorem rd_new {oa : Env → Out (List Arg)} {C : Calls} {cs : List D} {c ini : Nat} {pm : List Pm} {dV : Nat → Option V} {Q : V → Hp → Prop}
    (h : rdE K Γ W (fun e => (oa e).bind fun as e => (newA C cs c ini as pm e).bind fun m e => Out.ok ⟨m, false⟩ e) false σ H Q) (hd : DflOk K Γ cs dV) (ht : ∀ n, (dV n).isSome = (dflA cs n).isSome) (hix : (pmIx (.arg 0 :: pm)).Nodup) :
    rdA K Γ W oa σ H fun vs H1 => ∀ x dx, H1 x = none → H1 dx = none → dx ≠ x → ∃ ws, pick (.ref x :: vs) dV (.arg 0 :: pm) = some ws ∧
      spI K Γ C ini ws (upd (upd H1 dx (.own x)) x (.ins (Γ.cls c) dx [])) (fun v H2 => v = .non ∧ Q (.ref x) H2) (WE W σ) := by
  obtain ⟨F, G, P, env, ow, R, k⟩ := h
  refine ⟨F, G, P, env, ow, R, ?_⟩
  cases ha : oa env with
  | stuck => simp only [ha, Out.bind] at k; exact k
  | exc c ds e1 => simp only [ha, Out.bind] at k; exact k
  | ok as e1 =>
    simp only [ha, Out.bind] at k
    intro vs H1 ⟨F1, ow1, fs, R1, S1, T1, q1, l1, lr1⟩ x dx hx hdx hne
    obtain ⟨H1', hH⟩ : ∃ H1', H1' = upd (upd H1 dx (.own x)) x (.ins (Γ.cls c) dx []) := ⟨_, rfl⟩
    rw [← hH]
    have kp : ∀ a o, H1 a = some o → H1' a = some o := by rw [hH]; exact fresh_keep hx hdx
    have bk : ∀ a, H1' a = none → H1 a = none := by rw [hH]; exact fun a => fresh_back
    have nx : ∀ {Z : AP}, (∀ a, Z a → ∃ o, H1 a = some o) → ¬ Z x := fun i z => by obtain ⟨o, q⟩ := i x z; rw [hx] at q; cases q
    have hxo : H1' x = some (.ins (Γ.cls c) dx []) := by rw [hH]; exact upd_same
    have R1' : Rst K Γ H1' F1 G P e1 σ ow1 := R1.grow (fun _ h => h) kp R1.dF fun a h => let ⟨o, q⟩ := R1.iF a h; ⟨o, kp a o q⟩
    have hxf : x ∉ fs.flatten := nx (Z := fun a => a ∈ fs.flatten) S1.has
    have S1' : Sep H1' F1 G P ow1 ([x] :: fs).flatten := by
      rw [List.flatten_cons]
      refine ⟨List.nodup_cons.mpr ⟨hxf, S1.nd⟩, fun a h => ?_, fun a h => ?_, fun a h => ?_, fun a h => ?_, fun a h => ?_⟩ <;> rcases List.mem_cons.mp h with h | h
      · exact ⟨_, by rw [h]; exact hxo⟩
      · obtain ⟨o, q⟩ := S1.has a h; exact ⟨o, kp a o q⟩
      · rw [h]; exact nx R1.iF
      · exact S1.dF a h
      · rw [h]; exact nx R1.iG
      · exact S1.dG a h
      · rw [h]; exact nx R1.iP
      · exact S1.dP a h
      · rw [h]; exact nx (Z := fun a => a ∈ ow1) R1.has
      · exact S1.dO a h
    have T1' : Stp H F ow H1' F1 (ow1 ++ ([x] :: fs).flatten) := by
      refine ⟨fun a o q n => kp a o (T1.frame a o q n), T1.sub, T1.new, fun a h => ?_⟩
      rw [List.flatten_cons] at h
      rcases List.mem_append.mp h with h | h
      · exact T1.own a (List.mem_append_left _ h)
      · rcases List.mem_cons.mp h with h | h
        · cases q : H a with
          | none => exact .inr rfl
          | some o =>
            by_cases c : a ∈ ow
            · exact .inl c
            · have := T1.frame a o q c; rw [h, hx] at this; cases this
        · exact T1.own a (List.mem_append_right _ h)
    have q1' : RepAs K Γ H1' F1 σ (.val (.obj c [] []) :: as) (.ref x :: vs) ([x] :: fs) := by
      refine ⟨.ref x, vs, [x], fs, rfl, rfl, ⟨x, dx, [], [], rfl, rfl, hxo, rfl, rfl, rfl⟩, ?_⟩
      exact q1.ext (.of (fun _ h => h) fun a o _ q => kp a o q) fun a o _ q => kp a o q
    unfold newA at k
    cases hp : pick (.val (.obj c [] []) :: as) (dflA cs) (.arg 0 :: pm) with
    | none => simp only [hp] at k; exact k.elim
    | some bs =>
      simp only [hp] at k
      obtain ⟨ws, gs, p1, p2, p3, p4⟩ := q1'.pick S1'.nd (fun n a e => dflA_ok (H := H1') (F := F1) (σ := σ) hd ht e) hp hix
      refine ⟨ws, p1, ?_⟩
      -- the first argument is the object
      obtain ⟨bs', hbs⟩ : ∃ bs', bs = .val (.obj c [] []) :: bs' := by
        unfold pick at hp
        have hp' : (pick (.val (.obj c [] []) :: as) (dflA cs) pm).map (Arg.val (.obj c [] []) :: ·) = some bs := hp
        cases z : pick (.val (.obj c [] []) :: as) (dflA cs) pm with
        | none => rw [z] at hp'; cases hp'
        | some b => rw [z] at hp'; cases hp'; exact ⟨b, rfl⟩
      obtain ⟨ws', hws⟩ : ∃ ws', ws = .ref x :: ws' := by
        unfold pick at p1
        have p1' : (pick (V.ref x :: vs) dV pm).map (V.ref x :: ·) = some ws := p1
        cases z : pick (V.ref x :: vs) dV pm with
        | none => rw [z] at p1'; cases p1'
        | some b => rw [z] at p1'; cases p1'; exact ⟨b, rfl⟩
      cases htk : takeA bs e1 with
      | none => simp only [htk] at k; exact k.elim
      | some w =>
        obtain ⟨ms, e2⟩ := w
        simp only [htk] at k
        obtain ⟨fc, c1, c2, c3, c4⟩ := after_call R1' S1' T1' l1 lr1 p2 p3 (fun a h => by
          obtain ⟨n, f', m1, m2, m3⟩ := p4 a h
          exact List.mem_flatten.mpr ⟨f', List.mem_of_getElem? m2, m3⟩) htk
        refine ⟨F1, ms, fc, c1, c2, c3, R1'.iF, ?_⟩
        cases hc : C ini ms with
        | stuck => simp only [hc] at k; exact k.elim
        | ok m outs =>
          simp only [hc] at k
          intro v H' ⟨F', fo, fr, T2, ho, hm, nd, dF, iF⟩
          cases m with
          | fz d =>
            cases d with
            | non =>
              cases outs with
              | nil => exact k.elim
              | cons o outs =>
                cases o with
                | none => exact k.elim
                | some m =>
                  dsimp only at k
                  obtain ⟨rfl, hv⟩ := hm
                  rw [hws] at ho
                  obtain ⟨u, t, f1, f2, a1, a2, a3, a4⟩ := ho
                  obtain ⟨rfl, rfl⟩ := List.cons.inj a1
                  subst a2
                  rw [List.append_nil] at nd dF T2
                  have nd' := List.nodup_append.mp nd
                  have sub : ∀ a ∈ f2 ++ f1, a ∈ f1 ++ f2 := fun a h => List.mem_append.mpr (List.mem_append.mp h).symm
                  obtain ⟨ow3, R3, S3, T3, l3, lr3⟩ := c4 (fo := f2) (fr := f1) (outs := none :: outs) (T2.less sub) (by rw [hws]; exact a4) (List.nodup_append.mpr ⟨nd'.2.1, nd'.1, fun a ha b hb z => nd'.2.2 b hb a ha z.symm⟩) (fun a h => dF a (sub a h)) iF a3.has
                  refine ⟨?_, ?_⟩
                  · cases v <;> first | rfl | cases hv
                  · exact k _ H' ⟨F', ow3, f1, R3, S3, T3, a3, l3, lr3⟩ fun z => nomatch z
            | _ => exact k.elim
          | _ => exact k.elim
        | exc c' ds outs =>
          simp only [hc] at k
          cases outs with
          | nil => exact k.elim
          | cons o outs =>
            dsimp only at k
            intro cls d H' ⟨F', fo, T2, ho, hx', nd, dF, iF⟩
            have key : ∃ f2, (∀ a ∈ f2, a ∈ fo) ∧ f2.Nodup ∧ RepOuts K Γ H' F' (none :: outs) ws f2 := by
              rw [hws] at ho ⊢
              cases o with
              | none => exact ⟨fo, fun _ h => h, nd, ho⟩
              | some m =>
                obtain ⟨u, t, f1, f2, a1, a2, a3, a4⟩ := ho
                obtain ⟨rfl, rfl⟩ := List.cons.inj a1
                subst a2
                exact ⟨f2, fun a h => List.mem_append_right _ h, (List.nodup_append.mp nd).2.1, a4⟩
            obtain ⟨f2, s1, s2, s3⟩ := key
            obtain ⟨ow3, R3, S3, T3, l3, lr3⟩ := c4 (fo := f2) (fr := []) (outs := none :: outs) (by rw [List.append_nil]; exact T2.less s1) s3 (by rw [List.append_nil]; exact s2) (by rw [List.append_nil]; exact fun a h => dF a (s1 a h)) iF (fun _ h => (nomatch h))
            rw [List.append_nil] at T3
            exact k cls d H' ⟨F', ow3, R3, T3, hx', l3, lr3⟩
end
end Pv
namespace Pv
open PySem PySem.Spec PyProof.Rows L2
section
variable {K : PySem.W.Frag} {Γ : Gm} {W : WX} {H H' H1 H2 : Hp} {F F' F1 F2 G P : AP} {e e' e1 e2 env : Env} {σ : L2.St} {ow ow' ow1 ow2 fp fr : List Addr}
/-- the receiver, then the arguments -/
theorem rdA_consG {oa : Env → Out Arg} {ob : Env → Out (List Arg)} {g : Env → Arg → Bool} {Q : List V → Hp → Prop} (h : rdA K Γ W (fun e => (oa e).bind fun a e => if g e a then (ob e).bind fun bs e => Out.ok (a :: bs) e else .stuck) σ H Q) :
    rdB K Γ W oa σ H fun v H1 => (∃ F G P env ow a fp, Rst K Γ H1 F G P env σ ow ∧ RepA K Γ H1 F σ a v fp ∧ g env a = true) ∧ rdA K Γ W ob σ H1 fun ws H2 => Q (v :: ws) H2 := by
  obtain ⟨F, G, P, env, ow, R, k⟩ := h
  refine ⟨F, G, P, env, ow, R, ?_⟩
  cases ha : oa env with
  | stuck => simp only [ha, Out.bind] at k; exact k
  | exc c ds e1 => simp only [ha, Out.bind] at k; exact k
  | ok a e1 =>
    simp only [ha, Out.bind] at k
    intro v H1 ⟨F1, ow1, fp, R1, S1, T1, q1, l1, lr1⟩
    cases hg : g e1 a with
    | false => simp only [hg, Bool.false_eq_true, if_false] at k; exact k.elim
    | true =>
      simp only [hg, if_true] at k
      refine ⟨⟨F1, G, P, e1, ow1, a, fp, R1, q1, hg⟩, ?_⟩
      have ef : [fp].flatten = fp := by simp
      have S1' : Sep H1 F1 G P ow1 [fp].flatten := by rw [ef]; exact S1
      have T1' : Stp H F ow H1 F1 (ow1 ++ [fp].flatten) := by rw [ef]; exact T1
      have q1' : RepAs K Γ H1 F1 σ [a] [v] [fp] := ⟨v, [], fp, [], rfl, rfl, q1, rfl, rfl⟩
      refine ⟨F1, G, _, e1, ow1, R1.push S1', ?_⟩
      cases hb : ob e1 with
      | stuck => simp only [hb] at k; exact k
      | exc c ds e2 => simp only [hb] at k; exact fun cls d H2 x => k cls d H2 (x.after T1' l1 lr1)
      | ok bs e2 =>
        simp only [hb] at k
        exact fun ws H2 h2 => k _ H2 (ResA.app R1 S1' T1' q1' l1 lr1 h2)
theorem lookup_zip_none {m : Str} : ∀ {ns : List Str} {xs : List V}, m ∉ ns → (ns.zip xs).lookup m = none
  | [], _, _ => rfl
  | _ :: _, [], _ => rfl
  | n :: ns, x :: xs, h => by
    rw [List.zip_cons_cons, List.lookup_cons]
    have h1 : m ≠ n := fun z => h (by rw [z]; exact List.mem_cons_self)
    rw [show (m == n) = false from beq_eq_false_iff_ne.mpr h1]
    exact lookup_zip_none fun z => h (List.mem_cons_of_mem _ z)
theorem isObj_M {c : Nat} {m : Str} {t : M} {w : Bool} {v : V} (h : RepM K Γ w H F t v fp) (g : isObj c m t = true) : ∃ a dx fs, v = .ref a ∧ H a = some (.ins (Γ.cls c) dx fs) ∧ fs.lookup m = none := by
  cases t with
  | obj k fs ms =>
    obtain ⟨a, dx, xs, f2, rfl, _, hv, _, _⟩ := h
    rw [isObj, Bool.and_eq_true] at g
    obtain rfl := of_decide_eq_true g.1
    exact ⟨a, dx, _, rfl, hv, lookup_zip_none (of_decide_eq_true g.2)⟩
  | fz d =>
    cases d with
    | obj k fs ds =>
      obtain ⟨_, a, dx, xs, rfl, _, hv, _, _⟩ := h
      rw [isObj, Bool.and_eq_true] at g
      obtain rfl := of_decide_eq_true g.1
      exact ⟨a, dx, _, rfl, hv, lookup_zip_none (of_decide_eq_true g.2)⟩
    | _ => cases g
  | _ => cases g
theorem isObj_A {c : Nat} {m : Str} {a : Arg} {v : V} (R : Rst K Γ H F G P env σ ow) (h : RepA K Γ H F σ a v fp) (g : isObj c m (argM env a) = true) : ∃ p dx fs, v = .ref p ∧ H p = some (.ins (Γ.cls c) dx fs) ∧ fs.lookup m = none := by
  cases a with
  | val t => exact isObj_M h g
  | bor i =>
    unfold argM at g; dsimp only at g
    cases hs : env.at i with
    | no => rw [hs] at g; cases g
    | ok t w =>
      rw [hs] at g
      obtain ⟨u, fq, hu, hm, _⟩ := R.rep.read hs
      have e := h.2
      rw [hu] at e
      cases e
      exact isObj_M hm g
end
section
variable {X : Cx} {Γ : Gm} {U : WX} {W : Wd} {ea eb eo : Expr} {a b o : E} {exs : List Expr} {es es2 : List E} {pos p apos : Pos} {kws : List Keyword}
variable {k n f c : Nat} {fd : FuncData} {ps ks : List Str} {x m : Str} {pm : List Pm} {dV : Nat → Option V}
theorem rd_meth {σ : L2.St} {H : Hp} {Q : VK} (q : rdE X.K Γ U (evE W (.meth c f m o es pm)) (pureE (.meth c f m o es pm)) σ H Q) (hd : DV X.K Γ W.cs dV) (hix : (pmIx (.arg 0 :: pm)).Nodup) :
    rdB X.K Γ U (evA W o) σ H fun x H1 => (∃ a dx fs, x = .ref a ∧ H1 a = some (.ins (Γ.cls c) dx fs) ∧ fs.lookup m = none) ∧
      rdA X.K Γ U (evAs W es) σ H1 fun vs H2 => vs.length = es.length ∧ ∃ ws, pick (x :: vs) dV (.arg 0 :: pm) = some ws ∧ spI X.K Γ W.C f ws H2 Q (WE U σ) := by
  have e1 : evE W (.meth c f m o es pm) = fun e => ((evA W o e).bind fun a e => if isObj c m (argM e a) then (evAs W es e).bind fun as e => Out.ok (a :: as) e else .stuck).bind fun as e => (callA W.C W.cs f as (.arg 0 :: pm) e).bind fun m e => Out.ok ⟨m, false⟩ e := funext fun e => by
    rw [evE]
    cases evA W o e with
    | stuck => rfl
    | exc c ds e1 => rfl
    | ok a e1 =>
      simp only [Out.bind]
      cases isObj c m (argM e1 a) with
      | false => rfl
      | true =>
        simp only [if_true]
        cases evAs W es e1 <;> rfl
  rw [e1] at q
  have h := rdA_consG (rd_call q hd.ok hd.t hix)
  refine rdB_mono h fun v H1 ⟨⟨F, G, P, env, ow, a, fp, R, r, g⟩, h2⟩ => ⟨isObj_A R r g, rdA_len h2⟩
end
end Pv
/-! Pv: new objects, methods: the rules of expressions. -/
namespace Pv
open PySem PySem.Spec PyProof.Rows L2
/-- a method of a class, as the frame knows it -/
structure MtAt (X : Cx) (Γ : Gm) (W : Wd) (c n : Nat) (m : Str) (k : Nat) (fd : FuncData) (ps : List Str) : Prop where
  ok : FnOk X.prog X.w X.K X.mg X.base (L2.CX X.prog X.w) k (Γ.fn n) fd ps (spI X.K Γ W.C n)
  mt : Meth X.K (Γ.cls c) m (Γ.fn n)
  cl : L2.Cls X.K (Γ.cls c)
/-- a class whose objects are made -/
structure NwAt (X : Cx) (Γ : Gm) (W : Wd) (c n : Nat) (x : Str) (k : Nat) (fd : FuncData) (ps : List Str) : Prop where
  ok : FnOk X.prog X.w X.K X.mg X.base (L2.CX X.prog X.w) k (Γ.fn n) fd ps (spI X.K Γ W.C n)
  mkr : Mk X.K (Γ.cls c) (Γ.fn n)
  mg : X.mg x = some (.ref (Γ.cls c))
def tMP (C : Addr) (m : Str) (sp : Sp) (E : L2.St → XK) (pm : List Pm) (dV : Nat → Option V) (n n2 : Nat) (ta : TE) (t tk : TA) : TE := fun σ H Q => ta σ H fun x H1 => (∃ a dx fs, x = .ref a ∧ H1 a = some (.ins C dx fs) ∧ fs.lookup m = none) ∧
  t σ H1 fun vs H2 => tk σ H2 fun zs H3 => vs.length = n ∧ zs.length = n2 ∧ ∃ ws, pick (x :: (vs ++ zs)) dV pm = some ws ∧ sp ws H3 Q (E σ)
def tNP (C : Addr) (sp : Sp) (E : L2.St → XK) (pm : List Pm) (dV : Nat → Option V) (n n2 : Nat) (t tk : TA) : TE := fun σ H Q => t σ H fun vs H1 => tk σ H1 fun zs H2 => vs.length = n ∧ zs.length = n2 ∧
  ∀ x dx, H2 x = none → H2 dx = none → dx ≠ x → ∃ ws, pick (.ref x :: (vs ++ zs)) dV pm = some ws ∧ sp ws (upd (upd H2 dx (.own x)) x (.ins C dx [])) (fun v H3 => v = .non ∧ Q (.ref x) H3) (E σ)
section
variable {X : Cx} {Γ : Gm} {U : WX} {W : Wd} {CX : CXT} {k n : Nat} {f C : Addr} {fd : FuncData} {ps ks : List Str} {sp : Sp} {E : L2.St → XK} {x m : Str} {e o : Expr} {ees : List Expr} {ta : TE} {t tk : TA} {pm : List Pm} {dV : Nat → Option V} {p pos apos : Pos} {kws : List Keyword}
theorem run_NP {pins : List (Addr × Obj)} {σ : L2.St} {H : Hp} {s : Shared} {Q : VK} {us ws : List Value} {vs zs : List V} (M : Mk X.K C f) (F : FnOk X.prog X.w X.K X.mg X.base CX k f fd ps sp) (hr : Room (k + 1) X.A) (hb : BSh X.K fd ps (n + 1) ks pm dV)
    (hx : PassesAt CX X σ (E σ)) (I : L2.Inv X pins σ H s) (r : Vals vs us) (rz : Vals zs ws) (l1 : vs.length = n) (l2 : zs.length = ks.length)
    (h : ∀ x dx, H x = none → H dx = none → dx ≠ x → ∃ xs, pick (.ref x :: (vs ++ zs)) dV pm = some xs ∧ sp xs (upd (upd H dx (.own x)) x (.ins C dx [])) (fun v H2 => v = .non ∧ Q (.ref x) H2) (E σ)) :
    wpAny (model X.prog X.w) X.A (call (.ref C) us (ks.zip ws)) (EP X pins σ Q) X.xe s := by
  obtain ⟨xs, hp, hq⟩ := h (s.heap.objs.size + 1) s.heap.objs.size (I.hok.fresh (Nat.le_succ _)) (I.hok.fresh (Nat.le_refl _)) (Nat.ne_of_lt (Nat.lt_succ_self _))
  have I2 := Inv.made (C := C) I
  obtain ⟨g, h1, h2⟩ := hb.ex
  have r1 : Vals (V.ref (s.heap.objs.size + 1) :: vs) (Value.ref (s.heap.objs.size + 1) :: us) := .cons rfl r
  have n1 : (V.ref (s.heap.objs.size + 1) :: vs).length = n + 1 := by rw [List.length_cons, l1]
  refine wpAny_call (make_map (f := f) I.kIn M.makes M.init (beq_iff_eq.mp M.fn) (codeAny_mono (F.run _ X.stack _ _ ⟨Value.ref (s.heap.objs.size + 1) :: us, ks.zip ws⟩ (g (Value.ref (s.heap.objs.size + 1) :: us) ws) xs _ (E σ) (hr.make C us (ks.zip ws))
    (I2.env0.make C us (ks.zip ws)) (h1 _ (Value.ref (s.heap.objs.size + 1) :: us) ws I2.kIn (r1.length.symm.trans n1) (rz.length.symm.trans l2)) (h2 _ zs xs _ ws n1 l2 r1 rz hp) hq) fun r s' hq' => ?_))
  cases r with
  | error e => exact hx pins _ _ e s' I2 hq'
  | ok fl =>
    cases fl with
    | ret u =>
      obtain ⟨v, H', I3, rv, ev, q3⟩ := I2.after hq'
      subst ev
      exact ⟨rv, ⟨V.ref (s.heap.objs.size + 1), H', I3, rfl, q3⟩⟩
    | next => exact False.elim hq'
    | brk => exact False.elim hq'
    | cont => exact False.elim hq'
theorem pe_NP (M : Mk X.K C f) (F : FnOk X.prog X.w X.K X.mg X.base CX k f fd ps sp) (hr : Room (k + 1) X.A) (hg : Gl X x) (hm : X.mg x = some (.ref C)) (hb : BSh X.K fd ps (n + 1) [] pm dV) (hx : ∀ σ, PassesAt CX X σ (E σ))
    (ha : PA X (e :: ees) t) (hdb : (x == ("__debug__" : Str)) = false) (he : starEach (e :: ees) X.env = (false, eval e X.env) :: starEach ees X.env) (hpl : (backTo pos (starEach ees X.env)).any (·.1) = false) :
    PE X (.Call (.Name x p) (e :: ees) [] pos) (tNP C sp E pm dV n 0 t tNil) := by
  refine ⟨fun pins s σ H Q I h => ?_⟩
  refine wpAny_Call_Name_kw (ld_glob I hg hm ?_ hdb)
  refine PySem.W.callWith_K (h₀ := X.base) I.ok.mod.kin M.kp (thn (ha.run pos pins s σ H _ I h) fun us s1 ⟨vs, H1, I1, r, l1, l2, q⟩ => ⟨I1.kIn, ?_⟩) he hpl
  exact run_NP (ks := []) (ws := []) M F hr hb (hx σ) I1 r .nil l1 l2 q
theorem pe_NPK0 (M : Mk X.K C f) (F : FnOk X.prog X.w X.K X.mg X.base CX k f fd ps sp) (hr : Room (k + 1) X.A) (hg : Gl X x) (hm : X.mg x = some (.ref C)) (hb : BSh X.K fd ps (0 + 1) ks pm dV) (hx : ∀ σ, PassesAt CX X σ (E σ))
    (hkw : PK X kws tk) (hall : (backToKw pos (keywordEach kws X.env)).all (·.1.isSome) = true) (hks : (backToKw pos (keywordEach kws X.env)).filterMap (·.1) = ks)
    (hdb : (x == ("__debug__" : Str)) = false) (hpl : ((backTo pos (starEach [] X.env)).any (·.1) || (backToKw pos (keywordEach kws X.env)).any (·.1.isNone)) = false) :
    PE X (.Call (.Name x p) [] kws pos) (tNP C sp E pm dV 0 ks.length tNil tk) := by
  refine ⟨fun pins s σ H Q I h => ?_⟩
  refine wpAny_Call_Name_kw (ld_glob I hg hm ?_ hdb)
  refine PySem.W.callWith_KW0 (h₀ := X.base) I.ok.mod.kin M.kp hall ?_ hpl
  refine thn (hkw.run pos pins s σ H _ I h) fun ws s2 ⟨zs, H2, I2, rz, l1, l2, q2⟩ => ⟨I2.kIn, ?_⟩
  rw [hks]
  exact run_NP (us := []) (n := 0) M F hr hb (hx σ) I2 .nil rz l1 l2 q2
theorem pe_MP {pl : Sem Bool} (he : PE X o ta) (c : L2.Cls X.K C) (hm : Meth X.K C m f) (F : FnOk X.prog X.w X.K X.mg X.base CX k f fd ps sp) (hr : Room k X.A) (hb : BSh X.K fd ps (n + 1) [] pm dV) (hx : ∀ σ, PassesAt CX X σ (E σ)) (ha : PA X (e :: ees) t)
    (hst : starEach (e :: ees) X.env = (false, eval e X.env) :: starEach ees X.env) (hpl : (backTo pos (starEach ees X.env)).any (·.1) = false)
    (ht : eval (.Call (.Attribute o m apos) (e :: ees) [] pos) X.env = (do
      let ov ← eval o X.env
      standAt apos.atName
      let (f, first) ← holding [ov] (getMethod ov m pl)
      callWith pos f first (backTo pos (starEach (e :: ees) X.env)) (backToKw pos (keywordEach [] X.env)))) :
    PE X (.Call (.Attribute o m apos) (e :: ees) [] pos) (tMP C m sp E pm dV n 0 ta t tNil) := by
  refine ⟨fun pins s σ H Q I h => ?_⟩
  refine PySem.W.methodCall_KW (pl := pl) (thn (he.run pins s σ H _ I h) fun u s1 ⟨x, H1, I1, rx, ⟨a, dx, fs, ex, ea, l⟩, q⟩ => ?_) ht
  subst ex
  obtain rfl : u = Value.ref a := rx
  refine getmeth_ok I1 ea c hm l ?_
  refine PySem.W.callWith_K (first := [.ref a]) (h₀ := X.base) I.ok.mod.kin hm.kp (thn (ha.run pos pins s1 σ H1 _ I1 q) fun us s2 ⟨vs, H2, I2, r, l1, l2, xs, hp, q2⟩ => ⟨I2.kIn, ?_⟩) hst hpl
  exact run_P (ks := []) (us := .ref a :: us) (vs := .ref a :: vs) (zs := []) (ws := []) F hr hb (hx σ) I2 (.cons rfl r) .nil (by rw [List.length_cons, l1]) rfl hp q2
theorem pe_MP0 {pl : Sem Bool} (he : PE X o ta) (c : L2.Cls X.K C) (hm : Meth X.K C m f) (F : FnOk X.prog X.w X.K X.mg X.base CX k f fd ps sp) (hr : Room k X.A) (hb : BSh X.K fd ps (0 + 1) [] pm dV) (hx : ∀ σ, PassesAt CX X σ (E σ))
    (ht : eval (.Call (.Attribute o m apos) [] [] pos) X.env = (do
      let ov ← eval o X.env
      standAt apos.atName
      let (f, first) ← holding [ov] (getMethod ov m pl)
      callWith pos f first (backTo pos (starEach [] X.env)) (backToKw pos (keywordEach [] X.env)))) :
    PE X (.Call (.Attribute o m apos) [] [] pos) (tMP C m sp E pm dV 0 0 ta tNil tNil) := by
  refine ⟨fun pins s σ H Q I h => ?_⟩
  refine PySem.W.methodCall_KW (pl := pl) (thn (he.run pins s σ H _ I h) fun u s1 ⟨x, H1, I1, rx, ⟨a, dx, fs, ex, ea, l⟩, l1, l2, xs, hp, q⟩ => ?_) ht
  subst ex
  obtain rfl : u = Value.ref a := rx
  refine getmeth_ok I1 ea c hm l ?_
  exact PySem.W.callWith_K0 (first := [.ref a]) I1.kIn hm.kp (run_P (ks := []) (us := [.ref a]) (vs := [.ref a]) (zs := []) (ws := []) F hr hb (hx σ) I1 (.cons rfl .nil) .nil rfl rfl hp q)
theorem pe_MPK0 {pl : Sem Bool} (he : PE X o ta) (c : L2.Cls X.K C) (hm : Meth X.K C m f) (F : FnOk X.prog X.w X.K X.mg X.base CX k f fd ps sp) (hr : Room k X.A) (hb : BSh X.K fd ps (0 + 1) ks pm dV) (hx : ∀ σ, PassesAt CX X σ (E σ))
    (hkw : PK X kws tk) (hall : (backToKw pos (keywordEach kws X.env)).all (·.1.isSome) = true) (hks : (backToKw pos (keywordEach kws X.env)).filterMap (·.1) = ks)
    (hpl : ((backTo pos (starEach [] X.env)).any (·.1) || (backToKw pos (keywordEach kws X.env)).any (·.1.isNone)) = false)
    (ht : eval (.Call (.Attribute o m apos) [] kws pos) X.env = (do
      let ov ← eval o X.env
      standAt apos.atName
      let (f, first) ← holding [ov] (getMethod ov m pl)
      callWith pos f first (backTo pos (starEach [] X.env)) (backToKw pos (keywordEach kws X.env)))) :
    PE X (.Call (.Attribute o m apos) [] kws pos) (tMP C m sp E pm dV 0 ks.length ta tNil tk) := by
  refine ⟨fun pins s σ H Q I h => ?_⟩
  refine PySem.W.methodCall_KW (pl := pl) (thn (he.run pins s σ H _ I h) fun u s1 ⟨x, H1, I1, rx, ⟨a, dx, fs, ex, ea, l⟩, q⟩ => ?_) ht
  subst ex
  obtain rfl : u = Value.ref a := rx
  refine getmeth_ok I1 ea c hm l ?_
  refine PySem.W.callWith_KW0 (first := [.ref a]) (h₀ := X.base) I.ok.mod.kin hm.kp hall ?_ hpl
  refine thn (hkw.run pos pins s1 σ H1 _ I1 q) fun ws s2 ⟨zs, H2, I2, rz, l1, l2, xs, hp, q2⟩ => ⟨I2.kIn, ?_⟩
  rw [hks]
  exact run_P (us := [.ref a]) (vs := [.ref a]) F hr hb (hx σ) I2 (.cons rfl .nil) rz rfl l2 hp q2
end
section
variable {X : Cx} {Γ : Gm} {U : WX} {W : Wd} {ea eb eo : Expr} {a b o : E} {exs : List Expr} {es es2 : List E} {pos p apos : Pos} {kws : List Keyword}
variable {k n f c : Nat} {fd : FuncData} {ps ks : List Str} {x m : Str} {pm : List Pm} {dV : Nat → Option V}
theorem se_meth {pl : Sem Bool} (M : MtAt X Γ W c f m k fd ps) (hr : Room k X.A) (hb : BSh X.K fd ps (n + 1) [] (.arg 0 :: pm) dV) (tk : Takes X U) (hd : DV X.K Γ W.cs dV) (hix : (pmIx (.arg 0 :: pm)).Nodup) (ho : SG1 X Γ U W eo o) (ha : SG X Γ U W (ea :: exs) es) (hn : es.length = n)
    (ht : eval (.Call (.Attribute eo m apos) (ea :: exs) [] pos) X.env = (do
      let ov ← eval eo X.env
      standAt apos.atName
      let (f, first) ← holding [ov] (getMethod ov m pl)
      callWith pos f first (backTo pos (starEach (ea :: exs) X.env)) (backToKw pos (keywordEach [] X.env))) := by rfl)
    (he : starEach (ea :: exs) X.env = (false, eval ea X.env) :: starEach exs X.env := by rfl) (hpl : (backTo pos (starEach exs X.env)).any (·.1) = false := by rfl) :
    SE X Γ U W (.Call (.Attribute eo m apos) (ea :: exs) [] pos) (.meth c f m o es pm) :=
  PE.imp (pe_MP ho M.cl M.mt M.ok hr hb (fun σ => passAt tk σ) ha he hpl ht) fun σ H Q q =>
    rdB_mono (rd_meth q hd hix) fun v H1 ⟨g, h⟩ => ⟨g, rdA_mono h fun vs H2 ⟨l, ws, hp, h⟩ => ⟨l.trans hn, rfl, ws, by rw [List.append_nil]; exact hp, h⟩⟩
theorem se_meth0 {pl : Sem Bool} (M : MtAt X Γ W c f m k fd ps) (hr : Room k X.A) (hb : BSh X.K fd ps (0 + 1) [] (.arg 0 :: pm) dV) (tk : Takes X U) (hd : DV X.K Γ W.cs dV) (hix : (pmIx (.arg 0 :: pm)).Nodup) (ho : SG1 X Γ U W eo o)
    (ht : eval (.Call (.Attribute eo m apos) [] [] pos) X.env = (do
      let ov ← eval eo X.env
      standAt apos.atName
      let (f, first) ← holding [ov] (getMethod ov m pl)
      callWith pos f first (backTo pos (starEach [] X.env)) (backToKw pos (keywordEach [] X.env))) := by rfl) :
    SE X Γ U W (.Call (.Attribute eo m apos) [] [] pos) (.meth c f m o [] pm) :=
  PE.imp (pe_MP0 ho M.cl M.mt M.ok hr hb (fun σ => passAt tk σ) ht) fun σ H Q q =>
    rdB_mono (rd_meth q hd hix) fun v H1 ⟨g, h⟩ => by
      rw [show evAs W [] = fun e => Out.ok [] e from funext fun e => by rw [evAs]] at h
      obtain ⟨l, ws, hp, h⟩ := rdA_nil h
      exact ⟨g, rfl, rfl, ws, hp, h⟩
theorem se_methK0 {pl : Sem Bool} (M : MtAt X Γ W c f m k fd ps) (hr : Room k X.A) (hb : BSh X.K fd ps (0 + 1) ks (.arg 0 :: pm) dV) (tk : Takes X U) (hd : DV X.K Γ W.cs dV) (hix : (pmIx (.arg 0 :: pm)).Nodup) (ho : SG1 X Γ U W eo o) (hkw : SK X Γ U W kws es) (hn : es.length = ks.length)
    (ht : eval (.Call (.Attribute eo m apos) [] kws pos) X.env = (do
      let ov ← eval eo X.env
      standAt apos.atName
      let (f, first) ← holding [ov] (getMethod ov m pl)
      callWith pos f first (backTo pos (starEach [] X.env)) (backToKw pos (keywordEach kws X.env))) := by rfl)
    (hall : (backToKw pos (keywordEach kws X.env)).all (·.1.isSome) = true := by rfl) (hks : (backToKw pos (keywordEach kws X.env)).filterMap (·.1) = ks := by rfl)
    (hpl : ((backTo pos (starEach [] X.env)).any (·.1) || (backToKw pos (keywordEach kws X.env)).any (·.1.isNone)) = false := by rfl) :
    SE X Γ U W (.Call (.Attribute eo m apos) [] kws pos) (.meth c f m o es pm) :=
  PE.imp (pe_MPK0 ho M.cl M.mt M.ok hr hb (fun σ => passAt tk σ) hkw hall hks hpl ht) fun σ H Q q =>
    rdB_mono (rd_meth q hd hix) fun v H1 ⟨g, h⟩ => ⟨g, rdA_mono h fun vs H2 ⟨l, ws, hp, h⟩ => ⟨rfl, l.trans hn, ws, hp, h⟩⟩
theorem rd_newP {σ : L2.St} {H : Hp} {Q : VK} (q : rdE X.K Γ U (evE W (.new c f es pm)) (pureE (.new c f es pm)) σ H Q) (hd : DV X.K Γ W.cs dV) (hix : (pmIx (.arg 0 :: pm)).Nodup) :
    rdA X.K Γ U (evAs W es) σ H fun vs H1 => vs.length = es.length ∧ ∀ x dx, H1 x = none → H1 dx = none → dx ≠ x → ∃ ws, pick (.ref x :: vs) dV (.arg 0 :: pm) = some ws ∧
      spI X.K Γ W.C f ws (upd (upd H1 dx (.own x)) x (.ins (Γ.cls c) dx [])) (fun v H2 => v = .non ∧ Q (.ref x) H2) (WE U σ) :=
  rdA_len (rd_new (by rw [show evE W (.new c f es pm) = fun e => (evAs W es e).bind fun as e => (newA W.C W.cs c f as pm e).bind fun m e => Out.ok ⟨m, false⟩ e from funext fun e => by rw [evE]] at q; exact q) hd.ok hd.t hix)
theorem se_new (M : NwAt X Γ W c f x k fd ps) (hr : Room (k + 1) X.A) (hg : Gl X x) (hb : BSh X.K fd ps (n + 1) [] (.arg 0 :: pm) dV) (tk : Takes X U) (hd : DV X.K Γ W.cs dV) (hix : (pmIx (.arg 0 :: pm)).Nodup) (ha : SG X Γ U W (ea :: exs) es) (hn : es.length = n)
    (hdb : (x == ("__debug__" : Str)) = false := by decide) (he : starEach (ea :: exs) X.env = (false, eval ea X.env) :: starEach exs X.env := by rfl) (hpl : (backTo pos (starEach exs X.env)).any (·.1) = false := by rfl) :
    SE X Γ U W (.Call (.Name x p) (ea :: exs) [] pos) (.new c f es pm) :=
  PE.imp (pe_NP M.mkr M.ok hr hg M.mg hb (fun σ => passAt tk σ) ha hdb he hpl) fun σ H Q q =>
    rdA_mono (rd_newP q hd hix) fun vs H1 ⟨l, h⟩ => ⟨l.trans hn, rfl, by rw [List.append_nil]; exact h⟩
theorem se_newK0 (M : NwAt X Γ W c f x k fd ps) (hr : Room (k + 1) X.A) (hg : Gl X x) (hb : BSh X.K fd ps (0 + 1) ks (.arg 0 :: pm) dV) (tk : Takes X U) (hd : DV X.K Γ W.cs dV) (hix : (pmIx (.arg 0 :: pm)).Nodup) (hkw : SK X Γ U W kws es) (hn : es.length = ks.length)
    (hall : (backToKw pos (keywordEach kws X.env)).all (·.1.isSome) = true := by rfl) (hks : (backToKw pos (keywordEach kws X.env)).filterMap (·.1) = ks := by rfl)
    (hdb : (x == ("__debug__" : Str)) = false := by decide) (hpl : ((backTo pos (starEach [] X.env)).any (·.1) || (backToKw pos (keywordEach kws X.env)).any (·.1.isNone)) = false := by rfl) :
    SE X Γ U W (.Call (.Name x p) [] kws pos) (.new c f es pm) :=
  PE.imp (pe_NPK0 M.mkr M.ok hr hg M.mg hb (fun σ => passAt tk σ) hkw hall hks hdb hpl) fun σ H Q q =>
    rdA_mono (rd_newP q hd hix) fun vs H1 ⟨l, h⟩ => ⟨rfl, l.trans hn, h⟩
end
end Pv
/-! Pv: statements by the evaluator. -/
namespace Pv
open PySem L2
def AK (L : Nat → Bool) (σ σ' : L2.St) : Prop := ∀ i, L i = false → σ'[i]? = σ[i]?
section
variable (K : PySem.W.Frag) (Γ : Gm) (W : WX) (L : Nat → Bool)
def ResS (H : Hp) (F G P : AP) (e : Env) (σ : L2.St) (ow : List Addr) (e' : Env) (σ' : L2.St) (H' : Hp) : Prop := ∃ F' ow', Rst K Γ H' F' G P e' σ' ow' ∧ Stp H F ow H' F' ow' ∧ LK e e' ∧ LR σ σ' e e' ∧ AK L σ σ'
def ResV (H : Hp) (F G P : AP) (e : Env) (σ : L2.St) (ow : List Addr) (m : M) (e' : Env) (v : V) (σ' : L2.St) (H' : Hp) : Prop :=
  ∃ F' ow' fp, Rst K Γ H' F' G P e' σ' ow' ∧ Sep H' F' G P ow' fp ∧ Stp H F ow H' F' (ow' ++ fp) ∧ RepM K Γ true H' F' m v fp ∧ LK e e' ∧ LR σ σ' e e' ∧ AK L σ σ'
def ResXS (H : Hp) (F G P : AP) (e : Env) (σ : L2.St) (ow : List Addr) (c : Nat) (ds : List D) (e' : Env) (cls : Value) (d : Option Addr) (σ' : L2.St) (H' : Hp) : Prop :=
  ∃ F' ow', Rst K Γ H' F' G P e' σ' ow' ∧ Stp H F ow H' F' ow' ∧ XRep K Γ H' F' c ds cls d ∧ LK e e' ∧ LR σ σ' e e' ∧ AK L σ σ'
def OutS (H : Hp) (F G P : AP) (env : Env) (σ : L2.St) (ow : List Addr) (D : Ends) : Out Fl → Prop
  | .ok .nx e => ∀ σ' H', ResS K Γ L H F G P env σ ow e σ' H' → D.nx σ' H'
  | .ok .bk e => ∀ σ' H', ResS K Γ L H F G P env σ ow e σ' H' → D.bk σ' H'
  | .ok .ct e => ∀ σ' H', ResS K Γ L H F G P env σ ow e σ' H' → D.ct σ' H'
  | .ok (.rt m) e => ∀ v σ' H', ResV K Γ L H F G P env σ ow m e v σ' H' → D.rt v H'
  | .exc c ds e => ∀ cls d σ' H', ResXS K Γ L H F G P env σ ow c ds e cls d σ' H' → W cls d σ' H'
  | .stuck => False
def OutG (H : Hp) (F G P : AP) (env : Env) (σ : L2.St) (ow : List Addr) (Q : L2.St → Hp → Prop) : Out Unit → Prop
  | .ok _ e => ∀ σ' H', ResS K Γ L H F G P env σ ow e σ' H' → Q σ' H'
  | .exc c ds e => ∀ cls d σ' H', ResXS K Γ L H F G P env σ ow c ds e cls d σ' H' → W cls d σ' H'
  | .stuck => False
def rdS (o : Env → Out Fl) : TS := fun D σ H => ∃ F G P env ow, Rst K Γ H F G P env σ ow ∧ OutS K Γ W L H F G P env σ ow D (o env)
/-- behind a value that is held -/
def rdV (k : RV → Env → Out Fl) (D : Ends) (σ : L2.St) : V → Hp → Prop := fun v H => ∃ F G P env ow fp r, Rst K Γ H F G P env σ ow ∧ Sep H F G P ow fp ∧ RepR K Γ H F r v fp ∧ OutS K Γ W L H F G P env σ (ow ++ fp) D (k r env)
def rdG (o : M → Env → Out Unit) : TG := fun v σ H Q => ∃ F G P env ow fp m, Rst K Γ H F G P env σ ow ∧ Sep H F G P ow fp ∧ RepM K Γ true H F m v fp ∧ OutG K Γ W L H F G P env σ (ow ++ fp) Q (o m env)
def rdGs (o : List M → Env → Out Unit) : TGs := fun vs σ H Q => ∃ F G P env ow fp ms, Rst K Γ H F G P env σ ow ∧ Sep H F G P ow fp ∧ RepMs K Γ true H F ms vs fp ∧ OutG K Γ W L H F G P env σ (ow ++ fp) Q (o ms env)
end
section
variable {K : PySem.W.Frag} {Γ : Gm} {W : WX} {L : Nat → Bool} {H H' H1 H2 : Hp} {F F' F1 F2 G P : AP} {e e' e1 e2 env : Env} {σ σ' σ1 σ2 : L2.St} {ow ow' ow1 ow2 fp fr : List Addr} {r : RV} {m : M} {v : V}
theorem AK.refl : AK L σ σ := fun _ _ => rfl
theorem AK.trans (a : AK L σ σ1) (b : AK L σ1 σ2) : AK L σ σ2 := fun i h => (b i h).trans (a i h)
/-- behind a step, the slots may have turned -/
theorem ResS.after (T1 : Stp H F ow H1 F1 ow1) (l1 : LK e e1) (lr1 : LR σ σ1 e e1) (a1 : AK L σ σ1) (h : ResS K Γ L H1 F1 G P e1 σ1 ow1 e2 σ2 H2) : ResS K Γ L H F G P e σ ow e2 σ2 H2 := by
  obtain ⟨F2, ow2, R2, T2, l2, lr2, a2⟩ := h
  exact ⟨F2, ow2, R2, T1.trans T2 fun _ h => h, l1.trans l2, lr1.trans lr2, a1.trans a2⟩
theorem ResV.after (T1 : Stp H F ow H1 F1 ow1) (l1 : LK e e1) (lr1 : LR σ σ1 e e1) (a1 : AK L σ σ1) (h : ResV K Γ L H1 F1 G P e1 σ1 ow1 m e2 v σ2 H2) : ResV K Γ L H F G P e σ ow m e2 v σ2 H2 := by
  obtain ⟨F2, ow2, fp, R2, S2, T2, q, l2, lr2, a2⟩ := h
  exact ⟨F2, ow2, fp, R2, S2, T1.trans T2 fun _ h => h, q, l1.trans l2, lr1.trans lr2, a1.trans a2⟩
theorem ResXS.after {c : Nat} {ds : List D} {cls : Value} {d : Option Addr} (T1 : Stp H F ow H1 F1 ow1) (l1 : LK e e1) (lr1 : LR σ σ1 e e1) (a1 : AK L σ σ1) (h : ResXS K Γ L H1 F1 G P e1 σ1 ow1 c ds e2 cls d σ2 H2) : ResXS K Γ L H F G P e σ ow c ds e2 cls d σ2 H2 := by
  obtain ⟨F2, ow2, R2, T2, q, l2, lr2, a2⟩ := h
  exact ⟨F2, ow2, R2, T1.trans T2 fun _ h => h, q, l1.trans l2, lr1.trans lr2, a1.trans a2⟩
theorem OutS.after {D : Ends} {o : Out Fl} (h : OutS K Γ W L H F G P e σ ow D o) (T1 : Stp H F ow H1 F1 ow1) (l1 : LK e e1) (lr1 : LR σ σ1 e e1) (a1 : AK L σ σ1) : OutS K Γ W L H1 F1 G P e1 σ1 ow1 D o := by
  cases o with
  | stuck => exact h
  | exc c ds e2 => exact fun cls d σ' H' x => h cls d σ' H' (x.after T1 l1 lr1 a1)
  | ok f e2 =>
    cases f with
    | nx => exact fun σ' H' x => h σ' H' (x.after T1 l1 lr1 a1)
    | bk => exact fun σ' H' x => h σ' H' (x.after T1 l1 lr1 a1)
    | ct => exact fun σ' H' x => h σ' H' (x.after T1 l1 lr1 a1)
    | rt m => exact fun v σ' H' x => h v σ' H' (x.after T1 l1 lr1 a1)
theorem OutG.after {Q : L2.St → Hp → Prop} {o : Out Unit} (h : OutG K Γ W L H F G P e σ ow Q o) (T1 : Stp H F ow H1 F1 ow1) (l1 : LK e e1) (lr1 : LR σ σ1 e e1) (a1 : AK L σ σ1) : OutG K Γ W L H1 F1 G P e1 σ1 ow1 Q o := by
  cases o with
  | stuck => exact h
  | exc c ds e2 => exact fun cls d σ' H' x => h cls d σ' H' (x.after T1 l1 lr1 a1)
  | ok f e2 => exact fun σ' H' x => h σ' H' (x.after T1 l1 lr1 a1)
theorem ResX.toS {c : Nat} {ds : List D} {cls : Value} {d : Option Addr} (h : ResX K Γ H F G P e σ ow c ds e' cls d H') : ResXS K Γ L H F G P e σ ow c ds e' cls d σ H' := by
  obtain ⟨F2, ow2, R2, T2, q, l2, lr2⟩ := h
  exact ⟨F2, ow2, R2, T2, q, l2, lr2, .refl⟩
theorem Res.toS (h : Res K Γ H F G P e σ ow r e' v H') : ResS K Γ L H F G P e σ ow e' σ H' := by
  obtain ⟨F2, ow2, fp, R2, S2, T2, q, l2, lr2⟩ := h
  exact ⟨F2, ow2, R2, T2.less fun x hx => List.mem_append_left _ hx, l2, lr2, .refl⟩
/-- a value, then what is done with it -/
theorem rdS_val {oa : Env → Out RV} {k : RV → Env → Out Fl} {pu : Bool} {D : Ends} (h : rdS K Γ W L (fun e => (oa e).bind k) D σ H) : rdE K Γ W oa pu σ H (rdV K Γ W L k D σ) := by
  obtain ⟨F, G, P, env, ow, R, k'⟩ := h
  refine ⟨F, G, P, env, ow, R, ?_⟩
  cases ha : oa env with
  | stuck => simp only [ha, Out.bind] at k'; exact k'
  | exc c ds e1 => simp only [ha, Out.bind] at k'; exact fun cls d H' x => k' cls d σ H' x.toS
  | ok r e1 =>
    simp only [ha, Out.bind] at k'
    intro v H1 ⟨F1, ow1, fp1, R1, S1, T1, q1, l1, lr1⟩ _
    exact ⟨F1, G, P, e1, ow1, fp1, r, R1, S1, q1, OutS.after k' T1 l1 lr1 .refl⟩
theorem rdS_test {oa : Env → Out Bool} {k : Bool → Env → Out Fl} {pu : Bool} {D : Ends} (h : rdS K Γ W L (fun e => (oa e).bind k) D σ H) : rdT K Γ W oa pu σ H fun b H1 => rdS K Γ W L (k b) D σ H1 := by
  obtain ⟨F, G, P, env, ow, R, k'⟩ := h
  refine ⟨F, G, P, env, ow, R, ?_⟩
  cases ha : oa env with
  | stuck => simp only [ha, Out.bind] at k'; exact k'
  | exc c ds e1 => simp only [ha, Out.bind] at k'; exact fun cls d H' x => k' cls d σ H' x.toS
  | ok r e1 =>
    simp only [ha, Out.bind] at k'
    intro H1 ⟨F1, ow1, R1, T1, l1, lr1⟩ _
    exact ⟨F1, G, P, e1, ow1, R1, OutS.after k' T1 l1 lr1 .refl⟩
/-- a slot is stored -/
theorem put_ok {i : Nat} (R : Rst K Γ H F G P e σ ow) (S : Sep H F G P ow fp) (hm : RepM K Γ true H F m v fp) (h : e.put i m = some e') :
    ∃ ow', Rst K Γ H F G P e' (σ.set i (some v)) ow' ∧ (∀ a ∈ ow', a ∈ ow ++ fp) ∧ LK e e' ∧ LR σ (σ.set i (some v)) e e' := by
  unfold Env.put at h
  have nl : ∀ m', e.at i ≠ .ok m' false := fun m' q => by rw [q] at h; cases h
  have he : e' = e.set i (.ok m true) := by
    split at h
    · cases h
    · cases h; rfl
  subst he
  by_cases il : i < e.length
  · obtain ⟨o1, g, o2, e1, r1⟩ := R.rep.store il hm
    have nd := R.nd
    rw [e1, List.nodup_append, List.nodup_append] at nd
    have sub : ∀ a, a ∈ o1 ++ (fp ++ o2) → a ∈ ow ++ fp := fun a ha => by
      rw [e1]
      rcases List.mem_append.mp ha with ha | ha
      · exact List.mem_append_left _ (List.mem_append_left _ ha)
      · rcases List.mem_append.mp ha with ha | ha
        · exact List.mem_append_right _ ha
        · exact List.mem_append_left _ (List.mem_append_right _ (List.mem_append_right _ ha))
    have so1 : ∀ a ∈ o1, a ∈ ow := fun a h => by rw [e1]; exact List.mem_append_left _ h
    have so2 : ∀ a ∈ o2, a ∈ ow := fun a h => by rw [e1]; exact List.mem_append_right _ (List.mem_append_right _ h)
    have nd2 : (o1 ++ (fp ++ o2)).Nodup := List.nodup_append.mpr ⟨nd.1, List.nodup_append.mpr ⟨S.nd, nd.2.1.2.1, fun a ha b hb q => by subst q; exact S.dO a ha (so2 a hb)⟩, fun a ha b hb q => by
      subst q
      rcases List.mem_append.mp hb with hb | hb
      · exact S.dO a hb (so1 a ha)
      · exact nd.2.2 a ha a (List.mem_append_right _ hb) rfl⟩
    have all : ∀ {Z : Addr → Prop}, (∀ a ∈ ow, Z a) → (∀ a ∈ fp, Z a) → ∀ a ∈ o1 ++ (fp ++ o2), Z a := fun z1 z2 a ha => (List.mem_append.mp (sub a ha)).elim (z1 a) (z2 a)
    refine ⟨_, ⟨r1, nd2, all R.dF S.dF, all R.dG S.dG, all R.dP S.dP, R.iF, R.iG, R.iP⟩, sub, fun j m' q => ?_, fun j m' q => ?_⟩
    · have ne : i ≠ j := fun z => by subst z; exact nl m' q
      rw [at_set_ne ne]; exact q
    · have ne : i ≠ j := fun z => by subst z; rw [at_set_self il] at q; cases q
      rw [at_set_ne ne] at q
      exact ⟨q, by rw [List.getElem?_set_ne ne]⟩
  · have hle : e.length ≤ i := Nat.le_of_not_lt il
    have h1 : e.set i (.ok m true) = e := List.set_eq_of_length_le hle
    have h2 : σ.set i (some v) = σ := List.set_eq_of_length_le (by rw [← R.rep.len]; exact hle)
    rw [h1, h2]
    exact ⟨ow, R, fun a h => List.mem_append_left _ h, .refl, .refl⟩
theorem AK.set {i : Nat} {w : Option V} (h : L i = true) : AK L σ (σ.set i w) := fun j hj => by
  have ne : i ≠ j := fun z => by subst z; rw [h] at hj; cases hj
  rw [List.getElem?_set_ne ne]
theorem RepR.sto (h : RepR K Γ H F r v fp) (e : r.sto = some m) : RepM K Γ true H F m v fp := by
  unfold RV.sto at e
  cases hl : r.loose with
  | true => rw [hl, if_pos rfl] at e; cases e
  | false => rw [hl, if_neg (by decide)] at e; cases e; exact h.own hl
end
abbrev SS (X : Cx) (Γ : Gm) (U : WX) (L : Nat → Bool) (W : Wd) (st : Stmt) (s : S) : Prop := PS X st (rdS X.K Γ U L (evS W s))
abbrev SSs (X : Cx) (Γ : Gm) (U : WX) (L : Nat → Bool) (W : Wd) (st : List Stmt) (s : List S) : Prop := PSs X st (rdS X.K Γ U L (evSs W s))
abbrev SGt (X : Cx) (Γ : Gm) (U : WX) (L : Nat → Bool) (W : Wd) (ex : Expr) (t : Tg) : Prop := PG X ex (rdG X.K Γ U L (tgset W t))
abbrev SGts (X : Cx) (Γ : Gm) (U : WX) (L : Nat → Bool) (W : Wd) (ex : List Expr) (t : List Tg) : Prop := PGs X ex (rdGs X.K Γ U L (tgsets W t))
theorem PG.imp {X : Cx} {ex : Expr} {t t' : TG} (h : PG X ex t) (i : ∀ v σ H Q, t' v σ H Q → t v σ H Q) : PG X ex t' := ⟨fun pins s σ H v u Q I r q => h.run pins s σ H v u Q I r (i _ _ _ _ q)⟩
theorem PGs.imp {X : Cx} {ex : List Expr} {t t' : TGs} (h : PGs X ex t) (i : ∀ v σ H Q, t' v σ H Q → t v σ H Q) : PGs X ex t' := ⟨fun pins s σ H v u Q I r q => h.run pins s σ H v u Q I r (i _ _ _ _ q)⟩
section
variable {X : Cx} {Γ : Gm} {U : WX} {L : Nat → Bool} {W : Wd} {ea eb ec : Expr} {a b c : E} {exs : List Expr} {es : List E} {pos pos' p kpos : Pos} {st : Stmt} {sts sts2 : List Stmt} {s : S} {ss ss2 : List S}
theorem sss_nil : SSs X Γ U L W [] [] := PSs.imp pss_nil fun D σ H ⟨F, G, P, env, ow, R, k⟩ => by
  rw [evSs] at k
  exact k σ H ⟨F, ow, R, .refl, .refl, .refl, .refl⟩
theorem sss_cons (h1 : SS X Γ U L W st s) (h2 : SSs X Γ U L W sts ss) : SSs X Γ U L W (st :: sts) (s :: ss) := PSs.imp (pss_cons h1 h2) fun D σ H ⟨F, G, P, env, ow, R, k⟩ => by
  refine ⟨F, G, P, env, ow, R, ?_⟩
  rw [evSs] at k
  cases h : evS W s env with
  | stuck => rw [h] at k; exact k
  | exc c ds e1 => rw [h] at k; exact k
  | ok f e1 =>
    rw [h] at k
    cases f with
    | nx =>
      dsimp only at k
      intro σ' H' ⟨F1, ow1, R1, T1, l1, lr1, a1⟩
      exact ⟨F1, G, P, e1, ow1, R1, OutS.after k T1 l1 lr1 a1⟩
    | bk => exact k
    | ct => exact k
    | rt m => exact k
/-- what stands in the slot is data from here on -/
theorem frz_ok {K : PySem.W.Frag} {H : Hp} {F G P : AP} {e : Env} {σ : L2.St} {ow : List Addr} {i : Nat} {m : M} (R : Rst K Γ H F G P e σ ow) (hs : e.at i = .ok m true) : ResS K Γ L H F G P e σ ow (e.set i (.ok (.fz m.toD) true)) σ H := by
  obtain ⟨o1, f, o2, u, e1, hu, hm, r1⟩ := R.rep.take hs
  have il : i < e.length := at_len (by rw [hs]; intro z; cases z)
  have nd := R.nd
  rw [e1, List.nodup_append, List.nodup_append] at nd
  have r2 : RepEnv K Γ H (fun a => F a ∨ a ∈ f) G (e.set i .no) σ (o1 ++ o2) := r1.ext (.of (fun a h => .inl h) fun _ _ _ q => q) (fun a o _ q => q) fun a o _ q => .inl q
  obtain ⟨o3, o4, e2, r3⟩ := r2.put (m := .fz m.toD) (f := []) (at_set_self il) hu ⟨rfl, hm.freeze (fun a h => .inl h) fun a h => .inr h⟩
  rw [List.nil_append, ← e2, List.set_set] at r3
  have sub : ∀ a ∈ o1 ++ o2, a ∈ ow := fun a ha => by
    rw [e1]
    rcases List.mem_append.mp ha with ha | ha
    · exact List.mem_append_left _ ha
    · exact List.mem_append_right _ (List.mem_append_right _ ha)
  have nf : ∀ a ∈ o1 ++ o2, a ∉ f := fun a ha z => by
    rcases List.mem_append.mp ha with ha | ha
    · exact nd.2.2 a ha a (List.mem_append_left _ z) rfl
    · exact nd.2.1.2.2 a z a ha rfl
  refine ⟨_, _, ⟨r3, List.nodup_append.mpr ⟨nd.1, nd.2.1.2.1, fun a ha b hb => nd.2.2 a ha b (List.mem_append_right _ hb)⟩, fun a h z => z.elim (R.dF a (sub a h)) (nf a h), fun a h => R.dG a (sub a h), fun a h => R.dP a (sub a h), fun a h => h.elim (R.iF a) (hm.has a), R.iG, R.iP⟩,
    ⟨fun _ _ h _ => h, fun _ h => .inl h, fun a h => h.elim .inl fun h => .inr (.inl (by rw [e1]; exact List.mem_append_right _ (List.mem_append_left _ h))), fun a h => .inl (sub a h)⟩, fun j m' q => ?_, fun j m' q => ?_, .refl⟩
  · have ne : i ≠ j := fun z => by subst z; rw [hs] at q; cases q
    rw [at_set_ne ne]; exact q
  · have ne : i ≠ j := fun z => by subst z; rw [at_set_self il] at q; cases q
    rw [at_set_ne ne] at q
    exact ⟨q, rfl⟩
theorem sss_frz {i : Nat} (h : SSs X Γ U L W sts ss) : SSs X Γ U L W sts (.frz i :: ss) := PSs.imp h fun D σ H ⟨F, G, P, env, ow, R, k⟩ => by
  rw [evSs, evS] at k
  cases hs : env.at i with
  | no => rw [hs] at k; exact k.elim
  | ok m w =>
    cases w with
    | false => rw [hs] at k; exact k.elim
    | true =>
      rw [hs] at k
      dsimp only at k
      obtain ⟨F1, ow1, R1, T1, l1, lr1, a1⟩ := frz_ok (L := L) R hs
      exact ⟨F1, G, P, _, ow1, R1, OutS.after k T1 l1 lr1 a1⟩
theorem ss_pass : SS X Γ U L W (.Pass pos) .pass := PS.imp ps_pass fun D σ H ⟨F, G, P, env, ow, R, k⟩ => by
  rw [evS] at k
  exact k σ H ⟨F, ow, R, .refl, .refl, .refl, .refl⟩
theorem ss_brk : SS X Γ U L W (.Break pos) .brk := PS.imp ps_break fun D σ H ⟨F, G, P, env, ow, R, k⟩ => by
  rw [evS] at k
  exact k σ H ⟨F, ow, R, .refl, .refl, .refl, .refl⟩
theorem ss_cont : SS X Γ U L W (.Continue pos) .cont := PS.imp ps_continue fun D σ H ⟨F, G, P, env, ow, R, k⟩ => by
  rw [evS] at k
  exact k σ H ⟨F, ow, R, .refl, .refl, .refl, .refl⟩
theorem ss_never : SS X Γ U L W st .never := PS.imp ps_never fun D σ H ⟨F, G, P, env, ow, R, k⟩ => by
  rw [evS] at k
  exact k.elim
theorem ss_expr (ha : SE X Γ U W ea a) (hs : swapsWith ea none pos.line X.env = pure false := by rfl) : SS X Γ U L W (.Expr ea pos) (.expr a) := PS.imp (ps_expr ha hs) fun D σ H q => by
  refine (rdS_val (W := U) (L := L) (D := D) (pu := pureE a) (k := fun _ e => Out.ok .nx e) (by rw [show evS W (.expr a) = fun e => (evE W a e).bind fun _ e => Out.ok .nx e from funext fun e => by rw [evS]] at q; exact q)).mono fun v H1 ⟨F, G, P, env, ow, fp, r, R, S1, q1, k⟩ => ?_
  exact k σ H1 ⟨F, ow, R, ⟨fun _ _ h _ => h, fun _ h => h, fun _ h => .inl h, fun a h => .inl (List.mem_append_left _ h)⟩, .refl, .refl, .refl⟩
theorem ss_ret (ha : SE X Γ U W ea a) : SS X Γ U L W (.Return (some ea) pos) (.ret (some a)) := PS.imp (ps_ret ha) fun D σ H q => by
  refine (rdS_val (W := U) (L := L) (D := D) (pu := pureE a) (k := fun r e => match r.sto with | some m => .ok (.rt m) e | none => .stuck) (by rw [show evS W (.ret (some a)) = fun e => (evE W a e).bind fun r e => (match r.sto with | some m => .ok (.rt m) e | none => .stuck) from funext fun e => by rw [evS] <;> rfl] at q; exact q)).mono fun v H1 ⟨F, G, P, env, ow, fp, r, R, S1, q1, k⟩ => ?_
  cases hs : r.sto with
  | none => simp only [hs] at k; exact k.elim
  | some m =>
    simp only [hs] at k
    exact k v σ H1 ⟨F, ow, fp, R, S1, .refl, q1.sto hs, .refl, .refl, .refl⟩
theorem ss_retN : SS X Γ U L W (.Return none pos) (.ret none) := PS.imp ps_retN fun D σ H ⟨F, G, P, env, ow, R, k⟩ => by
  rw [evS] at k
  exact k .non σ H ⟨F, ow, [], R, .nil, by rw [List.append_nil]; exact .refl, ⟨rfl, rfl⟩, .refl, .refl, .refl⟩
theorem ss_if (hc : ST X Γ U W ec c) (ha : SSs X Γ U L W sts ss) (hb : SSs X Γ U L W sts2 ss2) : SS X Γ U L W (.If ec sts sts2 pos) (.iff c ss ss2) := PS.imp (ps_if hc ha hb) fun D σ H q => by
  refine (rdS_test (pu := pureE c) (oa := evT W c) (by rw [show evS W (.iff c ss ss2) = fun e => (evT W c e).bind fun k e => if k = true then evSs W ss e else evSs W ss2 e from funext fun e => by rw [evS]] at q; exact q)).mono fun b H1 h => ?_
  cases b with
  | true => rw [if_pos rfl]; simpa only [if_true] using h
  | false => rw [if_neg (by decide)]; simpa only [Bool.false_eq_true, if_false] using h
theorem ss_set {i : Nat} {x : Str} (hN : X.N.Nodup) (hi : X.N[i]? = some x) (hx : Loc X.env.scope x) (hL : L i = true) (ha : SE X Γ U W ea a) (hs : swapsWith ea (some (.Name x pos')) pos.line X.env = pure false := by rfl)
    (hf : X.fn x = true ∨ X.env.scope.names.lookup x = some .local := by first | exact .inl rfl | exact .inr rfl | assumption) : SS X Γ U L W (.Assign [.Name x pos'] ea pos) (.asg (.nm i) a) := PS.imp (ps_set hN hi hx ha hs hf) fun D σ H q => by
  refine (rdS_val (W := U) (L := L) (D := D) (pu := pureE a) (k := fun r e => match r.sto with | some m => (match e.put i m with | some e' => Out.ok .nx e' | none => .stuck) | none => .stuck) (by
    rw [show evS W (.asg (.nm i) a) = fun e => (evE W a e).bind fun r e => (match r.sto with | some m => (match e.put i m with | some e' => Out.ok .nx e' | none => .stuck) | none => .stuck) from funext fun e => by
      rw [evS]
      congr 1
      funext r e
      cases r.sto with
      | none => rfl
      | some m =>
        simp only [tgset]
        cases e.put i m <;> rfl] at q
    exact q)).mono fun v H1 ⟨F, G, P, env, ow, fp, r, R, S1, q1, k⟩ => ?_
  cases hs : r.sto with
  | none => simp only [hs] at k; exact k.elim
  | some m =>
    simp only [hs] at k
    cases hp : env.put i m with
    | none => simp only [hp] at k; exact k.elim
    | some e' =>
      simp only [hp] at k
      obtain ⟨ow', R', sub, l, lr⟩ := put_ok R S1 (q1.sto hs) hp
      exact k _ H1 ⟨F, ow', R', ⟨fun _ _ h _ => h, fun _ h => h, fun _ h => .inl h, fun a h => .inl (sub a h)⟩, l, lr, .set hL⟩
theorem sg_name {i : Nat} {x : Str} (hN : X.N.Nodup) (hi : X.N[i]? = some x) (hx : Loc X.env.scope x) (hL : L i = true)
    (hf : X.fn x = true ∨ X.env.scope.names.lookup x = some .local := by first | exact .inl rfl | exact .inr rfl | assumption) : SGt X Γ U L W (.Name x pos) (.nm i) := PG.imp (pg_name hN hi hx hf) fun v σ H Q ⟨F, G, P, env, ow, fp, m, R, S1, q1, k⟩ => by
  simp only [tgset] at k
  cases hp : env.put i m with
  | none => simp only [hp] at k; exact k.elim
  | some e' =>
    simp only [hp] at k
    obtain ⟨ow', R', sub, l, lr⟩ := put_ok R S1 q1 hp
    exact k _ H ⟨F, ow', R', ⟨fun _ _ h _ => h, fun _ h => h, fun _ h => .inl h, fun a h => .inl (sub a h)⟩, l, lr, .set hL⟩
end
end Pv
/-! Pv: targets, parallel stores, x += e. -/
namespace Pv
open PySem L2
section
variable {K : PySem.W.Frag} {Γ : Gm} {W : WX} {L : Nat → Bool} {H H' H1 H2 : Hp} {F F' F1 F2 G P : AP} {e e' e1 e2 env : Env} {σ σ' σ1 σ2 : L2.St} {ow ow' ow1 ow2 fp fr : List Addr} {r : RV} {m : M} {v : V}
def setAll : L2.St → List Nat → List V → L2.St
  | σ, i :: is, v :: vs => setAll (σ.set i (some v)) is vs
  | σ, _, _ => σ
theorem setPar_ok : ∀ {is : List Nat} {rs : List RV} {vs : List V} {e e' : Env} {σ : L2.St} {ow fp : List Addr}, Rst K Γ H F G P e σ ow → Sep H F G P ow fp → RepRs K Γ H F rs vs fp → setPar is rs e = some e' → (∀ i ∈ is, L i = true) →
    is.length = vs.length ∧ ∃ ow', Rst K Γ H F G P e' (setAll σ is vs) ow' ∧ (∀ a ∈ ow', a ∈ ow ++ fp) ∧ LK e e' ∧ LR σ (setAll σ is vs) e e' ∧ AK L σ (setAll σ is vs)
  | [], [], vs, e, e', σ, ow, fp, R, S, h, q, _ => by
    unfold setPar at q
    cases q
    obtain ⟨rfl, rfl⟩ := h
    exact ⟨rfl, ow, R, fun a h => List.mem_append_left _ h, .refl, .refl, .refl⟩
  | i :: is, r :: rs, vs, e, e', σ, ow, fp, R, S, ⟨v, t, f1, f2, ev, ef, h1, h2⟩, q, hL => by
    subst ev
    subst ef
    unfold setPar at q
    cases hs : r.sto with
    | none => rw [hs] at q; cases q
    | some m =>
      rw [hs] at q
      have q' : ((e.put i m).bind fun e' => setPar is rs e') = some e' := q
      cases hp : e.put i m with
      | none => rw [hp] at q'; cases q'
      | some e1 =>
        rw [hp] at q'
        have nd := List.nodup_append.mp S.nd
        have S1 : Sep H F G P ow f1 := ⟨nd.1, fun a h => S.has a (List.mem_append_left _ h), fun a h => S.dF a (List.mem_append_left _ h), fun a h => S.dG a (List.mem_append_left _ h), fun a h => S.dP a (List.mem_append_left _ h), fun a h => S.dO a (List.mem_append_left _ h)⟩
        obtain ⟨ow1, R1, sub, l1, lr1⟩ := put_ok R S1 (h1.sto hs) hp
        have S2 : Sep H F G P ow1 f2 := ⟨nd.2.1, fun a h => S.has a (List.mem_append_right _ h), fun a h => S.dF a (List.mem_append_right _ h), fun a h => S.dG a (List.mem_append_right _ h), fun a h => S.dP a (List.mem_append_right _ h), fun a h z => by
          rcases List.mem_append.mp (sub a z) with w | w
          · exact S.dO a (List.mem_append_right _ h) w
          · exact nd.2.2 a w a h rfl⟩
        obtain ⟨ln, ow2, R2, sub2, l2, lr2, a2⟩ := setPar_ok R1 S2 h2 q' fun j hj => hL j (List.mem_cons_of_mem _ hj)
        refine ⟨by rw [List.length_cons, List.length_cons, ln], ow2, R2, fun a h => ?_, l1.trans l2, lr1.trans lr2, (AK.set (hL i List.mem_cons_self)).trans a2⟩
        rcases List.mem_append.mp (sub2 a h) with w | w
        · rcases List.mem_append.mp (sub a w) with w | w
          · exact List.mem_append_left _ w
          · exact List.mem_append_right _ (List.mem_append_left _ w)
        · exact List.mem_append_right _ (List.mem_append_right _ w)
  | [], _ :: _, _, _, _, _, _, _, _, _, _, q, _ => by unfold setPar at q; cases q
  | _ :: _, [], _, _, _, _, _, _, _, _, _, q, _ => by unfold setPar at q; cases q
/-- values, then what is done with them -/
theorem rdS_list {oa : Env → Out (List RV)} {k : List RV → Env → Out Fl} {pu : Bool} {D : Ends} (h : rdS K Γ W L (fun e => (oa e).bind k) D σ H) :
    rdL K Γ W oa pu σ H fun vs H1 => ∃ F G P env ow fp rs, Rst K Γ H1 F G P env σ ow ∧ Sep H1 F G P ow fp ∧ RepRs K Γ H1 F rs vs fp ∧ OutS K Γ W L H1 F G P env σ (ow ++ fp) D (k rs env) := by
  obtain ⟨F, G, P, env, ow, R, k'⟩ := h
  refine ⟨F, G, P, env, ow, R, ?_⟩
  cases ha : oa env with
  | stuck => simp only [ha, Out.bind] at k'; exact k'
  | exc c ds e1 => simp only [ha, Out.bind] at k'; exact fun cls d H' x => k' cls d σ H' x.toS
  | ok r e1 =>
    simp only [ha, Out.bind] at k'
    intro v H1 ⟨F1, ow1, fp1, R1, S1, T1, q1, l1, lr1⟩ _
    exact ⟨F1, G, P, e1, ow1, fp1, r, R1, S1, q1, OutS.after k' T1 l1 lr1 .refl⟩
theorem OutL.mono {pu : Bool} {Q Q' : List V → Hp → Prop} {o : Out (List RV)} (h : OutL K Γ W H F G P env σ ow pu Q o) (q : ∀ v H', Q v H' → Q' v H') : OutL K Γ W H F G P env σ ow pu Q' o := by
  cases o with
  | ok r e => exact fun v H' a b => q v H' (h v H' a b)
  | exc c ds e => exact h
  | stuck => exact h
theorem rdL_mono {oa : Env → Out (List RV)} {pu : Bool} {Q Q' : List V → Hp → Prop} (h : rdL K Γ W oa pu σ H Q) (q : ∀ v H', Q v H' → Q' v H') : rdL K Γ W oa pu σ H Q' :=
  let ⟨F, G, P, env, ow, R, k⟩ := h
  ⟨F, G, P, env, ow, R, k.mono q⟩
end
section
variable {X : Cx} {Γ : Gm} {U : WX} {L : Nat → Bool} {W : Wd} {ea eb ec : Expr} {a b c : E} {exs : List Expr} {es : List E} {pos pos' p kpos : Pos} {st : Stmt} {sts sts2 : List Stmt} {s : S} {ss ss2 : List S} {t : Tg} {ts : List Tg}
theorem sgs_nil : SGts X Γ U L W [] [] := PGs.imp pgs_nil fun vs σ H Q ⟨F, G, P, env, ow, fp, ms, R, S, q, k⟩ => by
  cases ms with
  | nil =>
    simp only [tgsets] at k
    obtain ⟨q1, q2⟩ := q
    exact ⟨q1, k σ H ⟨F, ow, R, ⟨fun _ _ h _ => h, fun _ h => h, fun _ h => .inl h, fun a h => .inl (List.mem_append_left _ h)⟩, .refl, .refl, .refl⟩⟩
  | cons d ds => simp only [tgsets] at k; exact k.elim
theorem sgs_cons (h1 : SGt X Γ U L W ea t) (h2 : SGts X Γ U L W exs ts) (hs : (assignEach (ea :: exs) X.env).map (·.2) = assign ea X.env :: (assignEach exs X.env).map (·.2) := by rfl) : SGts X Γ U L W (ea :: exs) (t :: ts) :=
  PGs.imp (pgs_cons h1 h2 hs) fun vs σ H Q ⟨F, G, P, env, ow, fp, ms, R, S, q, k⟩ => by
    cases ms with
    | nil => simp only [tgsets] at k; exact k.elim
    | cons m ms =>
      obtain ⟨v, r, f1, f2, rfl, ef, hv, hr⟩ := q
      subst ef
      simp only [tgsets] at k
      have nd := List.nodup_append.mp S.nd
      have S1 : Sep H F G (fun a => P a ∨ a ∈ f2) ow f1 := ⟨nd.1, fun a h => S.has a (List.mem_append_left _ h), fun a h => S.dF a (List.mem_append_left _ h), fun a h => S.dG a (List.mem_append_left _ h), fun a h z => z.elim (S.dP a (List.mem_append_left _ h)) fun w => nd.2.2 a h a w rfl, fun a h => S.dO a (List.mem_append_left _ h)⟩
      have S2 : Sep H F G P ow f2 := ⟨nd.2.1, fun a h => S.has a (List.mem_append_right _ h), fun a h => S.dF a (List.mem_append_right _ h), fun a h => S.dG a (List.mem_append_right _ h), fun a h => S.dP a (List.mem_append_right _ h), fun a h => S.dO a (List.mem_append_right _ h)⟩
      refine ⟨v, r, rfl, F, G, _, env, ow, f1, m, R.push S2, S1, hv, ?_⟩
      have ap : ow ++ (f1 ++ f2) = (ow ++ f1) ++ f2 := (List.append_assoc _ _ _).symm
      cases hc : tgset W t m env with
      | stuck => simp only [hc, Out.bind] at k; exact k
      | exc c ds' e1 =>
        simp only [hc, Out.bind] at k
        intro cls d σ' H' ⟨F1, ow1, R1, T1, x1, l1, lr1, a1⟩
        refine k cls d σ' H' ⟨F1, ow1, R1.pop fun a h => .inl h, ⟨fun a o q n => T1.frame a o q fun z => n (by rw [ap]; exact List.mem_append_left _ z), T1.sub, fun a h => ?_, fun a h => ?_⟩, x1, l1, lr1, a1⟩
        · rw [ap]; exact (T1.new a h).imp id fun z => z.imp (List.mem_append_left _) id
        · rw [ap]; exact (T1.own a h).imp (List.mem_append_left _) id
      | ok u e1 =>
        simp only [hc, Out.bind] at k
        intro σ' H' ⟨F1, ow1, R1, T1, l1, lr1, a1⟩
        have nf : ∀ a ∈ f2, a ∉ ow ++ f1 := fun a h z => (List.mem_append.mp z).elim (S.dO a (List.mem_append_right _ h)) fun w => nd.2.2 a w a h rfl
        have kf : ∀ a o, a ∈ f2 → H a = some o → H' a = some o := fun a o h q => T1.frame a o q (nf a h)
        have nF : ∀ a ∈ f2, ¬ F1 a := fun a h z => by
          rcases T1.new a z with w | w | w
          · exact S2.dF a h w
          · exact nf a h w
          · obtain ⟨o, q⟩ := S2.has a h; rw [q] at w; cases w
        have nO : ∀ a ∈ f2, a ∉ ow1 := fun a h z => by
          rcases T1.own a z with w | w
          · exact nf a h w
          · obtain ⟨o, q⟩ := S2.has a h; rw [q] at w; cases w
        have T2 : Stp H F (ow ++ (f1 ++ f2)) H' F1 (ow1 ++ f2) := by
          rw [ap]
          refine ⟨fun a o q n => T1.frame a o q fun z => n (List.mem_append_left _ z), T1.sub, fun a h => (T1.new a h).imp id fun z => z.imp (List.mem_append_left _) id, fun a h => ?_⟩
          rcases List.mem_append.mp h with h | h
          · exact (T1.own a h).imp (List.mem_append_left _) id
          · exact .inl (List.mem_append_right _ h)
        have xF : Ext H H' F F1 := .of T1.sub fun a o f q => T1.frame a o q fun z => (List.mem_append.mp z).elim (fun w => R.dF a w f) fun w => S.dF a (List.mem_append_left _ w) f
        exact ⟨F1, G, P, e1, ow1, f2, ms, R1.pop fun a h => .inl h, ⟨nd.2.1, fun a h => let ⟨o, q⟩ := S2.has a h; ⟨o, kf a o h q⟩, nF, S2.dG, S2.dP, nO⟩, hr.ext xF (.of fun a o h q => kf a o h q), OutG.after k T2 l1 lr1 a1⟩
theorem sg_tup {kt : Nat} {n : Nat} (hc : X.calm = true) (h : SGts X Γ U L W exs ts) (hl : ts.length = n) (hn : (assignEach exs X.env).length = n := by rfl) (hst : (assignEach exs X.env).findIdx? (·.1) = none := by rfl) : SGt X Γ U L W (.Tuple exs kt pos) (.tup ts) :=
  PG.imp (pg_tup hc h hn hst) fun v σ H Q ⟨F, G, P, env, ow, fp, m, R, S1, q1, k⟩ => by
    cases m with
    | fz d =>
      cases d with
      | tup ds =>
        simp only [tgset] at k
        obtain ⟨e0, q2⟩ := q1
        subst e0
        obtain ⟨a, xs, rfl, ht, hd⟩ := q2
        by_cases hk : ds.length = ts.length
        · rw [if_pos hk] at k
          exact ⟨a, xs, rfl, ht.sq, by rw [← hd.len, hk, hl], F, G, P, env, ow, [], ds.map .fz, R, S1, RepMs.of_fz hd, k⟩
        · rw [if_neg hk] at k; exact k.elim
      | _ => simp only [tgset] at k; exact k.elim
    | tup ms =>
      simp only [tgset] at k
      obtain ⟨a, xs, fs, rfl, ef, ha, hd⟩ := q1
      subst ef
      by_cases hk : ms.length = ts.length
      · rw [if_pos hk] at k
        have nd := List.nodup_cons.mp S1.nd
        have S2 : Sep H F G P ow fs := ⟨nd.2, fun c h => S1.has c (List.mem_cons_of_mem _ h), fun c h => S1.dF c (List.mem_cons_of_mem _ h), fun c h => S1.dG c (List.mem_cons_of_mem _ h), fun c h => S1.dP c (List.mem_cons_of_mem _ h), fun c h => S1.dO c (List.mem_cons_of_mem _ h)⟩
        refine ⟨a, xs, rfl, SqT.of ha, by rw [← hd.len, hk, hl], F, G, P, env, ow, fs, ms, R, S2, hd, OutG.after k ⟨fun _ _ h _ => h, fun _ h => h, fun _ h => .inl h, fun c h => .inl ?_⟩ .refl .refl .refl⟩
        rcases List.mem_append.mp h with h | h
        · exact List.mem_append_left _ h
        · exact List.mem_append_right _ (List.mem_cons_of_mem _ h)
      · rw [if_neg hk] at k; exact k.elim
    | _ => simp only [tgset] at k; exact k.elim
theorem ss_asg (ha : SE X Γ U W ea a) (hg : SGt X Γ U L W eb t) (hs : swapsWithSole [eb] ea pos.line X.env = pure false := by rfl) (hw : swappedStores [eb] ea X.env = pure none := by rfl) (h1 : (assignEach [eb] X.env).map (·.2) = [assign eb X.env] := by rfl) :
    SS X Γ U L W (.Assign [eb] ea pos) (.asg t a) := PS.imp (ps_asg ha hg hs hw h1) fun D σ H q => by
  refine (rdS_val (W := U) (L := L) (D := D) (pu := pureE a) (k := fun r e => match r.sto with | some m => (tgset W t m e).bind fun _ e => Out.ok .nx e | none => .stuck) (by
    rw [show evS W (.asg t a) = fun e => (evE W a e).bind fun r e => (match r.sto with | some m => (tgset W t m e).bind fun _ e => Out.ok .nx e | none => .stuck) from funext fun e => by rw [evS] <;> rfl] at q
    exact q)).mono fun v H1 ⟨F, G, P, env, ow, fp, r, R, S1, q1, k⟩ => ?_
  cases hs : r.sto with
  | none => simp only [hs] at k; exact k.elim
  | some m =>
    simp only [hs] at k
    refine ⟨F, G, P, env, ow, fp, m, R, S1, q1.sto hs, ?_⟩
    cases hc : tgset W t m env with
    | stuck => simp only [hc, Out.bind] at k; exact k
    | exc c ds' e1 => simp only [hc, Out.bind] at k; exact k
    | ok u e1 => simp only [hc, Out.bind] at k; exact k
theorem rd_par {is : List Nat} {D : Ends} {σ : L2.St} {H : Hp} (hL : ∀ i ∈ is, L i = true) (q : rdS X.K Γ U L (evS W (.par is es)) D σ H) : rdL X.K Γ U (evEs W es) (pureEs es) σ H fun vs H1 => is.length = vs.length ∧ D.nx (setAll σ is vs) H1 := by
  refine rdL_mono (rdS_list (W := U) (L := L) (D := D) (pu := pureEs es) (k := fun rs e => match setPar is rs e with | some e => Out.ok .nx e | none => .stuck) (by
    rw [show evS W (.par is es) = fun e => (evEs W es e).bind fun rs e => (match setPar is rs e with | some e => Out.ok .nx e | none => .stuck) from funext fun e => by rw [evS] <;> rfl] at q
    exact q)) fun vs H1 ⟨F, G, P, env, ow, fp, rs, R, S1, q1, k⟩ => ?_
  cases hp : setPar is rs env with
  | none => simp only [hp] at k; exact k.elim
  | some e' =>
    simp only [hp] at k
    obtain ⟨ln, ow', R', sub, l, lr, ak⟩ := setPar_ok (L := L) R S1 q1 hp hL
    exact ⟨ln, k _ H1 ⟨F, ow', R', ⟨fun _ _ h _ => h, fun _ h => h, fun _ h => .inl h, fun a h => .inl (sub a h)⟩, l, lr, ak⟩⟩
theorem ss_par2 {i j : Nat} {x y : Str} {px py pt : Pos} {kt k2 : Nat} {pt2 : Pos} (hc : X.calm = true) (hN : X.N.Nodup) (hi : X.N[i]? = some x) (hj : X.N[j]? = some y) (hij : i ≠ j) (hx : X.env.scope.names.lookup x = some .local) (hy : X.env.scope.names.lookup y = some .local)
    (hL : ∀ l ∈ [i, j], L l = true) (ha : SA X Γ U W [ea, eb] es)
    (hw : swappedStores [.Tuple [.Name x px, .Name y py] kt pt] (.Tuple [ea, eb] k2 pt2) X.env = pure (some [x, y])) (hs : swapsWithSole [.Tuple [.Name x px, .Name y py] kt pt] (.Tuple [ea, eb] k2 pt2) pos.line X.env = pure false := by rfl) :
    SS X Γ U L W (.Assign [.Tuple [.Name x px, .Name y py] kt pt] (.Tuple [ea, eb] k2 pt2) pos) (.par [i, j] es) := PS.imp (ps_par hc hN hi hj hij hx hy ha hw hs) fun D σ H q =>
  rdL_mono (rd_par hL q) fun vs H1 ⟨ln, h⟩ => by
    match vs, ln with
    | [v, w], _ => exact ⟨v, w, rfl, h⟩
theorem ss_par3 {i j l : Nat} {x y z : Str} {px py pz pt : Pos} {kt k2 : Nat} {pt2 : Pos} (hc : X.calm = true) (hN : X.N.Nodup) (hi : X.N[i]? = some x) (hj : X.N[j]? = some y) (hl : X.N[l]? = some z) (hij : i ≠ j) (hil : i ≠ l) (hjl : j ≠ l)
    (hx : X.env.scope.names.lookup x = some .local) (hy : X.env.scope.names.lookup y = some .local) (hz : X.env.scope.names.lookup z = some .local) (hL : ∀ n ∈ [i, j, l], L n = true) (ha : SA X Γ U W [ea, eb, ec] es)
    (hw : swappedStores [.Tuple [.Name x px, .Name y py, .Name z pz] kt pt] (.Tuple [ea, eb, ec] k2 pt2) X.env = pure (some [x, y, z])) (hs : swapsWithSole [.Tuple [.Name x px, .Name y py, .Name z pz] kt pt] (.Tuple [ea, eb, ec] k2 pt2) pos.line X.env = pure false := by rfl) :
    SS X Γ U L W (.Assign [.Tuple [.Name x px, .Name y py, .Name z pz] kt pt] (.Tuple [ea, eb, ec] k2 pt2) pos) (.par [i, j, l] es) := PS.imp (ps_par3 hc hN hi hj hl hij hil hjl hx hy hz ha hw hs) fun D σ H q =>
  rdL_mono (rd_par hL q) fun vs H1 ⟨ln, h⟩ => by
    match vs, ln with
    | [u, v, w], _ => exact ⟨u, v, w, rfl, h⟩
/-- x += e, x -= e -/
def auS : Op2 → Option Operator
  | .add => some .Add
  | .sub => some .Sub
  | _ => none
theorem aug_ok {o : Op2} {op : Operator} (h : auS o = some op) : PIp X op (rI0 fun i j => .int (if o = .add then i + j else i - j)) := by
  cases o <;> cases h
  · exact iop_add
  · exact iop_sub
theorem ss_aug {o : Op2} {op : Operator} {i : Nat} {x : Str} (ho : auS o = some op) (hN : X.N.Nodup) (hi : X.N[i]? = some x) (hx : Loc X.env.scope x) (hL : L i = true) (ha : SE X Γ U W ea a)
    (hf : X.fn x = true ∨ X.env.scope.names.lookup x = some .local := by first | exact .inl rfl | exact .inr rfl | assumption) : SS X Γ U L W (.AugAssign (.Name x pos') op ea pos) (.aug i o a) := PS.imp (ps_aug hN hi hx ha (aug_ok ho) hf) fun D σ H ⟨F, G, P, env, ow, R, k⟩ => by
  rw [evS] at k
  split at k
  · rename_i x w hs
    obtain ⟨u, fq, hu, hm, hz⟩ := R.rep.read hs
    cases (show u = V.int x from hm.2)
    refine ⟨.int x, hu, (rdS_val (W := U) (L := L) (D := D) (pu := pureE a) (k := fun r e => match r.d with | .int y => (match arith o x y with | some z => (match e.put i (.fz (.int z)) with | some e' => Out.ok .nx e' | none => .stuck) | none => .stuck) | _ => .stuck) ⟨F, G, P, env, ow, R, k⟩).mono fun v H1 ⟨F, G, P, env, ow, fp, r, R, S1, q1, k⟩ => ?_⟩
    cases hd : r.d with
    | int y =>
      simp only [hd] at k
      have har : arith o x y = some (if o = .add then x + y else x - y) := by cases o <;> cases ho <;> rfl
      rw [har] at k
      dsimp only at k
      cases hp : env.put i (.fz (.int (if o = .add then x + y else x - y))) with
      | none => simp only [hp] at k; exact k.elim
      | some e' =>
        simp only [hp] at k
        obtain ⟨ow', R', sub, l, lr⟩ := put_ok (fp := []) (m := .fz (.int (if o = .add then x + y else x - y))) (v := .int (if o = .add then x + y else x - y)) R .nil ⟨rfl, rfl⟩ hp
        refine ⟨x, y, rfl, q1.int hd, k _ H1 ⟨F, ow', R', ⟨fun _ _ h _ => h, fun _ h => h, fun _ h => .inl h, fun a h => .inl ?_⟩, l, lr, .set hL⟩⟩
        have := sub a h
        rw [List.append_nil] at this
        exact List.mem_append_left _ this
    | _ => simp only [hd] at k; exact k.elim
  · exact k.elim
end
end Pv
/-! Pv: walks by the evaluator. -/
namespace Pv
open PySem PySem.Spec PyProof.Rows L2
section
variable {K : PySem.W.Frag} {Γ : Gm} {W : WX} {L : Nat → Bool} {H H' H1 H2 : Hp} {F F' F1 F2 G G' P : AP} {e e' e1 e2 env : Env} {σ σ' σ1 σ2 : L2.St} {ow ow' ow1 ow2 fp fr : List Addr} {r : RV} {m : M} {v : V}
/-- a slot that is shut is opened -/
theorem RepEnv.unlock : ∀ {e : Env} {σ : L2.St} {ow : List Addr} {i : Nat} {m : M} {u : V} {f : List Addr}, RepEnv K Γ H F G e σ ow → e.at i = .ok m false → σ[i]? = some (some u) → RepM K Γ true H F m u f →
    ∃ o1 o2, ow = o1 ++ o2 ∧ RepEnv K Γ H F G (e.set i (.ok m true)) σ (o1 ++ (f ++ o2))
  | [], σ, ow, i, m, u, f, _, h, _, _ => by cases i <;> cases h
  | s :: e, _, _, 0, m, u, f, ⟨v, r, f1, f2, e1, e2, h, t⟩, q, hu, hm => by
    have q' : s = .ok m false := q
    subst q'
    obtain ⟨z, _⟩ := h
    subst z
    rw [List.nil_append] at e2
    subst e1
    have hv : v = some u := by simpa using hu
    subst hv
    exact ⟨[], f2, by rw [e2]; rfl, some u, r, f, f2, rfl, rfl, ⟨u, rfl, hm⟩, t⟩
  | s :: e, _, _, i + 1, m, u, f, ⟨v, r, f1, f2, e1, e2, h, t⟩, q, hu, hm => by
    subst e1
    obtain ⟨o1, o2, e3, t'⟩ := RepEnv.unlock (i := i) t (by simpa [Env.at] using q) (by simpa using hu) hm
    exact ⟨f1 ++ o1, o2, by rw [e2, e3, List.append_assoc], v, r, f1, o1 ++ (f ++ o2), rfl, by rw [List.append_assoc], h, t'⟩
/-- what is shut is at G already -/
theorem RepEnv.regate : ∀ {e : Env} {σ : L2.St} {ow : List Addr}, RepEnv K Γ H F G' e σ ow → (∀ j m u, e.at j = .ok m false → σ[j]? = some (some u) → ∃ fq, RepM K Γ false H F m u fq ∧ ∀ a ∈ fq, G a) → RepEnv K Γ H F G e σ ow
  | [], _, _, h, _ => h
  | s :: e, _, _, ⟨v, r, f1, f2, e1, e2, h, t⟩, k => by
    subst e1
    refine ⟨v, r, f1, f2, rfl, e2, ?_, RepEnv.regate t fun j m u h1 h2 => k (j + 1) m u (by simpa [Env.at] using h1) (by simpa using h2)⟩
    cases s with
    | no => exact h
    | ok m w =>
      cases w with
      | true => exact h
      | false =>
        obtain ⟨z, u, fq, e3, hm, hg⟩ := h
        obtain ⟨fq', h1, h2⟩ := k 0 m u rfl (by simp [e3])
        exact ⟨z, u, fq', e3, h1, h2⟩
theorem RepEnv.shutAt : ∀ {e : Env} {σ : L2.St} {ow : List Addr} {j : Nat} {m : M} {u : V}, RepEnv K Γ H F G e σ ow → e.at j = .ok m false → σ[j]? = some (some u) → ∃ fq, RepM K Γ false H F m u fq ∧ ∀ a ∈ fq, G a
  | [], _, _, j, _, _, _, h, _ => by cases j <;> cases h
  | s :: e, _, _, 0, m, u, ⟨v, r, f1, f2, e1, e2, h, t⟩, q, hu => by
    have q' : s = .ok m false := q
    subst q'
    subst e1
    obtain ⟨z, u', fq, e3, hm, hg⟩ := h
    have hv : v = some u := by simpa using hu
    rw [hv] at e3
    cases e3
    exact ⟨fq, hm, hg⟩
  | s :: e, _, _, j + 1, m, u, ⟨v, r, f1, f2, e1, e2, h, t⟩, q, hu => by
    subst e1
    exact RepEnv.shutAt (j := j) t (by simpa [Env.at] using q) (by simpa using hu)
/-- how a walk's source is opened again -/
def Unl (K : PySem.W.Frag) (Γ : Gm) (Z G P : AP) (e : Env) (σ : L2.St) (sh : List Nat) (e1 : Env) (H1 : Hp) (F1 G1 : AP) (ow1 : List Addr) : Prop :=
  (∀ a, G a → G1 a) ∧ (∀ a, G1 a → G a ∨ Z a) ∧ ∀ H2 F2 e2 σ2 ow2, Rst K Γ H2 F2 G1 P e2 σ2 ow2 → Stp H1 F1 ow1 H2 F2 ow2 → LK e1 e2 → LR σ σ2 e1 e2 →
    ∃ ow3, Rst K Γ H2 F2 G P (unshut sh e2) σ2 ow3 ∧ (∀ a ∈ ow3, a ∈ ow2 ∨ (G1 a ∧ ¬ G a)) ∧ LK e (unshut sh e2) ∧ LR σ σ2 e (unshut sh e2)
theorem Unl.none {Z : AP} (l : LK e e1) (lr : LR σ σ e e1) : Unl K Γ Z G P e σ [] e1 H1 F1 G ow1 :=
  ⟨fun _ h => h, fun _ h => .inl h, fun H2 F2 e2 σ2 ow2 R2 T2 l2 lr2 => ⟨ow2, R2, fun a h => .inl h, l.trans l2, lr.trans lr2⟩⟩
/-- one slot is shut -/
theorem shut_ok {i : Nat} (R : Rst K Γ H F G P e σ ow) (h : e.at i = .ok m true) : ∃ f u ow1, σ[i]? = some (some u) ∧ RepM K Γ true H F m u f ∧ (∀ a ∈ ow1, a ∈ ow) ∧ (∀ a ∈ f, a ∈ ow) ∧
    Rst K Γ H F (fun a => G a ∨ a ∈ f) P (e.set i (.ok m false)) σ ow1 ∧ Unl K Γ (fun a => a ∈ ow) G P e σ [i] (e.set i (.ok m false)) H F (fun a => G a ∨ a ∈ f) ow1 := by
  obtain ⟨o1, f, o2, u, e1, hu, hm, hs⟩ := R.rep.shut h
  have il : i < e.length := at_len (by rw [h]; intro z; cases z)
  have nd := R.nd
  rw [e1, List.nodup_append, List.nodup_append] at nd
  have sub : ∀ a ∈ o1 ++ o2, a ∈ ow := fun a ha => by
    rw [e1]
    rcases List.mem_append.mp ha with ha | ha
    · exact List.mem_append_left _ ha
    · exact List.mem_append_right _ (List.mem_append_right _ ha)
  have subf : ∀ a ∈ f, a ∈ ow := fun a ha => by rw [e1]; exact List.mem_append_right _ (List.mem_append_left _ ha)
  have nf : ∀ a ∈ o1 ++ o2, a ∉ f := fun a ha z => by
    rcases List.mem_append.mp ha with ha | ha
    · exact nd.2.2 a ha a (List.mem_append_left _ z) rfl
    · exact nd.2.1.2.2 a z a ha rfl
  refine ⟨f, u, o1 ++ o2, hu, hm, sub, subf, ⟨hs (fun a h => .inl h) fun a h => .inr h, List.nodup_append.mpr ⟨nd.1, nd.2.1.2.1, fun a ha b hb => nd.2.2 a ha b (List.mem_append_right _ hb)⟩, fun a h => R.dF a (sub a h), fun a h z => z.elim (R.dG a (sub a h)) (nf a h), fun a h => R.dP a (sub a h), R.iF, fun a h => h.elim (R.iG a) (hm.has a), R.iP⟩,
    fun a h => .inl h, fun a h => h.imp id (subf a), fun H2 F2 e2 σ2 ow2 R2 T2 l2 lr2 => ?_⟩
  have hat : e2.at i = .ok m false := l2 i m (at_set_self il)
  obtain ⟨_, hσ⟩ := lr2 i m hat
  have hσ2 : σ2[i]? = some (some u) := hσ.trans hu
  have kf : ∀ a o, a ∈ f → H a = some o → H2 a = some o := fun a o ha q => T2.frame a o q fun z => nf a z ha
  have kF : ∀ a o, F a → H a = some o → H2 a = some o := fun a o ha q => T2.frame a o q fun z => R.dF a (sub a z) ha
  have kG : ∀ a o, G a → H a = some o → H2 a = some o := fun a o ha q => T2.frame a o q fun z => R.dG a (sub a z) ha
  have hm2 : RepM K Γ true H2 F2 m u f := hm.ext (.of T2.sub kF) (.of fun a o ha q => kf a o ha q)
  obtain ⟨o3, o4, e4, r4⟩ := R2.rep.unlock hat hσ2 hm2
  have nfF : ∀ a ∈ f, ¬ F2 a := fun a ha z => by
    rcases T2.new a z with w | w | w
    · exact R.dF a (subf a ha) w
    · exact nf a w ha
    · obtain ⟨o, q⟩ := hm.has a ha; rw [q] at w; cases w
  have i2 : i < e2.length := at_len (by rw [hat]; intro z; cases z)
  have he : unshut [i] e2 = e2.set i (.ok m true) := by
    unfold unshut
    rw [hat]
    rfl
  rw [he]
  have mem : ∀ a, a ∈ o3 ++ (f ++ o4) → a ∈ ow2 ∨ a ∈ f := fun a ha => by
    rw [e4]
    rcases List.mem_append.mp ha with ha | ha
    · exact .inl (List.mem_append_left _ ha)
    · rcases List.mem_append.mp ha with ha | ha
      · exact .inr ha
      · exact .inl (List.mem_append_right _ ha)
  have nd4 := R2.nd
  rw [e4, List.nodup_append] at nd4
  have df : ∀ a ∈ ow2, a ∉ f := fun a ha z => R2.dG a ha (.inr z)
  refine ⟨o3 ++ (f ++ o4), ⟨r4.regate fun j m' u' q1 q2 => ?_, ?_, fun a h => (mem a h).elim (R2.dF a) (nfF a), fun a h => (mem a h).elim (fun z w => R2.dG a z (.inl w)) fun z => R.dG a (subf a z), fun a h => (mem a h).elim (R2.dP a) fun z => R.dP a (subf a z), R2.iF, fun a h => let ⟨o, q⟩ := R.iG a h; ⟨o, kG a o h q⟩, R2.iP⟩,
    fun a h => (mem a h).imp id fun z => ⟨.inr z, R.dG a (subf a z)⟩, fun j m' q => ?_, fun j m' q => ?_⟩
  · have ne : i ≠ j := fun z => by subst z; rw [at_set_self i2] at q1; cases q1
    rw [at_set_ne ne] at q1
    obtain ⟨q3, q4⟩ := lr2 j m' q1
    rw [at_set_ne ne] at q3
    obtain ⟨fq, h1, h2⟩ := R.rep.shutAt q3 (by rw [← q4]; exact q2)
    exact ⟨fq, h1.ext (.of T2.sub kF) fun a o ha q => .inl (kG a o (h2 a ha) q), h2⟩
  · refine List.nodup_append.mpr ⟨nd4.1, List.nodup_append.mpr ⟨?_, nd4.2.1, fun a ha b hb q => ?_⟩, fun a ha b hb q => ?_⟩
    · exact nd.2.1.1
    · subst q; exact df a (by rw [e4]; exact List.mem_append_right _ hb) ha
    · subst q
      rcases List.mem_append.mp hb with hb | hb
      · exact df a (by rw [e4]; exact List.mem_append_left _ ha) hb
      · exact nd4.2.2 a ha a hb rfl
  · have ne : i ≠ j := fun z => by subst z; rw [h] at q; cases q
    rw [at_set_ne ne]
    exact l2 j m' (by rw [at_set_ne ne]; exact q)
  · have ne : i ≠ j := fun z => by subst z; rw [at_set_self i2] at q; cases q
    rw [at_set_ne ne] at q
    obtain ⟨q3, q4⟩ := lr2 j m' q
    rw [at_set_ne ne] at q3
    exact ⟨q3, q4⟩
theorem Unl.mono {Z Z' : AP} {sh : List Nat} {G1 : AP} (h : Unl K Γ Z G P e σ sh e1 H1 F1 G1 ow1) (z : ∀ a, Z a → Z' a) : Unl K Γ Z' G P e σ sh e1 H1 F1 G1 ow1 := ⟨h.1, fun a q => (h.2.1 a q).imp id (z a), h.2.2⟩
/-- what a walk gives, one after another, where its source stands -/
def ItOk (K : PySem.W.Frag) (Γ : Gm) (J : L2.It) (ds : List D) (H1 : Hp) (F1 G1 : AP) : Prop := ∀ (i : Nat) (H : Hp) (F : AP), (∀ a o, (F1 a ∨ G1 a) → H1 a = some o → H a = some o) → (∀ a, F1 a → F a) → (∀ a, F a → ∃ o, H a = some o) →
  (ds[i]? = none → J.stop i H) ∧ ∀ d, ds[i]? = some d → J.go i H ∧ ∀ x H', J.yld i H x H' → (∀ a o, H a = some o → H' a = some o) ∧ ∃ F' : AP, (∀ a, F a → F' a) ∧ (∀ a, F' a → F a ∨ H a = none) ∧ (∀ a, F' a → ∃ o, H' a = some o) ∧ RepD K Γ H' F' d x
/-- a list that stands, walked -/
theorem ItOk.list {G1 : AP} {a : Addr} {xs : List V} {ds : List D} (hs : ∀ H, (∀ b o, (F1 b ∨ G1 b) → H1 b = some o → H b = some o) → SqL K H a xs) (hd : RepDs K Γ H1 F1 ds xs) : ItOk K Γ (Itl K a) ds H1 F1 G1 := fun i H F k sb iF => by
  have hx : RepDs K Γ H F ds xs := hd.ext (.of sb fun a o f q => k a o (.inl f) q)
  refine ⟨fun h => ⟨xs, hs H k, by rw [← hx.len]; exact List.getElem?_eq_none_iff.mp h⟩, fun d h => ?_⟩
  obtain ⟨v, hv, hr⟩ := hx.get h
  refine ⟨⟨xs, v, hs H k, hv⟩, fun x H' ⟨e, q⟩ => ?_⟩
  subst e
  have := q xs (hs _ k)
  rw [hv] at this
  cases this
  exact ⟨fun _ _ h => h, F, fun _ h => h, fun _ h => .inl h, iF, hr⟩
theorem ItOk.tup {G1 : AP} {a : Addr} {xs : List V} {ds : List D} (hs : ∀ H, (∀ b o, (F1 b ∨ G1 b) → H1 b = some o → H b = some o) → SqT K H a xs) (hd : RepDs K Γ H1 F1 ds xs) : ItOk K Γ (Itt K a) ds H1 F1 G1 := fun i H F k sb iF => by
  have hx : RepDs K Γ H F ds xs := hd.ext (.of sb fun a o f q => k a o (.inl f) q)
  refine ⟨fun h => ⟨xs, hs H k, by rw [← hx.len]; exact List.getElem?_eq_none_iff.mp h⟩, fun d h => ?_⟩
  obtain ⟨v, hv, hr⟩ := hx.get h
  refine ⟨⟨xs, v, hs H k, hv⟩, fun x H' ⟨e, q⟩ => ?_⟩
  subst e
  have := q xs (hs _ k)
  rw [hv] at this
  cases this
  exact ⟨fun _ _ h => h, F, fun _ h => h, fun _ h => .inl h, iF, hr⟩
theorem ItOk.rng {G1 : AP} {lo : Int} {n : Nat} : ItOk K Γ (Itr lo n) ((rangeI lo n).map .int) H1 F1 G1 := fun i H F k sb iF => by
  have hg : ∀ d, ((rangeI lo n).map D.int)[i]? = some d → i < n ∧ d = .int (lo + i) := fun d h => by
    unfold rangeI at h
    rw [List.map_map, List.getElem?_map] at h
    by_cases c : i < n
    · rw [List.getElem?_range c] at h
      exact ⟨c, by cases h; rfl⟩
    · rw [List.getElem?_eq_none (by simpa using c)] at h
      cases h
  refine ⟨fun h => ?_, fun d h => ⟨(hg d h).1, fun x H' ⟨e, q⟩ => ?_⟩⟩
  · have := List.getElem?_eq_none_iff.mp h
    unfold rangeI at this
    show n ≤ i
    simpa using this
  · subst e
    rw [(hg d h).2, q]
    exact ⟨fun _ _ h => h, F, fun _ h => h, fun _ h => .inl h, iF, rfl⟩
theorem ItOk.enum {G1 : AP} {a : Addr} {xs : List V} {ds : List D} (hs : ∀ H, (∀ b o, (F1 b ∨ G1 b) → H1 b = some o → H b = some o) → SqL K H a xs) (hd : RepDs K Γ H1 F1 ds xs) : ItOk K Γ (Ite K a) (ds.zipIdx.map fun (d, i) => D.tup [.int i, d]) H1 F1 G1 := fun i H F k sb iF => by
  have hx : RepDs K Γ H F ds xs := hd.ext (.of sb fun a o f q => k a o (.inl f) q)
  have hi : (ds.zipIdx.map fun (d, i) => D.tup [.int i, d])[i]? = (ds[i]?).map fun d => D.tup [.int i, d] := by
    rw [List.getElem?_map, List.getElem?_zipIdx]
    cases ds[i]? <;> simp
  rw [hi]
  refine ⟨fun h => ⟨xs, hs H k, ?_⟩, fun d h => ?_⟩
  · have h' : ds[i]? = none := by cases z : ds[i]? with | none => rfl | some d => rw [z] at h; cases h
    rw [← hx.len]; exact List.getElem?_eq_none_iff.mp h'
  · cases z : ds[i]? with
    | none => rw [z] at h; cases h
    | some d0 =>
      rw [z] at h
      cases h
      obtain ⟨v, hv, hr⟩ := hx.get z
      refine ⟨⟨xs, v, hs H k, hv⟩, fun x H' ⟨T, y, ex, hT, eH, q⟩ => ?_⟩
      have := q xs (hs _ k)
      rw [hv] at this
      cases this
      have kp : ∀ a o, H a = some o → H' a = some o := fun a o q => by rw [eH, upd_ne (ne_of_none q hT)]; exact q
      refine ⟨kp, fun a => F a ∨ a = T, fun _ h => .inl h, fun a h => h.imp id fun z => by rw [z]; exact hT, fun a h => ?_, ?_⟩
      · rcases h with h | h
        · obtain ⟨o, q⟩ := iF a h; exact ⟨o, kp a o q⟩
        · rw [h, eH]; exact ⟨_, upd_same⟩
      · exact ⟨T, _, ex, .inl ⟨.inr rfl, by rw [eH]; exact upd_same⟩, .int i, [v], rfl, rfl, v, [], rfl, hr.ext (.of (fun _ h => .inl h) fun a o _ q => kp a o q), rfl⟩
theorem ItOk.zip {G1 : AP} {a b : Addr} {xs ys : List V} {ds es : List D} (hs : ∀ H, (∀ b o, (F1 b ∨ G1 b) → H1 b = some o → H b = some o) → SqL K H a xs ∧ SqL K H b ys) (hd : RepDs K Γ H1 F1 ds xs) (he : RepDs K Γ H1 F1 es ys) :
    ItOk K Γ (Itz K a b) ((ds.zip es).map fun (x, y) => D.tup [x, y]) H1 F1 G1 := fun i H F k sb iF => by
  have hx : RepDs K Γ H F ds xs := hd.ext (.of sb fun a o f q => k a o (.inl f) q)
  have hy : RepDs K Γ H F es ys := he.ext (.of sb fun a o f q => k a o (.inl f) q)
  have hs2 := hs H k
  rw [List.getElem?_map]
  refine ⟨fun h => ⟨xs, ys, hs2.1, hs2.2, ?_⟩, fun d h => ?_⟩
  · have h' : (ds.zip es)[i]? = none := by cases z : (ds.zip es)[i]? with | none => rfl | some d => rw [z] at h; cases h
    have h2 := List.getElem?_eq_none_iff.mp h'
    rw [List.length_zip] at h2
    rw [← hx.len, ← hy.len]
    omega
  · cases z : (ds.zip es)[i]? with
    | none => rw [z] at h; cases h
    | some p =>
      obtain ⟨d0, e0⟩ := p
      rw [z] at h
      cases h
      obtain ⟨z1, z2⟩ := List.getElem?_zip_eq_some.mp z
      obtain ⟨v, hv, hr⟩ := hx.get z1
      obtain ⟨w, hw, hr2⟩ := hy.get z2
      refine ⟨⟨xs, ys, v, w, hs2.1, hs2.2, hv, hw⟩, fun x H' ⟨T, y1, y2, ex, hT, eH, q1, q2⟩ => ?_⟩
      have t1 := q1 xs hs2.1
      have t2 := q2 ys hs2.2
      rw [hv] at t1
      rw [hw] at t2
      cases t1
      cases t2
      have kp : ∀ a o, H a = some o → H' a = some o := fun a o q => by rw [eH, upd_ne (ne_of_none q hT)]; exact q
      have xe : Ext H H' F (fun a => F a ∨ a = T) := .of (fun _ h => .inl h) fun a o _ q => kp a o q
      refine ⟨kp, fun a => F a ∨ a = T, fun _ h => .inl h, fun a h => h.imp id fun z => by rw [z]; exact hT, fun a h => ?_, ?_⟩
      · rcases h with h | h
        · obtain ⟨o, q⟩ := iF a h; exact ⟨o, kp a o q⟩
        · rw [h, eH]; exact ⟨_, upd_same⟩
      · exact ⟨T, _, ex, .inl ⟨.inr rfl, by rw [eH]; exact upd_same⟩, _, _, rfl, hr.ext xe, _, _, rfl, hr2.ext xe, rfl⟩
end
end Pv
/-! Pv: walks and loops. -/
namespace Pv
open PySem PySem.Spec PyProof.Rows L2
section
variable (K : PySem.W.Frag) (Γ : Gm) (W : WX)
/-- what is wanted behind a source -/
def OutQ (H : Hp) (F G P : AP) (env : Env) (σ : L2.St) (ow : List Addr) (all : Bool) (Q : V → Hp → Prop) : Out (List D × List Nat) → Prop
  | .ok (ds, sh) e => ∀ v H', (∃ F' G' ow' a xs, v = .ref a ∧ Rst K Γ H' F' G' P e σ ow' ∧ Stp H F ow H' F' ow' ∧ Unl K Γ (fun a => a ∈ ow ∨ H a = none) G P env σ sh e H' F' G' ow' ∧
      ((∀ H2, (∀ b o, (F' b ∨ G' b) → H' b = some o → H2 b = some o) → SqL K H2 a xs) ∨ (all = true ∧ ∀ H2, (∀ b o, (F' b ∨ G' b) → H' b = some o → H2 b = some o) → SqT K H2 a xs)) ∧ RepDs K Γ H' F' ds xs) → Q v H'
  | .exc c ds e => ∀ cls d H', ResX K Γ H F G P env σ ow c ds e cls d H' → W cls d σ H'
  | .stuck => False
def rdQ (o : Env → Out (List D × List Nat)) (all : Bool) : TE := fun σ H Q => ∃ F G P env ow, Rst K Γ H F G P env σ ow ∧ OutQ K Γ W H F G P env σ ow all Q (o env)
def OutI (H : Hp) (F G P : AP) (env : Env) (σ : L2.St) (ow : List Addr) (R : L2.It → Hp → Prop) : Out (List D × List Nat) → Prop
  | .ok (ds, sh) e => ∀ J H', (∃ F' G' ow', Rst K Γ H' F' G' P e σ ow' ∧ Stp H F ow H' F' ow' ∧ Unl K Γ (fun a => a ∈ ow ∨ H a = none) G P env σ sh e H' F' G' ow' ∧ ItOk K Γ J ds H' F' G') → R J H'
  | .exc c ds e => ∀ cls d H', ResX K Γ H F G P env σ ow c ds e cls d H' → W cls d σ H'
  | .stuck => False
def rdI (o : Env → Out (List D × List Nat)) : TI := fun σ H R => ∃ F G P env ow, Rst K Γ H F G P env σ ow ∧ OutI K Γ W H F G P env σ ow R (o env)
end
section
variable {K : PySem.W.Frag} {Γ : Gm} {W : WX} {L : Nat → Bool} {H H' H1 H2 : Hp} {F F' F1 F2 G G' P : AP} {e e' e1 e2 env : Env} {σ σ' σ1 σ2 : L2.St} {ow ow' ow1 ow2 fp fr : List Addr} {r : RV} {m : M} {v x : V}
theorem SqL.keep {a : Addr} {xs : List V} (h : SqL K H a xs) (k : ∀ o, H a = some o → H' a = some o) : SqL K H' a xs := by
  rcases h with (h | ⟨o, h⟩) | h
  · exact .inl (.inl (k _ h))
  · exact .inl (.inr ⟨o, k _ h⟩)
  · exact .inr h
theorem repDs_ints : ∀ ns : List Int, RepDs K Γ H F (ns.map D.int) (ns.map V.int)
  | [] => rfl
  | n :: ns => ⟨_, _, rfl, rfl, repDs_ints ns⟩
/-- a list or a tuple that is data, or a temporary -/
theorem RepR.src {ds : List D} (h : RepR K Γ H F r x fp) (l : r.loose = false) (e : r.seq? = some ds) : ∃ a vs, x = .ref a ∧
    ((∀ H', (∀ b o, (F b ∨ b ∈ fp) → H b = some o → H' b = some o) → SqL K H' a vs) ∨ (r.lst? = none ∧ ∀ H', (∀ b o, (F b ∨ b ∈ fp) → H b = some o → H' b = some o) → SqT K H' a vs)) ∧ RepDs K Γ H (fun c => F c ∨ c ∈ fp) ds vs := by
  have ho := h.own l
  obtain ⟨m, al⟩ := r
  have sb : ∀ a, F a → F a ∨ a ∈ fp := fun a h => .inl h
  cases m with
  | fz d =>
    obtain ⟨_, hd⟩ := ho
    cases d with
    | lst ds' =>
      have e' : some ds' = some ds := e
      cases e'
      obtain ⟨a, xs, rfl, hF, ha, hr⟩ := hd
      exact ⟨a, xs, rfl, .inl fun H' k => SqL.of (k a _ (.inl hF) ha), hr.ext (.of sb fun _ _ _ q => q)⟩
    | tup ds' =>
      have e' : some ds' = some ds := e
      cases e'
      obtain ⟨a, xs, rfl, ht, hr⟩ := hd
      refine ⟨a, xs, rfl, .inr ⟨rfl, fun H' k => ?_⟩, hr.ext (.of sb fun _ _ _ q => q)⟩
      rcases ht with ⟨hF, ha⟩ | ht
      · exact .inl (.inl (k a _ (.inl hF) ha))
      · exact ht.1 H'
    | scr ns =>
      have e' : some (ns.map D.int) = some ds := e
      cases e'
      obtain ⟨a, rfl, hs, hF⟩ := hd
      refine ⟨a, ns.map V.int, rfl, .inl fun H' k => ?_, ?_⟩
      · rcases hF with hF | hF
        · exact Pv.SqL.keep hs fun o q => k a o (.inl hF) q
        · exact hF H'
      · exact repDs_ints ns
    | _ => cases e
  | lst ms =>
    have al' : al = false := by cases al with | false => rfl | true => cases l
    subst al'
    have e' : some (M.toDs ms) = some ds := e
    cases e'
    obtain ⟨a, xs, fs, rfl, ef, ha, hr⟩ := ho
    refine ⟨a, xs, rfl, .inl fun H' k => SqL.of (k a _ (.inr (by rw [ef]; exact List.mem_cons_self)) ha), hr.freeze sb fun c hc => .inr (by rw [ef]; exact List.mem_cons_of_mem _ hc)⟩
  | tup ms => cases e
  | dct ks ms => cases e
  | obj c fs ms => cases e
theorem seq_of_lst {ds : List D} (e : r.lst? = some ds) : r.seq? = some ds := by unfold RV.seq?; rw [e]
end
section
variable {X : Cx} {Γ : Gm} {U : WX} {L : Nat → Bool} {W : Wd} {ea eb ec : Expr} {a b c : E} {exs : List Expr} {es : List E} {pos pos' p kpos tpos : Pos} {st : Stmt} {sts sts2 : List Stmt} {s : S} {ss ss2 : List S} {t : T}
abbrev evQ (W : Wd) (all : Bool) (a : E) : Env → Out (List D × List Nat) := fun e => (evE W a e).bind fun r e => srcF all a r e
abbrev SQ (X : Cx) (Γ : Gm) (U : WX) (W : Wd) (all : Bool) (ex : Expr) (a : E) : Prop := PE X ex (rdQ X.K Γ U (evQ W all a) all)
abbrev SI (X : Cx) (Γ : Gm) (U : WX) (W : Wd) (tg ex : Expr) (it : It) : Prop := PI X tg ex (rdI X.K Γ U (evIt W it))
theorem srcF_seq {all : Bool} {r : RV} {e : Env} {ds : List D} {sh : List Nat} {e' : Env} (h : srcF all a r e = .ok (ds, sh) e') : r.seq? = some ds ∧ (all = false → r.lst? = some ds) ∧ shut a r e = some (sh, e') := by
  unfold srcF at h
  cases hq : (if all then r.seq? else r.lst?) with
  | none => rw [hq] at h; cases h
  | some ds' =>
    rw [hq] at h
    cases hs : shut a r e with
    | none => rw [hs] at h; cases h
    | some p =>
      rw [hs] at h
      cases h
      cases all with
      | true => exact ⟨hq, fun z => (nomatch z), rfl⟩
      | false => exact ⟨seq_of_lst hq, fun _ => hq, rfl⟩
/-- a source that is data, or new -/
theorem src_data {all : Bool} {σ : L2.St} {H1 H : Hp} {F G P F1 : AP} {env e1 : Env} {ow ow1 fp1 : List Addr} {r : RV} {x : V} {ds : List D} (R1 : Rst X.K Γ H1 F1 G P e1 σ ow1) (S1 : Sep H1 F1 G P ow1 fp1) (T1 : Stp H F ow H1 F1 (ow1 ++ fp1)) (q1 : RepR X.K Γ H1 F1 r x fp1) (l1 : LK env e1) (lr1 : LR σ σ env e1)
    (hl : r.loose = false) (hq : r.seq? = some ds) (ha : all = false → r.lst? = some ds) : ∃ F' G' ow' a xs, x = .ref a ∧ Rst X.K Γ H1 F' G' P e1 σ ow' ∧ Stp H F ow H1 F' ow' ∧ Unl X.K Γ (fun a => a ∈ ow ∨ H a = none) G P env σ [] e1 H1 F' G' ow' ∧
      ((∀ H2, (∀ b o, (F' b ∨ G' b) → H1 b = some o → H2 b = some o) → SqL X.K H2 a xs) ∨ (all = true ∧ ∀ H2, (∀ b o, (F' b ∨ G' b) → H1 b = some o → H2 b = some o) → SqT X.K H2 a xs)) ∧ RepDs X.K Γ H1 F' ds xs := by
  obtain ⟨a, vs, ex, hs, hd⟩ := q1.src hl hq
  have R' : Rst X.K Γ H1 (fun c => F1 c ∨ c ∈ fp1) G P e1 σ ow1 := R1.grow (fun _ h => .inl h) (fun _ _ h => h) (fun c h z => z.elim (R1.dF c h) fun z => S1.dO c z h) fun c h => h.elim (R1.iF c) (S1.has c)
  refine ⟨_, G, ow1, a, vs, ex, R', ⟨T1.frame, fun c h => .inl (T1.sub c h), fun c h => h.elim (T1.new c) fun h => .inr (T1.own c (List.mem_append_right _ h)), fun c h => T1.own c (List.mem_append_left _ h)⟩, Unl.none l1 lr1, ?_, hd⟩
  rcases hs with hs | ⟨hn, hs⟩
  · exact .inl fun H2 k => hs H2 fun b o h => k b o (.inl h)
  · refine .inr ⟨?_, fun H2 k => hs H2 fun b o h => k b o (.inl h)⟩
    cases all with
    | true => rfl
    | false => rw [ha rfl] at hn; cases hn
theorem sq_e {all : Bool} (ha : SE X Γ U W ea a) (hv : E.root a = none := by rfl) : SQ X Γ U W all ea a := PE.imp ha fun σ H Q ⟨F, G, P, env, ow, R, k⟩ => by
  refine ⟨F, G, P, env, ow, R, ?_⟩
  unfold evQ at k
  cases he : evE W a env with
  | stuck => simp only [he, Out.bind] at k; exact k
  | exc c ds e1 => simp only [he, Out.bind] at k; exact k
  | ok r e1 =>
    simp only [he, Out.bind] at k
    intro x H1 ⟨F1, ow1, fp1, R1, S1, T1, q1, l1, lr1⟩ _
    cases hs : srcF all a r e1 with
    | stuck => rw [hs] at k; exact k.elim
    | exc c ds e2 =>
      unfold srcF at hs
      split at hs <;> cases hs
    | ok p e2 =>
      obtain ⟨ds, sh⟩ := p
      rw [hs] at k
      obtain ⟨h1, h2, h3⟩ := srcF_seq hs
      unfold shut at h3
      cases hl : r.loose with
      | true => rw [hl, if_pos rfl, hv] at h3; cases h3
      | false =>
        rw [hl, if_neg (by decide)] at h3
        cases h3
        exact k x H1 (src_data R1 S1 T1 q1 l1 lr1 hl h1 h2)
theorem sq_var {all : Bool} {i : Nat} {x : Str} (hN : X.N[i]? = some x) (hv : Vis X.env.scope x) (hd : (x == ("__debug__" : Str)) = false := by decide) (hcd : (x == ("__classdict__" : Str)) = false := by decide) : SQ X Γ U W all (.Name x pos) (.var i) :=
  PE.imp (pe_var hN hv hd hcd) fun σ H Q ⟨F, G, P, env, ow, R, k⟩ => by
    unfold evQ at k
    rw [evE] at k
    cases hs : env.at i with
    | no => rw [hs] at k; exact k.elim
    | ok m w =>
      rw [hs] at k
      simp only [Out.bind] at k
      obtain ⟨u, fq, hu, hm, hz⟩ := R.rep.read hs
      refine ⟨u, hu, ?_⟩
      cases hsr : srcF all (.var i) ⟨m, true⟩ env with
      | stuck => rw [hsr] at k; exact k.elim
      | exc c ds e2 => unfold srcF at hsr; split at hsr <;> cases hsr
      | ok p e2 =>
        obtain ⟨ds, sh⟩ := p
        rw [hsr] at k
        obtain ⟨h1, h2, h3⟩ := srcF_seq hsr
        unfold shut at h3
        cases hl : RV.loose ⟨m, true⟩ with
        | false =>
          rw [hl, if_neg (by decide)] at h3
          cases h3
          refine k u H (src_data (fp1 := []) R .nil (by rw [List.append_nil]; exact .refl) (r := ⟨m, true⟩) ?_ .refl .refl hl h1 h2)
          unfold RepR
          rw [if_pos rfl]
          exact ⟨rfl, fq, hm⟩
        | true =>
          rw [hl, if_pos rfl] at h3
          have h3' : (match env.at i with
            | .ok m true => some ([i], env.set i (.ok m false))
            | .ok _ false => some ([], env)
            | .no => none) = some (sh, e2) := h3
          rw [hs] at h3'
          have hms : ∃ ms, m = .lst ms ∧ fzs? ms = some ds := by
            cases m with
            | fz d => cases hl
            | lst ms =>
              refine ⟨ms, rfl, ?_⟩
              have h4 : (match fzs? ms with | some ds => some ds | none => none) = some ds := by
                have := h1
                unfold RV.seq? RV.lst? RV.tup? at this
                dsimp only at this
                rw [if_pos rfl] at this
                cases z : fzs? ms with
                | none => rw [z] at this; cases this
                | some d => rw [z] at this; exact this
              cases z : fzs? ms with
              | none => rw [z] at h4; cases h4
              | some d => rw [z] at h4; exact h4
            | tup ms => cases h1
            | dct ks ms => cases h1
            | obj c fs ms => cases h1
          obtain ⟨ms, rfl, hf⟩ := hms
          cases w with
          | true =>
            cases h3'
            obtain ⟨f, u', ow1, e1, e2, e3, e4, R1, U1⟩ := shut_ok R hs
            rw [hu] at e1
            cases e1
            obtain ⟨a, xs, fs, rfl, ef, ha, hr⟩ := e2
            refine k _ H ⟨F, _, ow1, a, xs, rfl, R1, ⟨fun _ _ h _ => h, fun _ h => h, fun _ h => .inl h, fun c h => .inl (e3 c h)⟩, U1.mono fun a h => .inl h, .inl fun H2 kp => SqL.of (kp a _ (.inr (.inr (by rw [ef]; exact List.mem_cons_self))) ha), (hr.fzs hf).1⟩
          | false =>
            cases h3'
            obtain ⟨fq', e1, e2⟩ := R.rep.shutAt hs hu
            obtain ⟨a, xs, fs, rfl, ef, ha, hr⟩ := e1
            exact k _ H ⟨F, G, ow, a, xs, rfl, R, .refl, Unl.none .refl .refl, .inl fun H2 kp => SqL.of (kp a _ (.inr (e2 a (by rw [ef]; exact List.mem_cons_self))) ha), (hr.fzs hf).1⟩
/-- a list, or a tuple, walked -/
def iSeq (K : PySem.W.Frag) (tl : TE) : TI := fun σ H R => tl σ H fun x H1 => ∃ a, x = .ref a ∧ (((∃ xs, SqL K H1 a xs) ∧ R (Itl K a) H1) ∨ ((∃ xs, SqT K H1 a xs) ∧ R (Itt K a) H1))
theorem pi_seq {tg l : Expr} {tl : TE} (hl : PE X l tl) : PI X tg l (iSeq X.K tl) := by
  refine ⟨fun pins s σ H R I h => ?_⟩
  refine thn (hl.run pins s σ H _ I h) fun v s1 ⟨x, H1, I1, r1, q1⟩ => ?_
  obtain ⟨a, e, q⟩ := q1
  subst e
  cases r1
  rcases q with ⟨⟨xs, hq⟩, q⟩ | ⟨⟨xs, hq⟩, q⟩
  · obtain ⟨its, rv, p, hz⟩ := I1.list hq
    refine wpAny_pyIter_list p.isList ?_
    refine ⟨s1.heap.objs.size, [s1.heap.objs.size], _, _, H1, rfl, I1.kept (t' := s1.toks) fun b o e => Heap.get?_push_of_some _ e, turn_list a _, ⟨_, Heap.get?_push_size _ rfl, rfl, rfl⟩, fun b hb => ?_, q⟩
    have e : b = s1.heap.objs.size := by simpa using hb
    subst e
    exact I1.fpOk (Nat.le_refl _) (I1.hok.fresh (Nat.le_refl _))
  · obtain ⟨its, rv, p, hz⟩ := I1.tuple hq
    refine wpAny_pyIter_tuple (show s1.heap.IsTuple a its.toArray from p) ?_
    refine ⟨s1.heap.objs.size, [s1.heap.objs.size], _, _, H1, rfl, I1.kept (t' := s1.toks) fun b o e => Heap.get?_push_of_some _ e, turn_tuple a _, ⟨_, Heap.get?_push_size _ rfl, rfl, rfl⟩, fun b hb => ?_, q⟩
    have e : b = s1.heap.objs.size := by simpa using hb
    subst e
    exact I1.fpOk (Nat.le_refl _) (I1.hok.fresh (Nat.le_refl _))
theorem si_list {tg : Expr} (h : SQ X Γ U W true ea a) : SI X Γ U W tg ea (.list a) := PI.imp (pi_seq h) fun σ H R ⟨F, G, P, env, ow, R0, k⟩ => by
  rw [evIt] at k
  refine ⟨F, G, P, env, ow, R0, ?_⟩
  show OutQ _ _ _ _ _ _ _ _ _ _ _ _ (evQ W true a env)
  cases he : evQ W true a env with
  | stuck => rw [show ((evE W a env).bind fun r e => srcF true a r e) = _ from he] at k; exact k
  | exc c ds e1 => rw [show ((evE W a env).bind fun r e => srcF true a r e) = _ from he] at k; exact k
  | ok p e1 =>
    obtain ⟨ds, sh⟩ := p
    rw [show ((evE W a env).bind fun r e => srcF true a r e) = _ from he] at k
    intro v H1 ⟨F', G', ow', a', xs, ev, R', T', U', hs, hd⟩
    refine ⟨a', ev, ?_⟩
    rcases hs with hs | ⟨_, hs⟩
    · exact .inl ⟨⟨xs, hs H1 fun _ _ _ q => q⟩, k _ H1 ⟨F', G', ow', R', T', U', .list hs hd⟩⟩
    · exact .inr ⟨⟨xs, hs H1 fun _ _ _ q => q⟩, k _ H1 ⟨F', G', ow', R', T', U', .tup hs hd⟩⟩
end
end Pv
/-! Pv: loops. -/
namespace Pv
open PySem PySem.Spec PyProof.Rows L2
section
variable {K : PySem.W.Frag} {Γ : Gm} {U : WX} {L : Nat → Bool} {H H' H1 H2 : Hp} {F F' F1 F2 G G' P : AP} {e e' e1 e2 env : Env} {σ σ' σ1 σ2 : L2.St} {ow ow' ow1 ow2 fp fr : List Addr} {r : RV} {m : M} {v x : V}
theorem tgset_T {W : Wd} : (∀ (t : T) (d : D) (e : Env), tgset W t.tg (.fz d) e = match tset t d e with | some e' => .ok () e' | none => .stuck) ∧ ∀ (ts : List T) (ds : List D) (e : Env), tgsets W (T.tgs ts) (ds.map .fz) e = match tsets ts ds e with | some e' => .ok () e' | none => .stuck := by
  refine ⟨fun t => ?_, fun ts => ?_⟩
  · exact T.rec (motive_1 := fun t => ∀ (d : D) (e : Env), tgset W t.tg (.fz d) e = match tset t d e with | some e' => .ok () e' | none => .stuck)
      (motive_2 := fun ts => (∀ (ds : List D) (e : Env), tgsets W (T.tgs ts) (ds.map .fz) e = match tsets ts ds e with | some e' => .ok () e' | none => .stuck) ∧ (∀ (ds : List D) (e e' : Env), tsets ts ds e = some e' → ds.length = ts.length) ∧ (T.tgs ts).length = ts.length)
      (fun i d e => by
        simp only [T.tg, tgset, tset] <;> cases e.put i (.fz d) <;> rfl)
      (fun ts ih d e => by
        simp only [T.tg, tgset, tset]
        cases d with
        | tup ds =>
          dsimp only
          rw [ih.2.2]
          by_cases h : ds.length = ts.length
          · rw [if_pos h]; exact ih.1 ds e
          · rw [if_neg h]
            cases z : tsets ts ds e with
            | none => rfl
            | some e' => exact absurd (ih.2.1 ds e e' z) h
        | _ => rfl)
      ⟨fun ds e => by cases ds <;> simp [T.tgs, tgsets, tsets], fun ds e e' h => by cases ds with | nil => rfl | cons d ds => simp [tsets] at h, by simp [T.tgs]⟩
      (fun t ts i1 i2 => ⟨fun ds e => by
        cases ds with
        | nil => simp [T.tgs, tgsets, tsets]
        | cons d ds =>
          simp only [T.tgs, List.map_cons, tgsets, tsets]
          rw [i1 d e]
          cases tset t d e with
          | none => rfl
          | some e1 => simp only [Out.bind, Option.bind]; exact i2.1 ds e1, fun ds e e' h => by
        cases ds with
        | nil => simp [tsets] at h
        | cons d ds =>
          simp only [tsets] at h
          cases z : tset t d e with
          | none => rw [z] at h; cases h
          | some e1 => rw [z] at h; rw [List.length_cons, List.length_cons, i2.2.1 ds e1 e' h], by simp [T.tgs, i2.2.2]⟩) t
  · exact T.rec_1 (motive_1 := fun t => ∀ (d : D) (e : Env), tgset W t.tg (.fz d) e = match tset t d e with | some e' => .ok () e' | none => .stuck)
      (motive_2 := fun ts => (∀ (ds : List D) (e : Env), tgsets W (T.tgs ts) (ds.map .fz) e = match tsets ts ds e with | some e' => .ok () e' | none => .stuck) ∧ (∀ (ds : List D) (e e' : Env), tsets ts ds e = some e' → ds.length = ts.length) ∧ (T.tgs ts).length = ts.length)
      (fun i d e => by
        simp only [T.tg, tgset, tset] <;> cases e.put i (.fz d) <;> rfl)
      (fun ts ih d e => by
        simp only [T.tg, tgset, tset]
        cases d with
        | tup ds =>
          dsimp only
          rw [ih.2.2]
          by_cases h : ds.length = ts.length
          · rw [if_pos h]; exact ih.1 ds e
          · rw [if_neg h]
            cases z : tsets ts ds e with
            | none => rfl
            | some e' => exact absurd (ih.2.1 ds e e' z) h
        | _ => rfl)
      ⟨fun ds e => by cases ds <;> simp [T.tgs, tgsets, tsets], fun ds e e' h => by cases ds with | nil => rfl | cons d ds => simp [tsets] at h, by simp [T.tgs]⟩
      (fun t ts i1 i2 => ⟨fun ds e => by
        cases ds with
        | nil => simp [T.tgs, tgsets, tsets]
        | cons d ds =>
          simp only [T.tgs, List.map_cons, tgsets, tsets]
          rw [i1 d e]
          cases tset t d e with
          | none => rfl
          | some e1 => simp only [Out.bind, Option.bind]; exact i2.1 ds e1, fun ds e e' h => by
        cases ds with
        | nil => simp [tsets] at h
        | cons d ds =>
          simp only [tsets] at h
          cases z : tset t d e with
          | none => rw [z] at h; cases h
          | some e1 => rw [z] at h; rw [List.length_cons, List.length_cons, i2.2.1 ds e1 e' h], by simp [T.tgs, i2.2.2]⟩) ts |>.1
/-- behind a walk: its source is opened -/
theorem OutS.opened {D : Ends} {sh : List Nat} {o : Out Fl} (un : Unl K Γ (fun a => a ∈ ow ∨ H a = none) G P e σ sh e1 H1 F1 G' ow1) (T1 : Stp H F ow H1 F1 ow1)
    (h : OutS K Γ U L H F G P e σ ow D (openO sh o)) : OutS K Γ U L H1 F1 G' P e1 σ ow1 D o := by
  obtain ⟨u1, u2, u3⟩ := un
  have own : ∀ {ow2 ow3 : List Addr} {H2 : Hp} {F2 : AP}, Stp H1 F1 ow1 H2 F2 ow2 → (∀ a ∈ ow3, a ∈ ow2 ∨ (G' a ∧ ¬ G a)) → Stp H F ow H2 F2 ow3 := fun T2 q => by
    have T := T1.trans T2 fun _ h => h
    refine ⟨T.frame, T.sub, T.new, fun a ha => ?_⟩
    rcases q a ha with z | ⟨z, n⟩
    · exact T.own a z
    · exact (u2 a z).elim (fun w => absurd w n) id
  cases o with
  | stuck => exact h
  | exc c ds e2 =>
    intro cls d σ' H' ⟨F2, ow2, R2, T2, x2, l2, lr2, a2⟩
    obtain ⟨ow3, R3, s3, l3, lr3⟩ := u3 H' F2 e2 σ' ow2 R2 T2 l2 lr2
    exact h cls d σ' H' ⟨F2, ow3, R3, own T2 s3, x2, l3, lr3, a2⟩
  | ok f e2 =>
    have nx : ∀ {σ' H'}, ResS K Γ L H1 F1 G' P e1 σ ow1 e2 σ' H' → ResS K Γ L H F G P e σ ow (unshut sh e2) σ' H' := fun {σ' H'} ⟨F2, ow2, R2, T2, l2, lr2, a2⟩ => by
      obtain ⟨ow3, R3, s3, l3, lr3⟩ := u3 H' F2 e2 σ' ow2 R2 T2 l2 lr2
      exact ⟨F2, ow3, R3, own T2 s3, l3, lr3, a2⟩
    cases f with
    | nx => exact fun σ' H' x => h σ' H' (nx x)
    | bk => exact fun σ' H' x => h σ' H' (nx x)
    | ct => exact fun σ' H' x => h σ' H' (nx x)
    | rt m =>
      intro v σ' H' ⟨F2, ow2, fp, R2, S2, T2, q, l2, lr2, a2⟩
      obtain ⟨ow3, R3, s3, l3, lr3⟩ := u3 H' F2 e2 σ' ow2 R2 (T2.less fun a h => List.mem_append_left _ h) l2 lr2
      have T3 := own (ow3 := ow3 ++ fp) T2 fun a ha => by
        rcases List.mem_append.mp ha with ha | ha
        · exact (s3 a ha).imp (fun z => List.mem_append_left _ z) id
        · exact .inl (List.mem_append_right _ ha)
      exact h v σ' H' ⟨F2, ow3, fp, R3, ⟨S2.nd, S2.has, S2.dF, fun a ha z => S2.dG a ha (u1 a z), S2.dP, fun a ha z => (s3 a z).elim (S2.dO a ha) fun w => S2.dG a ha w.1⟩, T3, q, l3, lr3, a2⟩
end
section
variable {X : Cx} {Γ : Gm} {U : WX} {L : Nat → Bool} {W : Wd} {ea eb ec : Expr} {a b c : E} {exs : List Expr} {es : List E} {pos pos' p kpos tpos : Pos} {st : Stmt} {sts sts2 : List Stmt} {s : S} {ss ss2 : List S} {t : T} {it : It}
theorem ss_while (hp : PassesOwn (model X.prog X.w) X.A X.env X.xe) (hc : ST X Γ U W ec c) (hb : SSs X Γ U L W sts ss) : SS X Γ U L W (.While ec sts [] pos) (.whil c ss) := PS.imp (ps_while hp hc hb) fun D σ H q => by
  rw [show evS W (.whil c ss) = loopW (evT W c) (evSs W ss) WF from funext fun e => by rw [evS]] at q
  refine ⟨fun n σ H => rdS X.K Γ U L (loopW (evT W c) (evSs W ss) n) D σ H, ⟨WF, q⟩, fun n σ H h => ?_⟩
  cases n with
  | zero =>
    obtain ⟨F, G, P, env, ow, R, k⟩ := h
    exact k.elim
  | succ n =>
    refine (rdS_test (pu := pureE c) (oa := evT W c) (k := fun k e1 => if k then (match evSs W ss e1 with
      | .ok .nx e2 => loopW (evT W c) (evSs W ss) n e2
      | .ok .ct e2 => loopW (evT W c) (evSs W ss) n e2
      | .ok .bk e2 => .ok .nx e2
      | .ok (.rt m) e2 => .ok (.rt m) e2
      | .exc c es e2 => .exc c es e2
      | .stuck => .stuck) else .ok .nx e1) h).mono fun b H1 hb => ?_
    cases b with
    | false =>
      rw [if_neg (by decide)]
      obtain ⟨F, G, P, env, ow, R, k⟩ := hb
      exact k σ H1 ⟨F, ow, R, .refl, .refl, .refl, .refl⟩
    | true =>
      rw [if_pos rfl]
      refine ⟨fun σ' H' => rdS X.K Γ U L (loopW (evT W c) (evSs W ss) n) D σ' H', fun σ' H' h => ⟨n, Nat.lt_succ_self n, h⟩, ?_⟩
      obtain ⟨F, G, P, env, ow, R, k⟩ := hb
      refine ⟨F, G, P, env, ow, R, ?_⟩
      simp only [if_true] at k
      cases he : evSs W ss env with
      | stuck => rw [he] at k; exact k
      | exc c ds e1 => rw [he] at k; exact k
      | ok f e1 =>
        rw [he] at k
        cases f with
        | nx => exact fun σ' H' ⟨F1, ow1, R1, T1, l1, lr1, a1⟩ => ⟨F1, G, P, e1, ow1, R1, OutS.after k T1 l1 lr1 a1⟩
        | ct => exact fun σ' H' ⟨F1, ow1, R1, T1, l1, lr1, a1⟩ => ⟨F1, G, P, e1, ow1, R1, OutS.after k T1 l1 lr1 a1⟩
        | bk => exact k
        | rt m => exact k
theorem ss_for {tg iter : Expr} (hp : PassesOwn (model X.prog X.w) X.A X.env X.xe) (hc : X.calm = true) (hi : SI X Γ U W tg iter it) (hg : SGt X Γ U L W tg t.tg) (hb : SSs X Γ U L W sts ss) (hs : ∀ x, foldedSetIterable iter X.env x = pure x := by intro _; rfl) :
    SS X Γ U L W (.For tg iter sts [] pos) (.forr t it ss) := PS.imp (ps_for hp hc hi hg hb hs) fun D σ H ⟨F, G, P, env, ow, R, k⟩ => by
  rw [evS] at k
  refine ⟨F, G, P, env, ow, R, ?_⟩
  cases he : evIt W it env with
  | stuck => simp only [he, Out.bind] at k; exact k
  | exc c ds e1 => simp only [he, Out.bind] at k; exact fun cls d H' x => k cls d σ H' x.toS
  | ok p e1 =>
    obtain ⟨ds, sh⟩ := p
    simp only [he, Out.bind] at k
    intro J H1 ⟨F1, G', ow1, R1, T1, un, hit⟩
    have k1 := OutS.opened un T1 k
    -- what holds before the i-th turn
    refine ⟨fun i m σ' H' => m = ds.length - i ∧ ∃ F' env' ow', Rst X.K Γ H' F' G' P env' σ' ow' ∧ (∀ a o, (F1 a ∨ G' a) → H1 a = some o → H' a = some o) ∧ (∀ a, F1 a → F' a) ∧ OutS X.K Γ U L H' F' G' P env' σ' ow' D (loopF (tset t) (evSs W ss) (ds.drop i) env'),
      ⟨ds.length, rfl, F1, e1, ow1, R1, fun _ _ _ h => h, fun _ h => h, k1⟩, fun i m σ' H' ⟨em, F', env', ow', R', kp, sb, k'⟩ => ?_⟩
    obtain ⟨hstop, hgo⟩ := hit i H' F' kp sb R'.iF
    cases hd : ds[i]? with
    | none =>
      refine .inl ⟨hstop hd, ?_⟩
      rw [List.drop_eq_nil_of_le (List.getElem?_eq_none_iff.mp hd)] at k'
      unfold loopF at k'
      exact k' σ' H' ⟨F', ow', R', .refl, .refl, .refl, .refl⟩
    | some d =>
      have hlt : i < ds.length := (List.getElem?_eq_some_iff.mp hd).1
      obtain ⟨h1, h2⟩ := hgo d hd
      refine .inr ⟨h1, fun σ2 H2 => ∃ m', m' < m ∧ m' = ds.length - (i + 1) ∧ ∃ F' env' ow', Rst X.K Γ H2 F' G' P env' σ2 ow' ∧ (∀ a o, (F1 a ∨ G' a) → H1 a = some o → H2 a = some o) ∧ (∀ a, F1 a → F' a) ∧ OutS X.K Γ U L H2 F' G' P env' σ2 ow' D (loopF (tset t) (evSs W ss) (ds.drop (i + 1)) env'), fun σ2 H2 ⟨m', l, e, q⟩ => ⟨m', l, e, q⟩, fun x H2 hy => ?_⟩
      obtain ⟨kp2, F2, sb2, nw2, iF2, hr⟩ := h2 x H2 hy
      have R2 : Rst X.K Γ H2 F2 G' P env' σ' ow' := R'.grow sb2 kp2 (fun a ha z => (nw2 a z).elim (R'.dF a ha) fun w => by obtain ⟨o, q⟩ := R'.has a ha; rw [q] at w; cases w) iF2
      have T2 : Stp H' F' ow' H2 F2 ow' := ⟨fun a o q _ => kp2 a o q, sb2, fun a h => (nw2 a h).imp id .inr, fun a h => .inl h⟩
      have ed : ds.drop i = d :: ds.drop (i + 1) := by
        rw [List.drop_eq_getElem_cons hlt]
        congr 1
        have := List.getElem?_eq_getElem hlt
        rw [hd] at this
        exact (Option.some.inj this).symm
      rw [ed] at k'
      unfold loopF at k'
      cases ht : tset t d env' with
      | none => rw [ht] at k'; exact k'.elim
      | some env2 =>
        rw [ht] at k'
        dsimp only at k'
        refine ⟨F2, G', P, env', ow', [], .fz d, R2, .nil, ⟨rfl, hr⟩, ?_⟩
        rw [List.append_nil, tgset_T.1 t d env', ht]
        intro σ3 H3 ⟨F3, ow3, R3, T3, l3, lr3, a3⟩
        refine ⟨F3, G', P, env2, ow3, R3, ?_⟩
        have k3 := OutS.after k' (T2.trans T3 fun _ h => h) l3 lr3 a3
        have again : ∀ e4, OutS X.K Γ U L H3 F3 G' P env2 σ3 ow3 D (loopF (tset t) (evSs W ss) (ds.drop (i + 1)) e4) → ∀ σ4 H4, ResS X.K Γ L H3 F3 G' P env2 σ3 ow3 e4 σ4 H4 →
            ∃ m', m' < m ∧ m' = ds.length - (i + 1) ∧ ∃ F' env' ow', Rst X.K Γ H4 F' G' P env' σ4 ow' ∧ (∀ a o, (F1 a ∨ G' a) → H1 a = some o → H4 a = some o) ∧ (∀ a, F1 a → F' a) ∧ OutS X.K Γ U L H4 F' G' P env' σ4 ow' D (loopF (tset t) (evSs W ss) (ds.drop (i + 1)) env') := fun e4 k4 σ4 H4 ⟨F4, ow4, R4, T4, l4, lr4, a4⟩ => by
          have T := (T2.trans T3 fun _ h => h).trans T4 fun _ h => h
          refine ⟨ds.length - (i + 1), by omega, rfl, F4, e4, ow4, R4, fun a o h q => ?_, fun a h => T.sub a (sb a h), OutS.after k4 T4 l4 lr4 a4⟩
          exact T.frame a o (kp a o h q) fun z => h.elim (fun w => R'.dF a z (sb a w)) (R'.dG a z)
        cases hb : evSs W ss env2 with
        | stuck => rw [hb] at k3; exact k3
        | exc c ds e4 => rw [hb] at k3; exact k3
        | ok f e4 =>
          rw [hb] at k3
          cases f with
          | nx => exact again e4 k3
          | ct => exact again e4 k3
          | bk => exact k3
          | rt m => exact k3
end
end Pv
/-! Pv: comprehensions. -/
namespace Pv
open PySem PySem.Spec PyProof.Rows L2
section
variable {K : PySem.W.Frag} {Γ : Gm} {U : WX} {L : Nat → Bool} {H H' H1 H2 : Hp} {F F' F1 F2 G G' P : AP} {e e' e1 e2 env : Env} {σ σ' σ1 σ2 : L2.St} {ow ow' ow1 ow2 fp fr : List Addr} {r : RV} {m : M} {v x : V}
theorem at_out {e : Env} {i : Nat} (h : e.length ≤ i) : e.at i = .no := by
  unfold Env.at
  rw [List.getD_eq_getElem?_getD, List.getElem?_eq_none h]
  rfl
theorem len_wipeE : ∀ (vs : List Nat) (e : Env), (wipeE vs e).length = e.length
  | [], e => rfl
  | i :: is, e => by show ((wipeE is e).set i .no).length = _; rw [List.length_set, len_wipeE is e]
theorem at_wipeE : ∀ (vs : List Nat) (e : Env) (j : Nat), (wipeE vs e).at j = if vs.contains j then .no else e.at j
  | [], e, j => rfl
  | i :: is, e, j => by
    show Env.at ((wipeE is e).set i .no) j = _
    by_cases h : i = j
    · subst h
      by_cases l : i < (wipeE is e).length
      · rw [at_set_self l, if_pos (by simp)]
      · rw [if_pos (by simp)]
        have : ((wipeE is e).set i .no).length ≤ i := by rw [List.length_set]; omega
        exact at_out this
    · rw [at_set_ne h, at_wipeE is e j]
      have : (i :: is).contains j = is.contains j := by
        rw [List.contains_cons]
        have : (j == i) = false := by simpa using fun z => h z.symm
        rw [this, Bool.false_or]
      rw [this]
theorem plain_wipe {vs : List Nat} {e : Env} {j : Nat} (h : plainAt e j = true) : plainAt (wipeE vs e) j = true := by
  have q : (wipeE vs e).at j = .no ∨ (wipeE vs e).at j = e.at j := by
    rw [at_wipeE]
    by_cases c : vs.contains j = true
    · rw [if_pos c]; exact .inl rfl
    · rw [if_neg c]; exact .inr rfl
  unfold plainAt at h ⊢
  rcases q with q | q
  · rw [q]
  · rw [q]; exact h
theorem RepMs.app {w : Bool} : ∀ {ms ns : List M} {vs ws : List V} {f g : List Addr}, RepMs K Γ w H F ms vs f → RepMs K Γ w H F ns ws g → RepMs K Γ w H F (ms ++ ns) (vs ++ ws) (f ++ g)
  | [], _, _, _, _, _, ⟨e1, e2⟩, h => by rw [e1, e2]; exact h
  | m :: ms, _, _, _, _, _, ⟨v, r, f1, f2, e1, e2, h1, h2⟩, h => ⟨v, r ++ _, f1, f2 ++ _, by rw [e1]; rfl, by rw [e2, List.append_assoc], h1, RepMs.app h2 h⟩
theorem Rst.wipes : ∀ {vs : List Nat}, Rst K Γ H F G P e σ ow → vs.all (plainAt e) = true → Rst K Γ H F G P (wipeE vs e) (wipe σ vs) ow
  | [], R, _ => R
  | i :: is, R, h => by
    rw [List.all_cons, Bool.and_eq_true] at h
    have R1 := Rst.wipes (vs := is) R h.2
    exact ⟨R1.rep.wipe none (plain_wipe h.1), R1.nd, R1.dF, R1.dG, R1.dP, R1.iF, R1.iG, R1.iP⟩
theorem len_put {i : Nat} (h : e.put i m = some e') : e'.length = e.length := by
  unfold Env.put at h
  split at h
  · cases h
  · cases h; rw [List.length_set]
theorem len_backE : ∀ (vs : List Nat) (o e : Env), (backE o vs e).length = e.length
  | [], o, e => rfl
  | i :: is, o, e => by show ((backE o is e).set i _).length = _; rw [List.length_set, len_backE is o e]
theorem at_backE : ∀ (vs : List Nat) (o e : Env) (j : Nat), o.length = e.length → (backE o vs e).at j = if vs.contains j then o.at j else e.at j
  | [], o, e, j, _ => rfl
  | i :: is, o, e, j, hl => by
    show Env.at ((backE o is e).set i (o.at i)) j = _
    by_cases h : i = j
    · subst h
      rw [if_pos (by simp)]
      by_cases l : i < (backE o is e).length
      · rw [at_set_self l]
      · have l2 : o.length ≤ i := by rw [len_backE] at l; omega
        have : ((backE o is e).set i (o.at i)).length ≤ i := by rw [List.length_set]; omega
        rw [at_out this, at_out l2]
    · rw [at_set_ne h, at_backE is o e j hl]
      have : (i :: is).contains j = is.contains j := by
        rw [List.contains_cons]
        have : (j == i) = false := by simpa using fun z => h z.symm
        rw [this, Bool.false_or]
      rw [this]
def backσ (σ0 : L2.St) : List Nat → L2.St → L2.St
  | [], σ => σ
  | i :: is, σ => (backσ σ0 is σ).set i ((σ0[i]?).getD none)
/-- the slots of the block come back -/
theorem Rst.backs {H0 : Hp} {F0 G0 : AP} {e0 : Env} {σ0 : L2.St} {ow0 : List Addr} (x : Ext H0 H F0 F) (R0 : RepEnv K Γ H0 F0 G0 e0 σ0 ow0) (hl : e0.length = e.length) : ∀ {vs : List Nat}, Rst K Γ H F G P e σ ow → (∀ i ∈ vs, e.at i = .no) → vs.all (plainAt e0) = true → vs.Nodup →
    Rst K Γ H F G P (backE e0 vs e) (backσ σ0 vs σ) ow
  | [], R, _, _, _ => R
  | i :: is, R, hn, h, nd => by
    rw [List.all_cons, Bool.and_eq_true] at h
    rw [List.nodup_cons] at nd
    have R1 := Rst.backs x R0 hl (vs := is) R (fun j hj => hn j (List.mem_cons_of_mem _ hj)) h.2 nd.2
    have e1 : (backE e0 is e).at i = .no := by
      rw [at_backE _ _ _ _ hl, if_neg (by simpa using nd.1)]
      exact hn i List.mem_cons_self
    by_cases l : i < (backE e0 is e).length
    · exact ⟨R1.rep.unwipe R0 e1 l h.1 x, R1.nd, R1.dF, R1.dG, R1.dP, R1.iF, R1.iG, R1.iP⟩
    · have q1 : (backE e0 is e).set i (e0.at i) = backE e0 is e := List.set_eq_of_length_le (by omega)
      have q2 : (backσ σ0 is σ).set i ((σ0[i]?).getD none) = backσ σ0 is σ := List.set_eq_of_length_le (by rw [← R1.rep.len]; omega)
      show Rst K Γ H F G P ((backE e0 is e).set i (e0.at i)) ((backσ σ0 is σ).set i ((σ0[i]?).getD none)) ow
      rw [q1, q2]
      exact R1
theorem len_backσ : ∀ (vs : List Nat) (σ0 σ : L2.St), (backσ σ0 vs σ).length = σ.length
  | [], _, _ => rfl
  | i :: is, σ0, σ => by show ((backσ σ0 is σ).set i _).length = _; rw [List.length_set, len_backσ is σ0 σ]
theorem backσ_get : ∀ (vs : List Nat) (σ τ : L2.St) (j : Nat), τ.length = σ.length → (backσ σ vs τ)[j]? = if vs.contains j then σ[j]? else τ[j]?
  | [], σ, τ, j, _ => rfl
  | i :: is, σ, τ, j, hl => by
    show ((backσ σ is τ).set i ((σ[i]?).getD none))[j]? = _
    by_cases h : i = j
    · subst h
      rw [if_pos (by simp)]
      by_cases l : i < σ.length
      · rw [List.getElem?_set_self (by rw [len_backσ, hl]; exact l), List.getElem?_eq_getElem l]; rfl
      · rw [List.getElem?_eq_none (by rw [List.length_set, len_backσ, hl]; omega), List.getElem?_eq_none (by omega)]
    · rw [List.getElem?_set_ne h, backσ_get is σ τ j hl]
      have : (i :: is).contains j = is.contains j := by
        rw [List.contains_cons]
        have : (j == i) = false := by simpa using fun z => h z.symm
        rw [this, Bool.false_or]
      rw [this]
theorem back_wipe (vs : List Nat) (σ : L2.St) : backσ σ vs (wipe σ vs) = σ := by
  apply List.ext_getElem?
  intro j
  rw [backσ_get vs σ _ j (wipe_length σ vs)]
  by_cases h : j ∈ vs
  · rw [if_pos (by simpa using h)]
  · rw [if_neg (by simpa using h), wipe_out h]
/-- what a turn may set: the slots of the block -/
theorem wipe_ak {vs : List Nat} {τ σ : L2.St} (l : τ.length = (wipe σ vs).length) (h : AK (fun i => vs.contains i) (wipe σ vs) τ) : wipe τ vs = wipe σ vs := by
  have key : ∀ (ws : List Nat) (α β : L2.St), α.length = β.length → (∀ j, j ∉ ws → α[j]? = β[j]?) → wipe α ws = wipe β ws := by
    intro ws
    intro α β hl hj
    apply List.ext_getElem?
    intro j
    by_cases q : j ∈ ws
    · have z : ∀ γ : L2.St, γ.length = β.length → (wipe γ ws)[j]? = if j < β.length then some none else none := by
        intro γ hγ
        clear hj hl
        induction ws with
        | nil => cases q
        | cons w ws ih =>
          show ((wipe γ ws).set w none)[j]? = _
          by_cases e : w = j
          · subst e
            by_cases c : w < β.length
            · rw [if_pos c, List.getElem?_set_self (by rw [wipe_length, hγ]; exact c)]
            · rw [if_neg c, List.getElem?_eq_none (by rw [List.length_set, wipe_length, hγ]; omega)]
          · rw [List.getElem?_set_ne e]
            exact ih ((List.mem_cons.mp q).resolve_left fun z => e z.symm)
      rw [z α hl, z β rfl]
    · rw [wipe_out q, wipe_out q]
      exact hj j q
  rw [key vs τ (wipe σ vs) l fun j hj => h j (by simpa using hj)]
  exact key vs _ σ (wipe_length σ vs) fun j hj => wipe_out hj
end
end Pv
/-! Pv: comprehensions, the rule. -/
namespace Pv
open PySem PySem.Spec PyProof.Rows L2
section
variable {K : PySem.W.Frag} {Γ : Gm} {U : WX} {L : Nat → Bool} {H H' H1 H2 : Hp} {F F' F1 F2 G G' P : AP} {e e' e1 e2 env : Env} {σ σ' σ1 σ2 : L2.St} {ow ow' ow1 ow2 fp fr : List Addr} {r : RV} {m : M} {v x : V}
theorem Sep.after (S : Sep H F G P ow fp) (T : Stp H F ow H' F' ow') : Sep H' F' G P ow' fp := by
  have h1 : ∀ a ∈ fp, ¬ F' a := fun a h z => by
    rcases T.new a z with w | w | w
    · exact S.dF a h w
    · exact S.dO a h w
    · obtain ⟨o, q⟩ := S.has a h
      rw [q] at w
      cases w
  have h2 : ∀ a ∈ fp, a ∉ ow' := fun a h z => by
    rcases T.own a z with w | w
    · exact S.dO a h w
    · obtain ⟨o, q⟩ := S.has a h
      rw [q] at w
      cases w
  exact ⟨S.nd, fun a h => let ⟨o, q⟩ := S.has a h; ⟨o, T.frame a o q (S.dO a h)⟩, h1, S.dG, S.dP, h2⟩
theorem Rst.upd {d : Addr} {o : HO} (R : Rst K Γ H F G P e σ ow) (nF : ¬ F d) (nG : ¬ G d) (nP : ¬ P d) (nO : d ∉ ow) : Rst K Γ (upd H d o) F G P e σ ow := by
  have k : ∀ a u, a ≠ d → H a = some u → L2.upd H d o a = some u := fun a u n q => by rw [upd_ne n]; exact q
  have nf : ∀ a, F a → a ≠ d := fun a h z => by subst z; exact nF h
  have ng : ∀ a, G a → a ≠ d := fun a h z => by subst z; exact nG h
  have np : ∀ a, P a → a ≠ d := fun a h z => by subst z; exact nP h
  have no : ∀ a, a ∈ ow → a ≠ d := fun a h z => by subst z; exact nO h
  exact ⟨R.rep.ext (.of (fun _ h => h) fun a u f q => k a u (nf a f) q) (fun a u h q => k a u (no a h) q) fun a u g q => .inl (k a u (ng a g) q), R.nd, R.dF, R.dG, R.dP, fun a h => let ⟨u, q⟩ := R.iF a h; ⟨u, k a u (nf a h) q⟩, fun a h => let ⟨u, q⟩ := R.iG a h; ⟨u, k a u (ng a h) q⟩, fun a h => let ⟨u, q⟩ := R.iP a h; ⟨u, k a u (np a h) q⟩⟩
theorem len_tset : (∀ (t : T) (d : D) (e e' : Env), tset t d e = some e' → e'.length = e.length) := by
  intro t
  exact T.rec (motive_1 := fun t => ∀ (d : D) (e e' : Env), tset t d e = some e' → e'.length = e.length) (motive_2 := fun ts => ∀ (ds : List D) (e e' : Env), tsets ts ds e = some e' → e'.length = e.length)
    (fun i d e e' h => by simp only [tset] at h; exact len_put h)
    (fun ts ih d e e' h => by
      simp only [tset] at h
      cases d with
      | tup ds => exact ih ds e e' h
      | _ => cases h)
    (fun ds e e' h => by cases ds with | nil => simp [tsets] at h; rw [h] | cons d ds => simp [tsets] at h)
    (fun t ts i1 i2 ds e e' h => by
      cases ds with
      | nil => simp [tsets] at h
      | cons d ds =>
        simp only [tsets] at h
        cases z : tset t d e with
        | none => rw [z] at h; cases h
        | some e1 => rw [z] at h; exact (i2 ds e1 e' h).trans (i1 d e e1 z)) t
/-- no exception leaves -/
def FW : WX := fun _ _ _ _ => False
theorem nox_ok {α : Type} {o : Out α} {a : α} {e : Env} (h : o.nox = .ok a e) : o = .ok a e := by
  cases o with
  | ok b e' => exact h
  | exc c ds e' => cases h
  | stuck => cases h
end
section
variable {X : Cx} {Γ : Gm} {U : WX} {L : Nat → Bool} {W : Wd} {ea eb ec : Expr} {a b c : E} {pos : Pos} {t : T} {it : It} {ifs : List Expr} {cs : List E}
abbrev STs (X : Cx) (Γ : Gm) (U : WX) (W : Wd) (ifs : List Expr) (cs : List E) : Prop := PTs X ifs (rdT X.K Γ U (evTs W cs) false)
theorem sts_nil : STs X Γ U W [] [] := ⟨fun pins s σ H Q I h => pts_nil.run pins s σ H Q I (rdT_ret (by rw [show evTs W [] = fun e => Out.ok true e from funext fun e => by rw [evTs]] at h; exact h))⟩
theorem sts_one (h : ST X Γ U W ec c) : STs X Γ U W [ec] [c] := ⟨fun pins s σ H Q I q => (pts_one h).run pins s σ H Q I (by
  rw [show evTs W [c] = evT W c from funext fun e => by
    rw [evTs]
    show (evT W c e).bind _ = _
    cases evT W c e with
    | stuck => rfl
    | exc c ds e1 => rfl
    | ok b e1 =>
      simp only [Out.bind, evTs]
      cases b <;> rfl] at q
  obtain ⟨F, G, P, env, ow, R, k⟩ := q
  refine ⟨F, G, P, env, ow, R, ?_⟩
  cases he : evT W c env with
  | stuck => rw [he] at k; exact k
  | exc c ds e1 => rw [he] at k; exact k
  | ok b e1 => rw [he] at k; exact fun H' x _ => k H' x fun z => nomatch z)⟩
theorem rd_lc {K : PySem.W.Frag} {vs : List Nat} {el : E} {σ : L2.St} {H : Hp} {Q : VK} (hnd : vs.Nodup) (q : rdE K Γ U (evE W (.lc vs t it cs el)) false σ H Q) :
    tLc (rdI K Γ U (evIt W it)) (rdG K Γ FW (fun i => vs.contains i) (tgset W t.tg)) (rdT K Γ FW (evTs W cs) false) (rdE K Γ FW (evE W el) (pureE el)) vs σ H Q := by
  obtain ⟨F, G, P, env, ow, R, k⟩ := q
  rw [evE] at k
  refine ⟨F, G, P, env, ow, R, ?_⟩
  cases hev : evIt W it env with
  | stuck => simp only [hev, Out.bind] at k; exact k
  | exc c ds e1 => simp only [hev, Out.bind] at k; exact k
  | ok p e1 =>
    obtain ⟨ds, sh⟩ := p
    simp only [hev, Out.bind] at k
    intro J H1 ⟨F1, G', ow1, R1, T1, un, hit⟩ Dd hD
    generalize hst : (fun (d : D) (e : Env) => if vs.all (plainAt e) = true then tset t d (wipeE vs e) else none) = st at k
    generalize htt : (fun e => (evTs W cs e).nox) = tt at k
    generalize hel : (fun e => (evE W el e).nox) = ee at k
    generalize hR : loopC st tt ee ds [] e1 = res at k
    have kp0 : ∀ a o, H1 a = some o → upd H1 Dd (.lst []) a = some o := fun a o q => by rw [upd_ne (ne_of_none q hD)]; exact q
    have nD : ∀ {Z : Addr → Prop}, (∀ a, Z a → ∃ o, H1 a = some o) → ¬ Z Dd := fun hz z => by obtain ⟨o, q⟩ := hz _ z; rw [hD] at q; cases q
    let INV : Nat → Hp → Prop := fun i H' => ∃ F' env' σ' ow' acc ms fa, Rst K Γ H' F' G' P env' σ' ow' ∧ wipe σ' vs = wipe σ vs ∧ σ'.length = σ.length ∧ Sep H' F' G' P ow' (Dd :: fa) ∧ H' Dd = some (.lst acc) ∧ RepMs K Γ true H' F' ms acc fa ∧
      Stp H1 F1 ow1 H' F' (ow' ++ (Dd :: fa)) ∧ (∀ j m, vs.contains j = false → e1.at j = .ok m false → env'.at j = .ok m false) ∧ (∀ j m, vs.contains j = false → env'.at j = .ok m false → e1.at j = .ok m false) ∧ loopC st tt ee (ds.drop i) ms env' = res
    refine ⟨fun i m H' => m = ds.length - i ∧ INV i H', ⟨ds.length, rfl, F1, e1, σ, ow1, [], [], [], R1.kept kp0, rfl, rfl, ⟨by simp, fun a h => ?_, fun a h => ?_, fun a h => ?_, fun a h => ?_, fun a h => ?_⟩, upd_same, ⟨rfl, rfl⟩, ⟨fun a o q _ => kp0 a o q, fun _ h => h, fun _ h => .inl h, fun a h => ?_⟩, fun _ _ _ h => h, fun _ _ _ h => h, by rw [List.drop_zero]; exact hR⟩, fun i m H' ⟨em, F', env', σ', ow', acc, ms, fa, R', hw, hlen, S', hDd, hms, T', lk, lr, hres⟩ => ?_⟩
    · rw [List.mem_singleton] at h; subst h; exact ⟨_, upd_same⟩
    · rw [List.mem_singleton] at h; subst h; exact nD R1.iF
    · rw [List.mem_singleton] at h; subst h; exact nD R1.iG
    · rw [List.mem_singleton] at h; subst h; exact nD R1.iP
    · rw [List.mem_singleton] at h; subst h; exact nD R1.has
    · rcases List.mem_append.mp h with h | h
      · exact .inl h
      · rw [List.mem_singleton] at h; subst h; exact .inr hD
    have kp : ∀ a o, (F1 a ∨ G' a) → H1 a = some o → H' a = some o := fun a o h q => T'.frame a o q fun z => h.elim (R1.dF a z) (R1.dG a z)
    obtain ⟨hstop, hgo⟩ := hit i H' F' kp T'.sub R'.iF
    cases hd : ds[i]? with
    | none =>
      refine .inl ⟨hstop hd, ?_⟩
      rw [List.drop_eq_nil_of_le (List.getElem?_eq_none_iff.mp hd)] at hres
      unfold loopC at hres
      rw [← hres] at k
      dsimp only at k
      by_cases hpl : (vs.all (plainAt env') && vs.all (plainAt e1)) = true
      · rw [if_pos hpl] at k
        rw [Bool.and_eq_true] at hpl
        have hl1 : e1.length = (wipeE vs env').length := by rw [len_wipeE, R1.rep.len, R'.rep.len, hlen]
        have Rw := R'.wipes hpl.1
        rw [hw] at Rw
        have T'' := T'.less fun x hx => List.mem_append_left _ hx
        have Rb := Rst.backs (R1.ext T'') R1.rep hl1 Rw (fun j hj => by rw [at_wipeE, if_pos (by simpa using hj)]) hpl.2 hnd
        rw [back_wipe] at Rb
        have hat : ∀ j, (backE e1 vs (wipeE vs env')).at j = if vs.contains j then e1.at j else env'.at j := fun j => by
          rw [at_backE _ _ _ _ hl1, at_wipeE]
          by_cases q : vs.contains j = true
          · rw [if_pos q, if_pos q]
          · rw [if_neg q, if_neg q, if_neg q]
        obtain ⟨u1, u2, u3⟩ := un
        obtain ⟨ow3, R3, s3, l3, lr3⟩ := u3 H' F' _ σ ow' Rb T'' (fun j m' q => by
          rw [hat]
          by_cases z : vs.contains j = true
          · rw [if_pos z]; exact q
          · rw [if_neg z]; exact lk j m' (by simpa using z) q) fun j m' q => by
          rw [hat] at q
          by_cases z : vs.contains j = true
          · rw [if_pos z] at q; exact ⟨q, rfl⟩
          · rw [if_neg z] at q; exact ⟨lr j m' (by simpa using z) q, rfl⟩
        have T := T1.trans T' fun _ h => h
        refine k (.ref Dd) H' ⟨F', ow3, Dd :: fa, R3, ⟨S'.nd, S'.has, S'.dF, fun a ha z => S'.dG a ha (u1 a z), S'.dP, fun a ha z => (s3 a z).elim (S'.dO a ha) fun w => S'.dG a ha w.1⟩, ⟨T.frame, T.sub, T.new, fun a ha => ?_⟩, ?_, l3, lr3⟩ fun z => nomatch z
        · rcases List.mem_append.mp ha with ha | ha
          · rcases s3 a ha with z | ⟨z, n⟩
            · exact T.own a (List.mem_append_left _ z)
            · exact (u2 a z).elim (fun w => absurd w n) id
          · exact T.own a (List.mem_append_right _ ha)
        · show RepM K Γ true H' F' (.lst ms) (.ref Dd) (Dd :: fa)
          exact ⟨Dd, acc, fa, rfl, rfl, hDd, hms⟩
      · rw [if_neg hpl] at k; exact k.elim
    | some d =>
      have hlt : i < ds.length := (List.getElem?_eq_some_iff.mp hd).1
      obtain ⟨h1, h2⟩ := hgo d hd
      refine .inr ⟨h1, fun H2 => ∃ m', m' < m ∧ m' = ds.length - (i + 1) ∧ INV (i + 1) H2, fun H2 ⟨m', l, e, q⟩ => ⟨m', l, e, q⟩, fun x H2 hy => ?_⟩
      obtain ⟨kp2, F2, sb2, nw2, iF2, hr⟩ := h2 x H2 hy
      have new2 : ∀ a, F2 a → F' a ∨ H' a = none := nw2
      have dis : ∀ a, (∃ o, H' a = some o) → ¬ F' a → ¬ F2 a := fun a ⟨o, q⟩ n z => (new2 a z).elim n fun w => by rw [q] at w; cases w
      have R2 : Rst K Γ H2 F2 G' P env' σ' ow' := R'.grow sb2 kp2 (fun a ha => dis a (R'.has a ha) (R'.dF a ha)) iF2
      have S2 : Sep H2 F2 G' P ow' (Dd :: fa) := ⟨S'.nd, fun a ha => let ⟨o, q⟩ := S'.has a ha; ⟨o, kp2 a o q⟩, fun a ha => dis a (S'.has a ha) (S'.dF a ha), S'.dG, S'.dP, S'.dO⟩
      have ed : ds.drop i = d :: ds.drop (i + 1) := by
        rw [List.drop_eq_getElem_cons hlt]
        congr 1
        have := List.getElem?_eq_getElem hlt
        rw [hd] at this
        exact (Option.some.inj this).symm
      rw [ed] at hres
      unfold loopC at hres
      have bad : ∀ {Z : Prop}, res = .stuck → Z := fun z => by rw [z] at k; exact k.elim
      have hst2 : st d env' = if vs.all (plainAt env') = true then tset t d (wipeE vs env') else none := by rw [← hst]
      cases hpl : vs.all (plainAt env') with
      | false => rw [hpl, if_neg (by decide)] at hst2; rw [hst2] at hres; exact bad hres.symm
      | true =>
        rw [hpl, if_pos rfl] at hst2
        rw [hst2] at hres
        have Rw := (R2.wipes hpl).push S2
        rw [hw] at Rw
        refine ⟨F2, G', _, wipeE vs env', ow', [], .fz d, Rw, .nil, ⟨rfl, hr⟩, ?_⟩
        rw [List.append_nil, tgset_T.1 t d]
        cases hts : tset t d (wipeE vs env') with
        | none => rw [hts] at hres; exact bad hres.symm
        | some env2 =>
          rw [hts] at hres
          dsimp only at hres
          intro σ3 H3 ⟨F3, ow3, R3, T3, l3, lr3, a3⟩
          have hl3 : σ3.length = (wipe σ vs).length := by rw [← R3.rep.len, len_tset t d _ _ hts, len_wipeE, R'.rep.len, hlen, wipe_length]
          have hw3 := wipe_ak hl3 a3
          refine ⟨hw3, F3, G', _, env2, ow3, R3, ?_⟩
          have htt2 : tt env2 = (evTs W cs env2).nox := by rw [← htt]
          cases hb : evTs W cs env2 with
          | stuck => rw [htt2, hb] at hres; exact bad hres.symm
          | exc c ds e3 => rw [htt2, hb] at hres; exact bad hres.symm
          | ok bb e3 =>
            rw [htt2, hb] at hres
            simp only [Out.nox, Out.bind] at hres
            intro H4 ⟨F4, ow4, R4, T4, l4, lr4⟩ _
            -- what stands at the end of a turn
            have at3 : ∀ j m', vs.contains j = false → env'.at j = .ok m' false → e3.at j = .ok m' false := fun j m' z q => l4 j m' (l3 j m' (by rw [at_wipeE, if_neg (by rw [z]; decide)]; exact q))
            have at3' : ∀ j m', vs.contains j = false → e3.at j = .ok m' false → env'.at j = .ok m' false := fun j m' z q => by
              have := (lr3 j m' (lr4 j m' q).1).1
              rw [at_wipeE, if_neg (by rw [z]; decide)] at this
              exact this
            have T2 : Stp H' F' (ow' ++ (Dd :: fa)) H2 F2 (ow' ++ (Dd :: fa)) := ⟨fun a o q _ => kp2 a o q, sb2, fun a h => (nw2 a h).imp id .inr, fun a h => .inl h⟩
            have T24 : Stp H2 F2 ow' H4 F4 ow4 := T3.trans T4 fun _ h => h
            have S4 : Sep H4 F4 G' P ow4 (Dd :: fa) := S2.after T24
            have k24 : ∀ a o, a ∈ Dd :: fa → H' a = some o → H4 a = some o := fun a o ha q => T24.frame a o (kp2 a o q) (S2.dO a ha)
            have T44 : Stp H2 F2 (ow' ++ (Dd :: fa)) H4 F4 (ow4 ++ (Dd :: fa)) := ⟨fun a o q n => T24.frame a o q fun z => n (List.mem_append_left _ z), T24.sub, fun a h => (T24.new a h).imp id fun w => w.imp (List.mem_append_left _) id, fun a h => by
              rcases List.mem_append.mp h with h | h
              · exact (T24.own a h).imp (List.mem_append_left _) id
              · exact .inl (List.mem_append_right _ h)⟩
            have TT : Stp H1 F1 ow1 H4 F4 (ow4 ++ (Dd :: fa)) := (T'.trans T2 fun _ h => h).trans T44 fun _ h => h
            have ext4 : Ext H' H4 F' F4 := .of (fun a h => T24.sub a (sb2 a h)) fun a o f q => T24.frame a o (kp2 a o q) fun z => R'.dF a z f
            have hms4 : RepMs K Γ true H4 F4 ms acc fa := hms.ext ext4 (.of fun a o ha q => k24 a o (List.mem_cons_of_mem _ ha) q)
            have hw4 : σ3.length = σ.length := by rw [hl3, wipe_length]
            cases bb with
            | false =>
              rw [if_neg (by decide)]
              simp only [Bool.false_eq_true, if_false] at hres
              exact ⟨ds.length - (i + 1), by omega, rfl, F4, e3, σ3, ow4, acc, ms, fa, R4.pop fun a h => .inl h, hw3, hw4, S4, k24 Dd _ List.mem_cons_self hDd, hms4, TT, fun j m' z q => at3 j m' z (lk j m' z q), fun j m' z q => lr j m' z (at3' j m' z q), hres⟩
            | true =>
              rw [if_pos rfl]
              simp only [if_true] at hres
              refine ⟨F4, G', _, e3, ow4, R4, ?_⟩
              have hel2 : ee e3 = (evE W el e3).nox := by rw [← hel]
              cases he5 : evE W el e3 with
              | stuck => rw [hel2, he5] at hres; exact bad hres.symm
              | exc c ds e5 => rw [hel2, he5] at hres; exact bad hres.symm
              | ok r e5 =>
                rw [hel2, he5] at hres
                simp only [Out.nox] at hres
                intro y H5 ⟨F5, ow5, fy, R5, S5, T5, q5, l5, lr5⟩ _
                cases hsto : r.sto with
                | none => rw [hsto] at hres; exact bad hres.symm
                | some my =>
                  rw [hsto] at hres
                  dsimp only at hres
                  by_cases hlen5 : ms.length < 16777216
                  · rw [if_pos (by simpa using hlen5)] at hres
                    have T5' := T5.less (ow1' := ow5) fun x hx => List.mem_append_left _ hx
                    have S45 : Sep H5 F5 G' P ow5 (Dd :: fa) := S4.after T5'
                    have k5 : ∀ a o, a ∈ Dd :: fa → H4 a = some o → H5 a = some o := fun a o ha q => T5.frame a o q (S4.dO a ha)
                    have hD5 : H5 Dd = some (.lst acc) := k5 Dd _ List.mem_cons_self (k24 Dd _ List.mem_cons_self hDd)
                    refine ⟨acc, hD5, by rw [← hms4.len, sizeLine_val]; exact hlen5, ds.length - (i + 1), by omega, rfl, F5, e5, σ3, ow5, acc ++ [y], ms ++ [my], fa ++ fy, ?_, hw3, hw4, ?_, upd_same, ?_, ?_, fun j m' z q => l5 j m' (at3 j m' z (lk j m' z q)), fun j m' z q => lr j m' z (at3' j m' z (lr5 j m' q).1), hres⟩
                    · exact (R5.pop fun a h => .inl h).upd (S45.dF _ List.mem_cons_self) (S45.dG _ List.mem_cons_self) (S45.dP _ List.mem_cons_self) (S45.dO _ List.mem_cons_self)
                    · -- the new list with its items
                      have kf : ∀ a, a ∈ fa → a ≠ Dd := fun a ha z => by subst z; exact (List.nodup_cons.mp S'.nd).1 ha
                      have ky : ∀ a, a ∈ fy → a ∉ Dd :: fa := fun a ha z => S5.dP a ha (.inr z)
                      have up : ∀ a o, a ≠ Dd → H5 a = some o → upd H5 Dd (.lst (acc ++ [y])) a = some o := fun a o n q => by rw [upd_ne n]; exact q
                      refine ⟨?_, fun a ha => ?_, fun a ha => ?_, fun a ha => ?_, fun a ha => ?_, fun a ha => ?_⟩
                      · rw [← List.cons_append]
                        exact List.nodup_append.mpr ⟨S'.nd, S5.nd, fun a ha b hb z => by subst z; exact ky a hb ha⟩
                      all_goals rw [← List.cons_append] at ha
                      · by_cases z : a = Dd
                        · subst z; exact ⟨_, upd_same⟩
                        · rcases List.mem_append.mp ha with h | h
                          · obtain ⟨o, q⟩ := S45.has a h; exact ⟨o, up a o z q⟩
                          · obtain ⟨o, q⟩ := S5.has a h; exact ⟨o, up a o z q⟩
                      · exact (List.mem_append.mp ha).elim (S45.dF a) (S5.dF a)
                      · exact (List.mem_append.mp ha).elim (S45.dG a) (S5.dG a)
                      · exact (List.mem_append.mp ha).elim (S45.dP a) fun h z => S5.dP a h (.inl z)
                      · exact (List.mem_append.mp ha).elim (S45.dO a) (S5.dO a)
                    · have kf : ∀ a, a ∈ fa → a ≠ Dd := fun a ha z => by subst z; exact (List.nodup_cons.mp S'.nd).1 ha
                      have ky : ∀ a, a ∈ fy → a ≠ Dd := fun a ha z => by subst z; exact S5.dP _ ha (.inr List.mem_cons_self)
                      have nF5 : ¬ F5 Dd := S45.dF Dd List.mem_cons_self
                      have xt : Ext H5 (upd H5 Dd (.lst (acc ++ [y]))) F5 F5 := .of (fun _ h => h) fun a o f q => by
                        have n : a ≠ Dd := fun z => by subst z; exact nF5 f
                        rw [upd_ne n]; exact q
                      have hms5 : RepMs K Γ true H5 F5 ms acc fa := hms4.ext (R4.ext T5') (.of fun a o ha q => k5 a o (List.mem_cons_of_mem _ ha) q)
                      refine RepMs.app (hms5.ext xt (.of fun a o ha q => by rw [upd_ne (kf a ha)]; exact q)) ⟨y, [], fy, [], rfl, by simp, (q5.sto hsto).ext xt (.of fun a o ha q => by rw [upd_ne (ky a ha)]; exact q), rfl, rfl⟩
                    · have T45 : Stp H4 F4 (ow4 ++ (Dd :: fa)) (upd H5 Dd (.lst (acc ++ [y]))) F5 (ow5 ++ (Dd :: (fa ++ fy))) := by
                        refine ⟨fun a o q n => ?_, T5.sub, fun a h => (T5.new a h).imp id fun w => w.imp (List.mem_append_left _) id, fun a h => ?_⟩
                        · have n1 : a ≠ Dd := fun z => n (List.mem_append_right _ (by rw [z]; exact List.mem_cons_self))
                          rw [upd_ne n1]
                          exact T5.frame a o q fun z => n (List.mem_append_left _ z)
                        · rcases List.mem_append.mp h with h | h
                          · exact (T5.own a (List.mem_append_left _ h)).imp (List.mem_append_left _) id
                          · rw [← List.cons_append] at h
                            rcases List.mem_append.mp h with h | h
                            · exact .inl (List.mem_append_right _ h)
                            · exact (T5.own a (List.mem_append_right _ h)).imp (List.mem_append_left _) id
                      exact TT.trans T45 fun _ h => h
                  · rw [if_neg (by simpa using hlen5)] at hres; exact bad hres.symm
theorem se_lc {elt tg iter : Expr} {scope : Scope} {own : List (Str × Nat)} {el : E} (hc : X.calm = true) (hN : X.N.Nodup) (hi : SI X Γ U W tg iter it) (ok : BlkOk X.N X.env.scope scope own)
    (hg : ∀ (s : Shared) (H : Hp) (C : Addr) (cl : List (Str × Addr)) (fp : List Addr), SGt (X.blk s H scope (compEnvC scope cl C X.env) fp) Γ FW (fun i => (own.map (·.2)).contains i) W tg t.tg)
    (ht : ∀ (s : Shared) (H : Hp) (C : Addr) (cl : List (Str × Addr)) (fp : List Addr), STs (X.blk s H scope (compEnvC scope cl C X.env) fp) Γ FW W ifs cs)
    (he : ∀ (s : Shared) (H : Hp) (C : Addr) (cl : List (Str × Addr)) (fp : List Addr), SE (X.blk s H scope (compEnvC scope cl C X.env) fp) Γ FW W elt el)
    (hnd : (own.map (·.2)).Nodup) (hs : ∀ x, foldedSetIterable iter X.env x = pure x := by intro _; rfl) : SE X Γ U W (.ListComp elt [⟨tg, iter, ifs, 0⟩] scope pos) (.lc (own.map (·.2)) t it cs el) :=
  PE.imp (pe_lc (g := rdG X.K Γ FW (fun i => (own.map (·.2)).contains i) (tgset W t.tg)) (tt := rdT X.K Γ FW (evTs W cs) false) (te := rdE X.K Γ FW (evE W el) (pureE el)) hc hN hi ok hg ht he hs) fun σ H Q q => rd_lc hnd q
end
end Pv
/-! Pv: defs by the evaluator. -/
namespace Pv
open PySem PySem.Spec PyProof.Rows L2
section
variable {K : PySem.W.Frag} {Γ : Gm} {U : WX} {L : Nat → Bool} {H H' H1 H2 : Hp} {F F' F1 F2 G G' P : AP} {e e' e1 e2 env : Env} {σ σ' σ1 σ2 : L2.St} {ow ow' ow1 ow2 fp fr : List Addr} {r : RV} {m : M} {v x : V}
/-- what comes back by the parameters -/
theorem outs_ok : ∀ {io : List Bool} {e : Env} {σ : L2.St} {ow : List Addr} {vs : List V}, RepEnv K Γ H F G e σ ow → io.length ≤ vs.length → (∀ (i : Nat) v, io[i]? = some true → vs[i]? = some v → σ[i]? = some (some v)) → ∃ fo, RepOuts K Γ H F (outsOf io e) vs fo ∧ fo.Sublist ow
  | [], e, σ, ow, vs, _, _, _ => ⟨[], by show RepOuts K Γ H F (outsOf [] e) vs []; cases e <;> exact rfl, List.nil_sublist _⟩
  | b :: io, [], σ, ow, vs, _, _, _ => ⟨[], rfl, List.nil_sublist _⟩
  | b :: io, s :: e, _, _, vs, ⟨u, r, f1, f2, e1, e2, h, t⟩, hl, hσ => by
    subst e1
    cases vs with
    | nil => simp at hl
    | cons v vs =>
      obtain ⟨fo, h1, h2⟩ := outs_ok (io := io) (vs := vs) t (by simpa using hl) fun i w q1 q2 => by simpa using hσ (i + 1) w (by simpa using q1) (by simpa using q2)
      have skip : ∀ (o : Option M), o = none → outsOf (b :: io) (s :: e) = o :: outsOf io e → ∃ fo, RepOuts K Γ H F (outsOf (b :: io) (s :: e)) (v :: vs) fo ∧ fo.Sublist (f1 ++ f2) := fun o ho eq => by
        rw [eq, ho]
        exact ⟨fo, h1, h2.trans (List.sublist_append_right _ _)⟩
      subst e2
      cases b with
      | false => exact skip none rfl rfl
      | true =>
        cases s with
        | no => exact skip none rfl rfl
        | ok m w =>
          cases w with
          | false => exact skip none rfl rfl
          | true =>
            obtain ⟨u', eu, hm⟩ := h
            have := hσ 0 v rfl rfl
            have hv : u = some v := by simpa using this
            rw [hv] at eu
            cases eu
            exact ⟨f1 ++ fo, ⟨v, vs, f1, fo, rfl, rfl, hm, h1⟩, List.Sublist.append_left h2 f1⟩
theorem start_env : ∀ {ms : List M} {vs : List V} {fp : List Addr} (n : Nat), RepMs K Γ true H F ms vs fp → RepEnv K Γ H F G (ms.map (Sl.ok · true) ++ List.replicate n .no) (vs.map some ++ List.replicate n none) fp
  | [], _, _, n, ⟨e1, e2⟩ => by
    rw [e1, e2]
    show RepEnv K Γ H F G (List.replicate n .no) (List.replicate n none) []
    induction n with
    | zero => exact ⟨rfl, rfl⟩
    | succ n ih => exact ⟨none, List.replicate n none, [], [], rfl, rfl, rfl, ih⟩
  | m :: ms, _, _, n, ⟨v, r, f1, f2, e1, e2, h1, h2⟩ => ⟨some v, r.map some ++ List.replicate n none, f1, f2, by rw [e1]; rfl, e2, ⟨v, rfl, h1⟩, start_env n h2⟩
end
section
variable {P : Program} {w : World} {K : PySem.W.Frag} {mg : Str → Option Value} {base : Heap} {x qual : Str} {params : Arguments} {body : List Stmt} {scope : Scope} {dvs : List V} {kws : List (Str × V)} {fdt : FuncData} {Γ : Gm} {N ps : List Str} {T : List Fd} {cl : List ClsI} {cs : List D} {k kr n : Nat} {fd : Fd} {L : Nat → Bool}
theorem spI_len {C : Calls} {vs : List V} {H : Hp} {Q : VK} {E : XK} (h : spI K Γ C n vs H Q E) : ∃ ms, ms.length = vs.length ∧ C n ms ≠ .stuck := by
  obtain ⟨F, ms, fp, h1, _, _, _, h2⟩ := h
  refine ⟨ms, h1.len, fun z => ?_⟩
  rw [z] at h2
  exact h2
theorem callN_len {ms : List M} (hT : T[n]? = some fd) (h : callN T cl cs (k + 1) n ms ≠ .stuck) : ms.length = fd.np := by
  unfold callN at h
  rw [hT] at h
  dsimp only at h
  by_cases c : ms.length = fd.np
  · exact c
  · rw [if_neg c] at h; exact absurd rfl h
theorem fn_ok (F : FunD K x qual params body scope dvs kws (Γ.fn n) fdt) (S : FnScope N ps scope) (hT : T[n]? = some fd) (hnp : fd.np = ps.length) (hn : fd.n = N.length) (hio : fd.inout.length ≤ fd.np) (hL : ∀ i, fd.inout[i]? = some true → L i = false)
    (hb : ∀ (cdv : Value) (A : Around) (outer : List PySem.Env) (s : Shared) (H : Hp) (E : XK), Room kr (A.deeper (envOfC qual scope s.heap.objs.size (Γ.fn n) cdv)) → Takes (cxOf (L2.CX P w) P w K mg base N qual scope (Γ.fn n) cdv A outer s H E) (fun c d _ H => E c d H) →
      PassesOwn (model P w) (cxOf (L2.CX P w) P w K mg base N qual scope (Γ.fn n) cdv A outer s H E).A (cxOf (L2.CX P w) P w K mg base N qual scope (Γ.fn n) cdv A outer s H E).env (cxOf (L2.CX P w) P w K mg base N qual scope (Γ.fn n) cdv A outer s H E).xe →
      SSs (cxOf (L2.CX P w) P w K mg base N qual scope (Γ.fn n) cdv A outer s H E) Γ (fun c d _ H => E c d H) L ⟨callN T cl cs k, cl, cs⟩ body fd.body) :
    FnOk P w K mg base (L2.CX P w) (kr + 1) (Γ.fn n) fdt ps (spI K Γ (callN T cl cs (k + 1)) n) := by
  refine F.ok S (fun vs H Q E h => ?_) fun cdv A outer s H vs Q E hr h => ?_
  · obtain ⟨ms, e1, e2⟩ := spI_len h
    rw [← e1, callN_len hT e2, hnp]
  · refine ⟨_, hb cdv A outer s H E hr (takes_of rfl rfl rfl rfl) (passes_of rfl), ?_⟩
    obtain ⟨F0, ms, fp, hms, nd, dF, iF, hsp⟩ := h
    have hne : callN T cl cs (k + 1) n ms ≠ .stuck := fun z => by rw [z] at hsp; exact hsp
    have hl := callN_len hT hne
    have hvl : vs.length = fd.np := by rw [← hms.len, hl]
    have hst : L2.start N vs = vs.map some ++ List.replicate (fd.n - fd.np) none := by
      unfold L2.start
      rw [hn, hvl]
    have R : Rst K Γ H F0 (fun _ => False) (fun _ => False) (ms.map (Sl.ok · true) ++ List.replicate (fd.n - fd.np) .no) (L2.start N vs) fp := ⟨by rw [hst]; exact start_env _ hms, nd, dF, fun _ _ z => z, fun _ _ z => z, iF, fun _ z => z.elim, fun _ z => z.elim⟩
    refine ⟨F0, _, _, _, fp, R, ?_⟩
    have hc : callN T cl cs (k + 1) n ms = (match evSs ⟨callN T cl cs k, cl, cs⟩ fd.body (ms.map (Sl.ok · true) ++ List.replicate (fd.n - fd.np) .no) with
        | .ok (.rt m) e => .ok m (outsOf fd.inout e)
        | .ok .nx e => .ok (.fz .non) (outsOf fd.inout e)
        | .exc c ds e => .exc c ds (outsOf fd.inout e)
        | _ => .stuck) := by
      rw [callN]
      dsimp only
      rw [hT]
      dsimp only
      rw [if_pos hl] <;> rfl
    rw [hc] at hsp
    have vals : ∀ {σ' : L2.St}, AK L (L2.start N vs) σ' → ∀ (i : Nat) v, fd.inout[i]? = some true → vs[i]? = some v → σ'[i]? = some (some v) := fun {σ'} ak i v q1 q2 => by
      rw [ak i (hL i q1), hst]
      have : i < vs.length := (List.getElem?_eq_some_iff.mp q2).1
      rw [List.getElem?_append_left (by simpa using this), List.getElem?_map, q2]
      rfl
    have iol : fd.inout.length ≤ vs.length := by rw [hvl]; exact hio
    cases he : evSs ⟨callN T cl cs k, cl, cs⟩ fd.body (ms.map (Sl.ok · true) ++ List.replicate (fd.n - fd.np) .no) with
    | stuck => rw [he] at hsp; exact hsp.elim
    | exc c ds e1 =>
      rw [he] at hsp
      dsimp only at hsp
      intro cls d σ' H' ⟨F', ow', R', T', hx, _, _, ak⟩
      obtain ⟨fo, ho, sl⟩ := outs_ok R'.rep iol (vals ak)
      exact hsp cls d H' ⟨F', fo, T'.less fun a h => sl.subset h, ho, hx, R'.nd.sublist sl, fun a h => R'.dF a (sl.subset h), R'.iF⟩
    | ok f e1 =>
      rw [he] at hsp
      cases f with
      | nx =>
        dsimp only at hsp
        intro σ' H' ⟨F', ow', R', T', _, _, ak⟩
        obtain ⟨fo, ho, sl⟩ := outs_ok R'.rep iol (vals ak)
        refine hsp .non H' ⟨F', fo, [], ?_, ho, ⟨rfl, rfl⟩, ?_, ?_, R'.iF⟩
        · rw [List.append_nil]; exact T'.less fun a h => sl.subset h
        · rw [List.append_nil]; exact R'.nd.sublist sl
        · rw [List.append_nil]; exact fun a h => R'.dF a (sl.subset h)
      | rt m =>
        dsimp only at hsp
        intro v σ' H' ⟨F', ow', fr, R', S', T', q, _, _, ak⟩
        obtain ⟨fo, ho, sl⟩ := outs_ok R'.rep iol (vals ak)
        refine hsp v H' ⟨F', fo, fr, ?_, ho, q, ?_, ?_, R'.iF⟩
        · exact T'.less fun a h => (List.mem_append.mp h).elim (fun z => List.mem_append_left _ (sl.subset z)) (List.mem_append_right _)
        · exact List.nodup_append.mpr ⟨R'.nd.sublist sl, S'.nd, fun a ha b hb z => by subst z; exact S'.dO a hb (sl.subset ha)⟩
        · exact fun a h => (List.mem_append.mp h).elim (fun z => R'.dF a (sl.subset z)) (S'.dF a)
      | bk => exact hsp.elim
      | ct => exact hsp.elim
/-- more is promised of what never runs -/
theorem fn_zero {ps : List Str} {fdt : FuncData} {f : Addr} : FnOk P w K mg base (L2.CX P w) kr f fdt ps (spI K Γ (callN T cl cs 0) n) := by
  have no : ∀ vs H Q E, ¬ spI K Γ (callN T cl cs 0) n vs H Q E := fun vs H Q E h => by
    obtain ⟨F, ms, fp, _, _, _, _, h⟩ := h
    exact h
  exact ⟨fun vs H Q E h => (no _ _ _ _ h).elim, fun A outer s H args us vs Q E _ _ _ _ h => (no _ _ _ _ h).elim⟩
end
end Pv
/-! Pv: writing a slot's own list, dict. -/
namespace Pv
open PySem PySem.Spec PyProof.Rows L2
section
variable {K : PySem.W.Frag} {Γ : Gm} {U : WX} {L : Nat → Bool} {H H' H1 H2 H3 : Hp} {F F' F1 F2 G G' P : AP} {e e' e1 e2 env : Env} {σ σ' σ1 σ2 : L2.St} {ow ow' ow1 ow2 fp fr fz : List Addr} {r : RV} {m m' : M} {v x u : V}
/-- a slot's tree is turned; what it let go is a temporary -/
theorem mod_ok {i : Nat} (R : Rst K Γ H F G P e σ ow) (S : Sep H F G P ow fr) (hi : e.at i = .ok m true) :
    ∃ f, σ[i]? = some (some u) → (∀ a ∈ f, a ∈ ow) ∧ RepM K Γ true H F m u f ∧ f.Nodup ∧
      ∀ {H3 : Hp} {m' : M} {f' fz : List Addr}, (∀ a o, a ∉ f → H a = some o → H3 a = some o) → RepM K Γ true H3 F m' u f' → (f' ++ fz).Nodup → (∀ a ∈ f' ++ fz, a ∈ f ∨ a ∈ fr) → (∀ a ∈ fz, ∃ o, H3 a = some o) →
        ∃ ow', Rst K Γ H3 F G P (e.set i (.ok m' true)) σ ow' ∧ Sep H3 F G P ow' fz ∧ Stp H F (ow ++ fr) H3 F (ow' ++ fz) ∧ LK e (e.set i (.ok m' true)) ∧ LR σ σ e (e.set i (.ok m' true)) := by
  obtain ⟨o1, f, o2, u', e1, hu, hm, r1⟩ := R.rep.take hi
  refine ⟨f, fun hu' => ?_⟩
  rw [hu] at hu'
  cases hu'
  have il : i < e.length := at_len (by rw [hi]; intro z; cases z)
  have nd := R.nd
  rw [e1, List.nodup_append, List.nodup_append] at nd
  have sub : ∀ a ∈ o1 ++ o2, a ∈ ow := fun a ha => by
    rw [e1]
    rcases List.mem_append.mp ha with ha | ha
    · exact List.mem_append_left _ ha
    · exact List.mem_append_right _ (List.mem_append_right _ ha)
  have subf : ∀ a ∈ f, a ∈ ow := fun a ha => by rw [e1]; exact List.mem_append_right _ (List.mem_append_left _ ha)
  have nf : ∀ a ∈ o1 ++ o2, a ∉ f := fun a ha z => by
    rcases List.mem_append.mp ha with ha | ha
    · exact nd.2.2 a ha a (List.mem_append_left _ z) rfl
    · exact nd.2.1.2.2 a z a ha rfl
  refine ⟨subf, hm, nd.2.1.1, fun {H3 m' f' fz} kp hm' nd' sb hz => ?_⟩
  have kF : ∀ a o, F a → H a = some o → H3 a = some o := fun a o ha q => kp a o (fun z => R.dF a (subf a z) ha) q
  have kG : ∀ a o, G a → H a = some o → H3 a = some o := fun a o ha q => kp a o (fun z => R.dG a (subf a z) ha) q
  have kP : ∀ a o, P a → H a = some o → H3 a = some o := fun a o ha q => kp a o (fun z => R.dP a (subf a z) ha) q
  have r2 : RepEnv K Γ H3 F G (e.set i .no) σ (o1 ++ o2) := r1.ext (.of (fun _ h => h) kF) (fun a o ha q => kp a o (nf a ha) q) fun a o ha q => .inl (kG a o ha q)
  obtain ⟨o3, o4, e2, r3⟩ := r2.put (at_set_self il) hu hm'
  rw [List.set_set] at r3
  have nd2 := List.nodup_append.mp nd'
  have nfr : ∀ a ∈ f' ++ fz, a ∉ o1 ++ o2 := fun a ha z => (sb a ha).elim (nf a z) fun w => S.dO a w (sub a z)
  have ndo : (o1 ++ o2).Nodup := List.nodup_append.mpr ⟨nd.1, nd.2.1.2.1, fun a ha b hb => nd.2.2 a ha b (List.mem_append_right _ hb)⟩
  rw [e2] at ndo sub nfr
  have all : ∀ {Z : Addr → Prop}, (∀ a ∈ ow, Z a) → (∀ a ∈ fr, Z a) → ∀ a ∈ f' ++ fz, Z a := fun z1 z2 a ha => (sb a ha).elim (fun w => z1 a (subf a w)) (z2 a)
  have all2 : ∀ {Z : Addr → Prop}, (∀ a ∈ ow, Z a) → (∀ a ∈ fr, Z a) → ∀ a ∈ o3 ++ (f' ++ o4), Z a := fun z1 z2 a ha => by
    rcases List.mem_append.mp ha with ha | ha
    · exact z1 a (sub a (List.mem_append_left _ ha))
    · rcases List.mem_append.mp ha with ha | ha
      · exact all z1 z2 a (List.mem_append_left _ ha)
      · exact z1 a (sub a (List.mem_append_right _ ha))
  have ndo' := List.nodup_append.mp ndo
  refine ⟨o3 ++ (f' ++ o4), ⟨r3, ?_, all2 R.dF S.dF, all2 R.dG S.dG, all2 R.dP S.dP, fun a h => let ⟨o, q⟩ := R.iF a h; ⟨o, kF a o h q⟩, fun a h => let ⟨o, q⟩ := R.iG a h; ⟨o, kG a o h q⟩, fun a h => let ⟨o, q⟩ := R.iP a h; ⟨o, kP a o h q⟩⟩,
    ⟨nd2.2.1, hz, fun a h => all R.dF S.dF a (List.mem_append_right _ h), fun a h => all R.dG S.dG a (List.mem_append_right _ h), fun a h => all R.dP S.dP a (List.mem_append_right _ h), fun a h z => ?_⟩,
    ⟨fun a o q n => kp a o (fun z => n (List.mem_append_left _ (subf a z))) q, fun _ h => h, fun _ h => .inl h, fun a h => .inl ?_⟩, fun j m2 q => ?_, fun j m2 q => ?_⟩
  · refine List.nodup_append.mpr ⟨ndo'.1, List.nodup_append.mpr ⟨nd2.1, ndo'.2.1, fun a ha b hb z => ?_⟩, fun a ha b hb z => ?_⟩
    · subst z; exact nfr a (List.mem_append_left _ ha) (List.mem_append_right _ hb)
    · subst z
      rcases List.mem_append.mp hb with hb | hb
      · exact nfr a (List.mem_append_left _ hb) (List.mem_append_left _ ha)
      · exact ndo'.2.2 a ha a hb rfl
  · rcases List.mem_append.mp z with z | z
    · exact nfr a (List.mem_append_right _ h) (List.mem_append_left _ z)
    · rcases List.mem_append.mp z with z | z
      · exact nd2.2.2 a z a h rfl
      · exact nfr a (List.mem_append_right _ h) (List.mem_append_right _ z)
  · rcases List.mem_append.mp h with h | h
    · exact all2 (Z := fun a => a ∈ ow ++ fr) (fun a h => List.mem_append_left _ h) (fun a h => List.mem_append_right _ h) a h
    · exact all (Z := fun a => a ∈ ow ++ fr) (fun a h => List.mem_append_left _ h) (fun a h => List.mem_append_right _ h) a (List.mem_append_right _ h)
  · have ne : i ≠ j := fun z => by subst z; rw [hi] at q; cases q
    rw [at_set_ne ne]; exact q
  · have ne : i ≠ j := fun z => by subst z; rw [at_set_self il] at q; cases q
    rw [at_set_ne ne] at q
    exact ⟨q, rfl⟩
end
section
variable {X : Cx} {Γ : Gm} {U : WX} {L : Nat → Bool} {W : Wd} {ea eb ec : Expr} {a b c : E} {exs : List Expr} {es : List E} {pos p : Pos}
/-- what the layer's rules ask -/
def roMu : Mu → V → List V → Hp → VK → Prop
  | .append => rAppend
  | .extend => rExtend
  | .pop0 => rPop
  | .clear => rClear
  | _ => fun _ _ _ _ => False
theorem muF_lst {b : Mu} {rs : List RV} {m m' : M} {r : RV} (h : muF b rs m = some (m', r)) : ∃ ms, m = .lst ms := by
  cases m with
  | lst ms => exact ⟨ms, rfl⟩
  | _ => unfold muF at h; split at h <;> simp_all
theorem upd_keep {H : Hp} {l : Addr} {o : HO} {f : List Addr} (hl : l ∈ f) : ∀ a u, a ∉ f → H a = some u → upd H l o a = some u := fun a u n q => by
  rw [upd_ne fun z => n (by rw [z]; exact hl)]; exact q
theorem RepMs.at_upd {K : PySem.W.Frag} {H : Hp} {F : AP} {ms : List M} {vs : List V} {fs : List Addr} {l : Addr} {o : HO} (h : RepMs K Γ true H F ms vs fs) (nF : ¬ F l) (nf : l ∉ fs) : RepMs K Γ true (upd H l o) F ms vs fs :=
  h.ext (.of (fun _ h => h) fun a u f q => by rw [upd_ne fun z => nF (by rw [← z]; exact f)]; exact q) (.of fun a u f q => by rw [upd_ne fun z => nf (by rw [← z]; exact f)]; exact q)
theorem extF_ok {K : PySem.W.Frag} {H : Hp} {F : AP} {r : RV} {x : V} {fp : List Addr} {ds : List D} (h : RepR K Γ H F r x fp) (e : extF r = some ds) : ∃ a zs, x = .ref a ∧ H a = some (.lst zs) ∧ RepDs K Γ H F ds zs := by
  unfold extF at e
  split at e
  · rename_i es hm
    cases e
    obtain ⟨⟨a, xs, e1, _, h1, q⟩, _⟩ := h.fzd hm
    exact ⟨a, xs, e1, h1, q⟩
  · rename_i ms hm
    obtain ⟨fq, hn, _⟩ := h.node hm rfl
    split at hn
    · obtain ⟨a, xs, fs, e1, _, h1, q⟩ := hn
      exact ⟨a, xs, e1, h1, (q.fzs e).1⟩
    · obtain ⟨a, xs, fs, e1, _, h1, q⟩ := hn
      exact ⟨a, xs, e1, h1, (q.fzs e).1⟩
  · cases e
theorem RepMs.unapp {K : PySem.W.Frag} {H : Hp} {F : AP} {w : Bool} : ∀ {ms ns : List M} {vs : List V} {fp : List Addr}, RepMs K Γ w H F (ms ++ ns) vs fp → ∃ v1 v2 f1 f2, vs = v1 ++ v2 ∧ fp = f1 ++ f2 ∧ RepMs K Γ w H F ms v1 f1 ∧ RepMs K Γ w H F ns v2 f2
  | [], ns, vs, fp, h => ⟨[], vs, [], fp, rfl, rfl, ⟨rfl, rfl⟩, h⟩
  | m :: ms, ns, _, _, ⟨v, r, f1, f2, e1, e2, h1, h2⟩ => by
    obtain ⟨v1, v2, g1, g2, e3, e4, h3, h4⟩ := RepMs.unapp h2
    exact ⟨v :: v1, v2, f1 ++ g1, g2, by rw [e1, e3]; rfl, by rw [e2, e4, List.append_assoc], ⟨v, v1, f1, g1, rfl, rfl, h1, h3⟩, h4⟩
theorem rd_mutV {i : Nat} {b : Mu} {σ : L2.St} {H : Hp} {Q : VK} (q : rdE X.K Γ U (evE W (.mut b (.var i) es)) false σ H Q) :
    tVar i σ H fun x H1 => tyV X.K "list" x H1 ∧ rdL X.K Γ U (evEs W es) (pureEs es) σ H1 fun vs H2 => roMu b x vs H2 Q := by
  obtain ⟨F, G, P, env, ow, R, k⟩ := q
  rw [evE, evP] at k
  cases hp : pathOk env i [] with
  | false => rw [hp, if_neg (by decide)] at k; exact k.elim
  | true =>
    rw [hp, if_pos rfl] at k
    simp only [Out.bind] at k
    cases hl : lstAt env i [] with
    | false => rw [hl] at k; exact k.elim
    | true =>
      simp only [hl, List.isEmpty_nil, Bool.true_or, Bool.and_true, Bool.true_and, if_true] at k
      have h0 : ∃ ms, env.at i = .ok (.lst ms) true := by
        unfold lstAt at hl
        split at hl
        · rename_i m hm
          cases m with
          | lst ms => exact ⟨_, hm⟩
          | _ => cases hl
        · cases hl
      obtain ⟨ms0, h0⟩ := h0
      obtain ⟨u, fq, hu, hm0, _⟩ := R.rep.read h0
      refine ⟨u, hu, ?_, F, G, P, env, ow, R, ?_⟩
      · obtain ⟨l, xs, fs, rfl, _, hx, _⟩ := hm0
        exact .inl ⟨rfl, xs, SqL.of hx⟩
      · cases he : evEs W es env with
        | stuck => rw [he] at k; exact k
        | exc c ds e1 => rw [he] at k; exact k
        | ok rs e1 =>
          rw [he] at k
          dsimp only at k
          intro vs H2 ⟨F2, ow2, fr, R2, S2, T2, q2, l2, lr2⟩ _
          unfold Env.mod at k
          cases ha : e1.at i with
          | no => rw [ha] at k; exact k.elim
          | ok m w =>
            cases w with
            | false => rw [ha] at k; exact k.elim
            | true =>
              rw [ha] at k
              dsimp only at k
              cases hn : m.isNode with
              | false => rw [hn, if_neg (by decide)] at k; exact k.elim
              | true =>
                rw [hn, if_pos rfl] at k
                unfold M.mod at k
                cases hf : muF b rs m with
                | none => rw [hf] at k; exact k.elim
                | some p =>
                  obtain ⟨m', r⟩ := p
                  rw [hf] at k
                  simp only [Option.map] at k
                  obtain ⟨ms, rfl⟩ := muF_lst hf
                  obtain ⟨f, hmod⟩ := mod_ok (u := u) R2 S2 ha
                  obtain ⟨subf, hm, ndf, step⟩ := hmod hu
                  obtain ⟨l, xs, fs, rfl, ef, hx, hms⟩ := hm
                  have lf : l ∈ f := by rw [ef]; exact List.mem_cons_self
                  have nl : l ∉ fs := by rw [ef] at ndf; exact (List.nodup_cons.mp ndf).1
                  have nF : ¬ F2 l := R2.dF l (subf l lf)
                  have fin : ∀ {H3 : Hp} {f' fz : List Addr} {z : V}, (∀ a o, a ∉ f → H2 a = some o → H3 a = some o) → RepM X.K Γ true H3 F2 m' (.ref l) f' → (f' ++ fz).Nodup → (∀ a ∈ f' ++ fz, a ∈ f ∨ a ∈ fr) → (∀ a ∈ fz, ∃ o, H3 a = some o) → RepR X.K Γ H3 F2 r z fz → Q z H3 := fun {H3 f' fz z} h1 h2 h3 h4 h5 h6 => by
                    obtain ⟨ow', R3, S3, T3, l3, lr3⟩ := step h1 h2 h3 h4 h5
                    exact k z H3 ⟨F2, ow', fz, R3, S3, T2.trans T3 fun _ h => h, h6, l2.trans l3, lr2.trans lr3⟩ fun z => nomatch z
                  have nlr : l ∉ fr := fun z => S2.dO l z (subf l lf)
                  have dfr : ∀ a ∈ fs, a ∉ fr := fun a ha z => S2.dO a z (subf a (by rw [ef]; exact List.mem_cons_of_mem _ ha))
                  cases b with
                  | append =>
                    cases rs with
                    | nil => cases hf
                    | cons s rs =>
                      cases rs with
                      | cons _ _ => cases hf
                      | nil =>
                        obtain ⟨y, rfl, q1⟩ := q2.one
                        have hf' : (s.sto.bind fun m => if decide (ms.length < 16777216) = true then some (M.lst (ms ++ [m]), RV.of .non) else none) = some (m', r) := hf
                        cases hs : s.sto with
                        | none => rw [hs] at hf'; cases hf'
                        | some my =>
                          rw [hs] at hf'
                          have hf2 : (if decide (ms.length < 16777216) = true then some (M.lst (ms ++ [my]), RV.of .non) else none) = some (m', r) := hf'
                          by_cases hlen : ms.length < 16777216
                          · rw [if_pos (by simpa using hlen)] at hf2
                            cases hf2
                            have hy := q1.sto hs
                            refine ⟨l, xs, y, rfl, rfl, hx, by rw [← hms.len, sizeLine_val]; exact hlen, fin (f' := l :: (fs ++ fr)) (fz := []) (upd_keep lf) ⟨l, xs ++ [y], fs ++ fr, rfl, rfl, upd_same, (hms.at_upd nF nl).app ⟨y, [], fr, [], rfl, by simp, ?_, rfl, rfl⟩⟩ ?_ (fun a h => ?_) (fun _ h => (nomatch h)) ⟨rfl, rfl⟩⟩
                            · exact hy.ext (.of (fun _ h => h) fun a u f q => by rw [upd_ne fun z => nF (by rw [← z]; exact f)]; exact q) (.of fun a u f q => by rw [upd_ne fun z => nlr (by rw [← z]; exact f)]; exact q)
                            · rw [List.append_nil]
                              rw [ef] at ndf
                              refine List.nodup_cons.mpr ⟨fun z => (List.mem_append.mp z).elim nl nlr, List.nodup_append.mpr ⟨(List.nodup_cons.mp ndf).2, S2.nd, fun a ha b hb z => by subst z; exact dfr a ha hb⟩⟩
                            · rw [List.append_nil] at h
                              rcases List.mem_cons.mp h with rfl | h
                              · exact .inl lf
                              · rcases List.mem_append.mp h with h | h
                                · exact .inl (by rw [ef]; exact List.mem_cons_of_mem _ h)
                                · exact .inr h
                          · rw [if_neg (by simpa using hlen)] at hf2; cases hf2
                  | extend =>
                    cases rs with
                    | nil => cases hf
                    | cons s rs =>
                      cases rs with
                      | cons _ _ => cases hf
                      | nil =>
                        obtain ⟨y, rfl, q1⟩ := q2.one
                        have hf' : ((extF s).bind fun ds => if decide (ms.length + ds.length ≤ 16777216) = true then some (M.lst (ms ++ ds.map .fz), RV.of .non) else none) = some (m', r) := hf
                        cases hs : extF s with
                        | none => rw [hs] at hf'; cases hf'
                        | some ds =>
                          rw [hs] at hf'
                          have hf2 : (if decide (ms.length + ds.length ≤ 16777216) = true then some (M.lst (ms ++ ds.map .fz), RV.of .non) else none) = some (m', r) := hf'
                          by_cases hlen : ms.length + ds.length ≤ 16777216
                          · rw [if_pos (by simpa using hlen)] at hf2
                            cases hf2
                            obtain ⟨b, zs, rfl, hb, hz⟩ := extF_ok q1 hs
                            have hz2 : RepDs X.K Γ (upd H2 l (.lst (xs ++ zs))) F2 ds zs := hz.ext (.of (fun _ h => h) fun a u f q => by rw [upd_ne fun z => nF (by rw [← z]; exact f)]; exact q)
                            refine ⟨l, b, xs, zs, rfl, rfl, hx, hb, by rw [← hms.len, ← hz.len, sizeLine_val]; exact hlen, fin (f' := l :: fs) (fz := []) (upd_keep lf) ⟨l, xs ++ zs, fs, rfl, rfl, upd_same, by
                              have := (hms.at_upd (o := .lst (xs ++ zs)) nF nl).app (RepMs.of_fz (b := true) hz2)
                              rwa [List.append_nil] at this⟩ (by rw [List.append_nil, ← ef]; exact ndf) (fun a h => .inl (by rw [List.append_nil] at h; rw [ef]; exact h)) (fun _ h => (nomatch h)) ⟨rfl, rfl⟩⟩
                          · rw [if_neg (by simpa using hlen)] at hf2; cases hf2
                  | pop0 =>
                    cases rs with
                    | cons _ _ => cases hf
                    | nil =>
                      obtain ⟨rfl, rfl⟩ := q2
                      have hf' : (ms.getLast?.map fun m => (M.lst ms.dropLast, (⟨m, false⟩ : RV))) = some (m', r) := hf
                      cases hg : ms.getLast? with
                      | none => rw [hg] at hf'; cases hf'
                      | some ml =>
                        rw [hg] at hf'
                        cases hf'
                        have hne : ms ≠ [] := fun z => by rw [z] at hg; cases hg
                        have hms' : ms = ms.dropLast ++ [ml] := by
                          have := List.dropLast_concat_getLast hne
                          rw [List.getLast?_eq_some_getLast hne] at hg
                          cases hg
                          exact this.symm
                        rw [hms'] at hms
                        obtain ⟨xs1, xs2, g1, g2, e1, e2, h1, h2⟩ := RepMs.unapp hms
                        obtain ⟨v, t, g3, g4, e3, e4, h3, h4, h5⟩ := h2
                        subst h4 h5 e1 e3
                        rw [List.append_nil] at e4
                        subst e4
                        have ndf' := ndf
                        rw [ef, e2] at ndf'
                        refine ⟨l, _, v, rfl, rfl, hx, by simp, ?_⟩
                        rw [List.dropLast_concat]
                        refine fin (f' := l :: g1) (fz := g2) (upd_keep lf) ⟨l, xs1, g1, rfl, rfl, upd_same, h1.at_upd nF fun z => nl (by rw [e2]; exact List.mem_append_left _ z)⟩ ndf' (fun a h => .inl (by rw [ef, e2]; exact h)) (fun a ha => ?_) ?_
                        · obtain ⟨o, q⟩ := h3.has a ha
                          have : a ≠ l := fun z => nl (by rw [e2, ← z]; exact List.mem_append_right _ ha)
                          exact ⟨o, by rw [upd_ne this]; exact q⟩
                        · show RepM X.K Γ true _ F2 ml v g2
                          exact h3.ext (.of (fun _ h => h) fun a u f q => by rw [upd_ne fun z => nF (by rw [← z]; exact f)]; exact q) (.of fun a u f q => by rw [upd_ne fun z => nl (by rw [e2, ← z]; exact List.mem_append_right _ f)]; exact q)
                  | clear =>
                    cases rs with
                    | cons _ _ => cases hf
                    | nil =>
                      obtain ⟨rfl, rfl⟩ := q2
                      have hf' : some (M.lst [], RV.of .non) = some (m', r) := hf
                      cases hf'
                      exact ⟨l, xs, rfl, rfl, hx, fin (f' := [l]) (fz := []) (upd_keep lf) ⟨l, [], [], rfl, rfl, upd_same, rfl, rfl⟩ (by simp) (fun a h => .inl (by rw [List.append_nil, List.mem_singleton] at h; rw [h]; exact lf)) (fun _ h => (nomatch h)) ⟨rfl, rfl⟩⟩
                  | insert => unfold muF at hf; split at hf <;> simp_all
                  | pop1 => unfold muF at hf; split at hf <;> simp_all
                  | setdefault => unfold muF at hf; split at hf <;> simp_all
theorem se_append {i : Nat} {x : Str} {apos xp : Pos} (hN : X.N[i]? = some x) (hv : Vis X.env.scope x) (hb : SE X Γ U W eb b)
    (hd : (x == ("__debug__" : Str)) = false := by decide) (hcd : (x == ("__classdict__" : Str)) = false := by decide) (hbase : attributeBase (.Name x xp) "append" X.env (eval (.Name x xp) X.env) = eval (.Name x xp) X.env := by rfl)
    (hfew : ((backTo pos (starEach [eb] X.env)).all (fun x => !x.1) && (backToKw pos (keywordEach [] X.env)).all (fun x => x.1.isSome) && decide (([eb] : List Expr).length + ([] : List Keyword).length + (if ([] : List Keyword).isEmpty then 0 else 1) < 30)) = true := by rfl)
    (hline : (apos.endLine == pos.line) = true := by rfl) (hs : starEach [eb] X.env = (false, eval eb X.env) :: starEach [] X.env := by rfl) (hplain : (backTo pos (starEach [] X.env)).any (·.1) = false := by rfl) :
    SE X Γ U W (.Call (.Attribute (.Name x xp) "append" apos) [eb] [] pos) (.mut .append (.var i) [b]) :=
  PE.imp (pe_bm PySem.F.plainAttrs_list PySem.F.slot_list_append PySem.F.type_list_append mt_append (pe_var hN hv hd hcd) (sa_cons hb sa_nil hs) hbase hfew hline hs hplain) fun σ H Q q => rd_mutV q
end
end Pv
/-! Pv: range, enumerate, zip, reversed. -/
namespace Pv
open PySem PySem.Spec PyProof.Rows L2
section
variable {X : Cx} {Γ : Gm} {U : WX} {L : Nat → Bool} {W : Wd} {ea eb ec tg : Expr} {a b c : E} {exs : List Expr} {es : List E} {pos p tpos : Pos} {elts : List Expr} {kk : Nat}
theorem evEs_len {W' : Wd} : ∀ {es : List E} {e e' : Env} {as : List RV}, evEs W' es e = .ok as e' → as.length = es.length
  | [], e, e', as, h => by rw [evEs] at h; cases h; rfl
  | a :: es, e, e', as, h => by
    rw [evEs] at h
    cases ha : evE W' a e with
    | stuck => simp only [ha, Out.bind] at h; cases h
    | exc c ds e1 => simp only [ha, Out.bind] at h; cases h
    | ok x e1 =>
      simp only [ha, Out.bind] at h
      split at h
      · cases h
      · cases hb : evEs W' es e1 with
        | stuck => simp only [hb] at h; cases h
        | exc c ds e2 => simp only [hb] at h; cases h
        | ok xs e2 => simp only [hb] at h; cases h; rw [List.length_cons, List.length_cons, evEs_len hb]
/-- the ints of range(..) -/
theorem rd_range {σ : L2.St} {H : Hp} {R : L2.It → Hp → Prop} {ro : List V → Hp → (L2.It → Hp → Prop) → Prop} (q : rdI X.K Γ U (evIt W (.range es)) σ H R)
    (hro : ∀ rs ns vs H F fp, rs.length = es.length → RepRs X.K Γ H F rs vs fp → range? (rs.map RV.d) = some ns → ∃ J, (∀ F1 G1, ItOk X.K Γ J (ns.map .int) H F1 G1) ∧ (R J H → ro vs H R)) :
    rdL X.K Γ U (evEs W es) (pureEs es) σ H fun vs H1 => ro vs H1 R := by
  obtain ⟨F, G, P, env, ow, R0, k⟩ := q
  rw [evIt] at k
  refine ⟨F, G, P, env, ow, R0, ?_⟩
  cases he : evEs W es env with
  | stuck => simp only [he, Out.bind] at k; exact k
  | exc c ds e1 => simp only [he, Out.bind] at k; exact k
  | ok rs e1 =>
    simp only [he, Out.bind] at k
    intro vs H1 ⟨F1, ow1, fp1, R1, S1, T1, q1, l1, lr1⟩ _
    cases hr : range? (rs.map RV.d) with
    | none => rw [hr] at k; exact k.elim
    | some ns =>
      rw [hr] at k
      obtain ⟨J, h1, h2⟩ := hro rs ns vs H1 F1 fp1 (evEs_len he) q1 hr
      exact h2 (k J H1 ⟨F1, G, ow1, R1, T1.less fun x hx => List.mem_append_left _ hx, Unl.none l1 lr1, h1 F1 G⟩)
theorem ints62_iff {i : Int} (h : ints62 i = true) : -(2 ^ 62) ≤ i ∧ i < 2 ^ 62 := by
  unfold ints62 at h
  simp only [Bool.and_eq_true, decide_eq_true_eq] at h
  exact h
theorem RepRs.d1 {K : PySem.W.Frag} {H : Hp} {F : AP} {rs : List RV} {vs : List V} {fp : List Addr} {i : Int} (h : RepRs K Γ H F rs vs fp) (e : rs.map RV.d = [.int i]) : vs = [.int i] := by
  cases rs with
  | nil => cases e
  | cons r rs =>
    cases rs with
    | cons _ _ => simp at e
    | nil =>
      obtain ⟨x, rfl, q⟩ := h.one
      have e' : r.d = .int i := by simpa using e
      rw [q.int e']
theorem RepRs.d2 {K : PySem.W.Frag} {H : Hp} {F : AP} {rs : List RV} {vs : List V} {fp : List Addr} {i j : Int} (h : RepRs K Γ H F rs vs fp) (e : rs.map RV.d = [.int i, .int j]) : vs = [.int i, .int j] := by
  cases rs with
  | nil => cases e
  | cons r rs =>
    cases rs with
    | nil => simp at e
    | cons s rs =>
      cases rs with
      | cons _ _ => simp at e
      | nil =>
        obtain ⟨x, y, f1, f2, rfl, _, q1, q2⟩ := h.two
        have e' : r.d = .int i ∧ s.d = .int j := by simpa using e
        rw [q1.int e'.1, q2.int e'.2]
theorem range1 {ds : List D} {ns : List Int} (h : range? ds = some ns) (l : ds.length = 1) : ∃ n, ds = [.int n] ∧ ints62 n = true ∧ ns = rangeI 0 n.toNat := by
  match ds, l with
  | [d], _ =>
    cases d with
    | int n =>
      have h' : (if ints62 n = true then some (rangeI 0 n.toNat) else none) = some ns := h
      by_cases c : ints62 n = true
      · rw [if_pos c] at h'; cases h'; exact ⟨n, rfl, c, rfl⟩
      · rw [if_neg c] at h'; cases h'
    | _ => cases h
theorem range2 {ds : List D} {ns : List Int} (h : range? ds = some ns) (l : ds.length = 2) : ∃ a b, ds = [.int a, .int b] ∧ ints62 a = true ∧ ints62 b = true ∧ ns = rangeI a (b - a).toNat := by
  match ds, l with
  | [d, e], _ =>
    cases d with
    | int a =>
      cases e with
      | int b =>
        have h' : (if (ints62 a && ints62 b) = true then some (rangeI a (b - a).toNat) else none) = some ns := h
        by_cases c : (ints62 a && ints62 b) = true
        · rw [if_pos c] at h'; cases h'; rw [Bool.and_eq_true] at c; exact ⟨a, b, rfl, c.1, c.2, rfl⟩
        · rw [if_neg c] at h'; cases h'
      | _ => cases h
    | _ => cases h
theorem si_range1 (hg : Gl X "range") (hm : X.mg "range" = none) (ha : SE X Γ U W ea a) (hs : starEach [ea] X.env = [(false, eval ea X.env)] := by rfl) : SI X Γ U W tg (.Call (.Name "range" p) [ea] [] pos) (.range [a]) :=
  PI.imp (pi_range1 hg hm (sa_cons ha sa_nil hs) hs) fun σ H R q =>
    rd_range (ro := fun vs H R => ∃ j : Int, vs = [.int j] ∧ -(2 ^ 62) ≤ j ∧ j < 2 ^ 62 ∧ R (Itr 0 j.toNat) H) q fun rs ns vs H F fp hl hr h => by
      obtain ⟨n, e1, e2, rfl⟩ := range1 h (by rw [List.length_map, hl]; rfl)
      exact ⟨Itr 0 n.toNat, fun F1 G1 => ItOk.rng, fun q => ⟨n, hr.d1 e1, (ints62_iff e2).1, (ints62_iff e2).2, q⟩⟩
theorem si_range2 (hg : Gl X "range") (hm : X.mg "range" = none) (ha : SE X Γ U W ea a) (hb : SE X Γ U W eb b) (hs : starEach [ea, eb] X.env = [(false, eval ea X.env), (false, eval eb X.env)] := by rfl) (hs2 : starEach [eb] X.env = [(false, eval eb X.env)] := by rfl) :
    SI X Γ U W tg (.Call (.Name "range" p) [ea, eb] [] pos) (.range [a, b]) :=
  PI.imp (pi_range2 hg hm (sa_cons ha (sa_cons hb sa_nil hs2) (hs.trans (by rw [hs2]))) hs hs2) fun σ H R q =>
    rd_range (ro := fun vs H R => ∃ i j : Int, vs = [.int i, .int j] ∧ (-(2 ^ 62) ≤ i ∧ i < 2 ^ 62 ∧ -(2 ^ 62) ≤ j ∧ j < 2 ^ 62) ∧ R (Itr i (j - i).toNat) H) q fun rs ns vs H F fp hl hr h => by
      obtain ⟨i, j, e1, e2, e3, rfl⟩ := range2 h (by rw [List.length_map, hl]; rfl)
      exact ⟨Itr i (j - i).toNat, fun F1 G1 => ItOk.rng, fun q => ⟨i, j, hr.d2 e1, ⟨(ints62_iff e2).1, (ints62_iff e2).2, (ints62_iff e3).1, (ints62_iff e3).2⟩, q⟩⟩
/-- one argument that is a source -/
theorem rd_src1 {σ : L2.St} {H : Hp} {R : L2.It → Hp → Prop} {it : It} {g : List D → List D} {J : Addr → List V → L2.It} (q : rdI X.K Γ U (evIt W it) σ H R) (he : ∀ e, evIt W it e = (evQ W false a e).bind fun p e => .ok (g p.1, p.2) e)
    (hJ : ∀ {a xs ds H1 F1 G1}, (∀ H, (∀ b o, (F1 b ∨ G1 b) → H1 b = some o → H b = some o) → SqL X.K H a xs) → RepDs X.K Γ H1 F1 ds xs → ItOk X.K Γ (J a xs) (g ds) H1 F1 G1) :
    rdQ X.K Γ U (evQ W false a) false σ H fun v H1 => ∃ a xs, v = .ref a ∧ SqL X.K H1 a xs ∧ R (J a xs) H1 := by
  obtain ⟨F, G, P, env, ow, R0, k⟩ := q
  rw [he] at k
  refine ⟨F, G, P, env, ow, R0, ?_⟩
  cases h : evQ W false a env with
  | stuck => rw [h] at k; exact k
  | exc c ds e1 => rw [h] at k; exact k
  | ok p e1 =>
    obtain ⟨ds, sh⟩ := p
    rw [h] at k
    intro v H1 ⟨F', G', ow', a', xs, ev, R', T', U', hs, hd⟩
    rcases hs with hs | ⟨z, _⟩
    · exact ⟨a', xs, ev, hs H1 fun _ _ _ q => q, k _ H1 ⟨F', G', ow', R', T', U', hJ hs hd⟩⟩
    · cases z
theorem si_enum (hg : Gl X "enumerate") (hm : X.mg "enumerate" = none) (ha : SQ X Γ U W false ea a) (hs : starEach [ea] X.env = [(false, eval ea X.env)] := by rfl) : SI X Γ U W (.Tuple elts kk tpos) (.Call (.Name "enumerate" p) [ea] [] pos) (.enum a) :=
  PI.imp (pi_enum hg hm (pa_cons ha pa_nil hs) hs) fun σ H R q => by
    obtain ⟨F, G, P, env, ow, R0, k⟩ := rd_src1 (a := a) (J := fun a _ => Ite X.K a) q (fun e => by rw [evIt]) fun h1 h2 => ItOk.enum h1 h2
    refine ⟨F, G, P, env, ow, R0, ?_⟩
    cases h : evQ W false a env with
    | stuck => rw [h] at k; exact k
    | exc c ds e1 => rw [h] at k; exact k
    | ok p e1 =>
      rw [h] at k
      obtain ⟨ds, sh⟩ := p
      intro v H1 hv
      obtain ⟨a', xs, e1, e2, e3⟩ := k v H1 hv
      exact ⟨a', xs, by rw [e1], e2, e3⟩
end
end Pv
/-! Pv: range(a, b, -1). -/
namespace Pv
open PySem PySem.Spec PyProof.Rows L2
section
variable {X : Cx} {Γ : Gm} {U : WX} {W : Wd} {ea eb ec : Expr} {a b c : E} {tg : Expr} {p pos : Pos}
theorem ItOk.rngD {K : PySem.W.Frag} {H1 : Hp} {F1 G1 : AP} {lo : Int} {n : Nat} : ItOk K Γ (Itc lo (-1) n) ((rangeD lo n).map .int) H1 F1 G1 := fun i H F k sb iF => by
  have hg : ∀ d, ((rangeD lo n).map D.int)[i]? = some d → i < n ∧ d = .int (lo - i) := fun d h => by
    unfold rangeD at h
    rw [List.map_map, List.getElem?_map] at h
    by_cases c : i < n
    · rw [List.getElem?_range c] at h
      exact ⟨c, by cases h; rfl⟩
    · rw [List.getElem?_eq_none (by simpa using c)] at h
      cases h
  refine ⟨fun h => ?_, fun d h => ⟨(hg d h).1, fun x H' ⟨e, q⟩ => ?_⟩⟩
  · have := List.getElem?_eq_none_iff.mp h
    unfold rangeD at this
    show n ≤ i
    simpa using this
  · subst e
    rw [(hg d h).2, q, show lo + (i : Nat) * (-1 : Int) = lo - (i : Int) by omega]
    exact ⟨fun _ _ h => h, F, fun _ h => h, fun _ h => .inl h, iF, rfl⟩
theorem RepRs.d3 {K : PySem.W.Frag} {H : Hp} {F : AP} {rs : List RV} {vs : List V} {fp : List Addr} {i j l : Int} (h : RepRs K Γ H F rs vs fp) (e : rs.map RV.d = [.int i, .int j, .int l]) : vs = [.int i, .int j, .int l] := by
  have hl : rs.length = 3 := by rw [← List.length_map (f := RV.d), e]; rfl
  obtain ⟨r, s, t, rfl⟩ : ∃ r s t, rs = [r, s, t] := by
    rcases rs with _ | ⟨r, _ | ⟨s, _ | ⟨t, _ | ⟨u, rs⟩⟩⟩⟩
    · cases hl
    · cases hl
    · cases hl
    · exact ⟨r, s, t, rfl⟩
    · simp at hl
  obtain ⟨x, v1, f1, g1, rfl, _, q1, y, v2, f2, g2, rfl, _, q2, z, v3, f3, g3, rfl, _, q3, rfl, _⟩ := h
  have e' : r.d = .int i ∧ s.d = .int j ∧ t.d = .int l := by simpa using e
  rw [q1.int e'.1, q2.int e'.2.1, q3.int e'.2.2]
theorem range3 {ds : List D} {ns : List Int} (h : range? ds = some ns) (l : ds.length = 3) : ∃ a b, ds = [.int a, .int b, .int (-1)] ∧ ints62 a = true ∧ ints62 b = true ∧ ns = rangeD a (a - b).toNat := by
  match ds, l with
  | [d, e, f], _ =>
    cases d with
    | int a =>
      cases e with
      | int b =>
        cases f with
        | int c =>
          have h' : (if (ints62 a && ints62 b && decide (c = -1)) = true then some (rangeD a (a - b).toNat) else none) = some ns := h
          by_cases c1 : (ints62 a && ints62 b && decide (c = -1)) = true
          · rw [if_pos c1] at h'; cases h'
            rw [Bool.and_eq_true, Bool.and_eq_true, decide_eq_true_eq] at c1
            exact ⟨a, b, by rw [c1.2], c1.1.1, c1.1.2, rfl⟩
          · rw [if_neg c1] at h'; cases h'
        | _ => cases h
      | _ => cases h
    | _ => cases h
theorem si_range3 (hg : Gl X "range") (hm : X.mg "range" = none) (ha : SE X Γ U W ea a) (hb : SE X Γ U W eb b) (hc : SE X Γ U W ec c)
    (hs : starEach [ea, eb, ec] X.env = (false, eval ea X.env) :: starEach [eb, ec] X.env := by rfl) (hs2 : starEach [eb, ec] X.env = (false, eval eb X.env) :: starEach [ec] X.env := by rfl) (hs3 : starEach [ec] X.env = [(false, eval ec X.env)] := by rfl)
    (hpl : (backTo pos (starEach [eb, ec] X.env)).any (·.1) = false := by rfl) :
    SI X Γ U W tg (.Call (.Name "range" p) [ea, eb, ec] [] pos) (.range [a, b, c]) :=
  PI.imp (pi_range3 hg hm (sa_cons ha (sa_cons hb (sa_cons hc sa_nil hs3) hs2) hs) hs hpl) fun σ H R q =>
    rd_range (ro := fun vs H R => ∃ (i j c : Int) (n : Nat), vs = [.int i, .int j, .int c] ∧ RgC i j c n ∧ R (Itc i c n) H) q fun rs ns vs H F fp hl hr h => by
      obtain ⟨i, j, e1, e2, e3, rfl⟩ := range3 h (by rw [List.length_map, hl]; rfl)
      exact ⟨Itc i (-1) (i - j).toNat, fun F1 G1 => ItOk.rngD, fun q => ⟨i, j, -1, _, hr.d3 e1, .neg (ints62_iff e2).1 (ints62_iff e2).2 (ints62_iff e3).1 (ints62_iff e3).2, q⟩⟩
end
end Pv
/-! Pv: a[i] = v, d[k] = v of a slot's own. -/
namespace Pv
open PySem PySem.Spec PyProof.Rows L2
section
variable {K : PySem.W.Frag} {Γ : Gm} {H H' H1 H2 H3 : Hp} {F F' F1 F2 G G' P : AP} {v x u : V} {m m' : M}
/-- an item is replaced -/
theorem RepMs.setAt {w : Bool} : ∀ {ms : List M} {vs : List V} {fp : List Addr} {j : Nat} {f' : List Addr}, RepMs K Γ w H F ms vs fp → j < ms.length → RepM K Γ w H F m' v f' → ∃ f1 fq f2, fp = f1 ++ (fq ++ f2) ∧ RepMs K Γ w H F (ms.set j m') (vs.set j v) (f1 ++ (f' ++ f2))
  | [], _, _, _, _, _, h, _ => by simp at h
  | m :: ms, _, _, 0, f', ⟨x, r, f1, f2, e1, e2, h1, h2⟩, _, h => ⟨[], f1, f2, e2, v, r, f', f2, by rw [e1]; rfl, rfl, h, h2⟩
  | m :: ms, _, _, j + 1, f', ⟨x, r, f1, f2, e1, e2, h1, h2⟩, hj, h => by
    obtain ⟨g1, gq, g2, e3, h3⟩ := RepMs.setAt (j := j) h2 (by simpa using hj) h
    exact ⟨f1 ++ g1, gq, g2, by rw [e2, e3, List.append_assoc], x, r.set j v, f1, g1 ++ (f' ++ g2), by rw [e1]; rfl, by rw [List.append_assoc], h1, h3⟩
theorem put_zip {α : Type} : ∀ {ks : List Key} {xs : List V} {k : Key} {y : V}, ks.Nodup → ks.length = xs.length → putK (ks.zip xs) k y = (dput ks xs k y).1.zip (dput ks xs k y).2
  | [], [], k, y, _, _ => rfl
  | [], _ :: _, _, _, _, l => by cases l
  | _ :: _, [], _, _, _, l => by cases l
  | z :: ks, x :: xs, k, y, nd, l => by
    have ih := put_zip (α := α) (ks := ks) (xs := xs) (k := k) (y := y) (List.nodup_cons.mp nd).2 (by simpa using l)
    have hn := (List.nodup_cons.mp nd).1
    unfold putK at ih ⊢
    unfold dput
    by_cases e : z = k
    · subst e
      rw [if_pos (by simp), if_pos rfl]
      show _ = (z, y) :: ks.zip xs
      rw [List.zip_cons_cons, List.map_cons, if_pos rfl]
      congr 1
      rw [List.map_congr_left (g := id), List.map_id]
      intro p hp
      have : p.1 ∈ ks := (List.of_mem_zip (a := p.1) (b := p.2) hp).1
      rw [if_neg fun q => hn (by rw [← q]; exact this)]
      rfl
    · rw [if_neg e]
      show _ = (z, x) :: (dput ks xs k y).1.zip (dput ks xs k y).2
      rw [← ih]
      rw [List.zip_cons_cons, List.any_cons, show decide ((z, x).1 = k) = false from decide_eq_false e, Bool.false_or]
      by_cases c : ((ks.zip xs).any fun kv => decide (kv.1 = k)) = true
      · rw [if_pos c, if_pos c, List.map_cons, if_neg e]
      · rw [if_neg c, if_neg c, List.cons_append]
theorem dput_len {α β : Type} : ∀ {ks : List Key} {vs : List α} {ws : List β} {k : Key} {y : α} {z : β}, vs.length = ws.length → (dput ks vs k y).1 = (dput ks ws k z).1
  | [], vs, ws, k, y, z, _ => by unfold dput; rfl
  | _ :: _, [], [], _, _, _, _ => by unfold dput; rfl
  | _ :: _, [], _ :: _, _, _, _, l => by cases l
  | _ :: _, _ :: _, [], _, _, _, l => by cases l
  | a :: ks, v :: vs, w :: ws, k, y, z, l => by
    unfold dput
    by_cases e : a = k
    · rw [if_pos e, if_pos e]
    · rw [if_neg e, if_neg e]
      show a :: _ = a :: _
      rw [dput_len (ks := ks) (vs := vs) (ws := ws) (k := k) (y := y) (z := z) (by simpa using l)]
theorem dput_len2 {α : Type} : ∀ {ks : List Key} {vs : List α} {k : Key} {y : α}, ks.length = vs.length → (dput ks vs k y).1.length = (dput ks vs k y).2.length
  | [], [], k, y, _ => rfl
  | [], _ :: _, _, _, l => by cases l
  | _ :: _, [], _, _, l => by cases l
  | a :: ks, v :: vs, k, y, l => by
    unfold dput
    by_cases e : a = k
    · rw [if_pos e]; simpa using l
    · rw [if_neg e]
      show (a :: _).length = (v :: _).length
      rw [List.length_cons, List.length_cons, dput_len2 (by simpa using l)]
theorem dput_rep : ∀ {ks : List Key} {ms : List M} {vs : List V} {fp f' : List Addr} {k : Key}, ks.length = ms.length → RepMs K Γ true H F ms vs fp → RepM K Γ true H F m' v f' →
    ∃ fq, RepMs K Γ true H F (dput ks ms k m').2 (dput ks vs k v).2 fq ∧ (fq.Perm (fp ++ f') ∨ ∃ f1 f2 f3, fp = f1 ++ (f2 ++ f3) ∧ fq = f1 ++ (f' ++ f3))
  | [], [], _, _, f', k, _, ⟨e1, e2⟩, h => by
    subst e1 e2
    exact ⟨f', ⟨v, [], f', [], rfl, by simp, h, rfl, rfl⟩, .inl (by simp)⟩
  | [], _ :: _, _, _, _, _, l, _, _ => by cases l
  | _ :: _, [], _, _, _, _, l, _, _ => by cases l
  | a :: ks, m :: ms, _, _, f', k, l, ⟨x, r, f1, f2, e1, e2, h1, h2⟩, h => by
    subst e1 e2
    unfold dput
    by_cases e : a = k
    · rw [if_pos e, if_pos e]
      exact ⟨f' ++ f2, ⟨v, r, f', f2, rfl, rfl, h, h2⟩, .inr ⟨[], f1, f2, rfl, rfl⟩⟩
    · rw [if_neg e, if_neg e]
      obtain ⟨fq, h3, h4⟩ := dput_rep (ks := ks) (k := k) (by simpa using l) h2 h
      refine ⟨f1 ++ fq, ⟨x, _, f1, fq, rfl, rfl, h1, h3⟩, ?_⟩
      rcases h4 with h4 | ⟨g1, g2, g3, e3, e4⟩
      · exact .inl (by rw [List.append_assoc]; exact h4.append_left f1)
      · exact .inr ⟨f1 ++ g1, g2, g3, by rw [e3, List.append_assoc], by rw [e4, List.append_assoc]⟩
end
section
variable {X : Cx} {Γ : Gm} {U : WX} {L : Nat → Bool} {W : Wd} {ea eb ec : Expr} {a b c : E} {exs : List Expr} {es : List E} {pos p : Pos}
def rSet : TSet := fun o i v H Q => rSetL o i v H Q ∨ rSetD o i v H Q
theorem set_ok (hu : X.A.units + 1 < cLine) : PSet X rSet := fun pins s σ H o i v ov iv u Q I ro ri rv h => h.elim (set_list pins s σ H o i v ov iv u Q I ro ri rv) (set_dict hu pins s σ H o i v ov iv u Q I ro ri rv)
theorem sg_subV {i : Nat} {x : Str} {xp : Pos} (hu : X.A.units + 1 < cLine) (hN : X.N[i]? = some x) (hv : Vis X.env.scope x) (hk : SE X Γ U W eb b)
    (hd : (x == ("__debug__" : Str)) = false := by decide) (hcd : (x == ("__classdict__" : Str)) = false := by decide)
    (ha : ∀ v, assign (.Subscript (.Name x xp) eb pos) X.env v = (do let ov ← holding [v] (eval (.Name x xp) X.env); let iv ← holding [v, ov] (eval eb X.env); standAt pos; holding [v, ov, iv] (setItem ov iv v); release [v, ov, iv] []) := by intro _; rfl) :
    SGt X Γ U L W (.Subscript (.Name x xp) eb pos) (.sub (.var i) b) :=
  PG.imp (pg_sub (pe_var hN hv hd hcd) hk (set_ok hu) ha) fun v σ H Q ⟨F, G, P, env, ow, fp, m, R, S, hm, k⟩ => by
    simp only [tgset, evP] at k
    cases hp : pathOk env i [] with
    | false => simp only [hp, Bool.false_eq_true, if_false, Out.bind] at k; exact k.elim
    | true =>
      simp only [hp, if_true, Out.bind, List.isEmpty_nil, Bool.not_true, Bool.false_and, Bool.false_eq_true, if_false] at k
      have h0 : ∃ m0, env.at i = .ok m0 true := by
        unfold pathOk at hp
        split at hp
        · rename_i m0 h; exact ⟨m0, h⟩
        · cases hp
      obtain ⟨m0, h0⟩ := h0
      obtain ⟨u, fq, hu0, _, _⟩ := R.rep.read h0
      refine ⟨u, hu0, F, G, _, env, ow, R.push S, ?_⟩
      have T0 : Stp H F (ow ++ fp) H F ow := ⟨fun _ _ h _ => h, fun _ h => h, fun _ h => .inl h, fun a h => .inl (List.mem_append_left _ h)⟩
      cases he : evE W b env with
      | stuck => rw [he] at k; exact k
      | exc c ds e1 =>
        rw [he] at k
        exact fun cls d H' ⟨F2, ow2, R2, T2, x2, l2, lr2⟩ => k cls d σ H' ⟨F2, ow2, R2.pop fun a h => .inl h, T0.trans T2 fun _ h => h, x2, l2, lr2, .refl⟩
      | ok r e1 =>
        rw [he] at k
        dsimp only at k
        intro y H2 ⟨F2, ow2, fy, R2, S2, T2, q2, l2, lr2⟩ _
        have T2' := T2.less (ow1' := ow2) fun x hx => List.mem_append_left _ hx
        have Sv : Sep H2 F2 G P ow2 fp := S.after T2'
        have hmv : RepM X.K Γ true H2 F2 m v fp := hm.ext (R.ext T2') (.of fun a o ha q => T2'.frame a o q (S.dO a ha))
        have R2' : Rst X.K Γ H2 F2 G P e1 σ ow2 := R2.pop fun a h => .inl h
        unfold Env.mod at k
        cases hat : e1.at i with
        | no => rw [hat] at k; exact k.elim
        | ok m1 w =>
          cases w with
          | false => rw [hat] at k; exact k.elim
          | true =>
            rw [hat] at k
            dsimp only at k
            cases hn : m1.isNode with
            | false => rw [hn, if_neg (by decide)] at k; exact k.elim
            | true =>
              rw [hn, if_pos rfl] at k
              unfold M.mod at k
              cases hf : setSub r.d m m1 with
              | none => rw [hf] at k; exact k.elim
              | some pr =>
                obtain ⟨m', uu⟩ := pr
                rw [hf] at k
                simp only [Option.map] at k
                obtain ⟨f, hmod⟩ := mod_ok (u := u) R2' Sv hat
                obtain ⟨subf, hm1, ndf, step⟩ := hmod hu0
                have fin : ∀ {H3 : Hp} {f' : List Addr}, (∀ a o, a ∉ f → H2 a = some o → H3 a = some o) → RepM X.K Γ true H3 F2 m' u f' → f'.Nodup → (∀ a ∈ f', a ∈ f ∨ a ∈ fp) → Q σ H3 := fun {H3 f'} h1 h2 h3 h4 => by
                  obtain ⟨ow', R3, S3, T3, l3, lr3⟩ := step (fz := []) h1 h2 (by rw [List.append_nil]; exact h3) (by rw [List.append_nil]; exact h4) fun _ h => (nomatch h)
                  rw [List.append_nil] at T3
                  have T23 : Stp H F (ow ++ fp) H2 F2 (ow2 ++ fp) := ⟨fun a o q n => T2'.frame a o q fun z => n (List.mem_append_left _ z), T2'.sub, fun a h => (T2'.new a h).imp id fun w => w.imp (List.mem_append_left _) id, fun a h => by
                    rcases List.mem_append.mp h with h | h
                    · exact (T2'.own a h).imp (List.mem_append_left _) id
                    · exact .inl (List.mem_append_right _ h)⟩
                  exact k σ H3 ⟨F2, ow', R3, T23.trans T3 fun _ h => h, l2.trans l3, lr2.trans lr3, .refl⟩
                have dvf : ∀ a ∈ fp, a ∉ f := fun a ha z => Sv.dO a ha (subf a z)
                cases m1 with
                | lst ms =>
                  have hf' : (match r.d with | .int i => (ixN ms.length i).map fun j => (M.lst (ms.set j m), ()) | _ => none) = some (m', uu) := hf
                  cases hd2 : r.d with
                  | int kk =>
                    rw [hd2] at hf'
                    dsimp only at hf'
                    cases hj : ixN ms.length kk with
                    | none => rw [hj] at hf'; cases hf'
                    | some j =>
                      rw [hj] at hf'
                      cases hf'
                      obtain ⟨l, xs, fs, rfl, ef, hx, hms⟩ := hm1
                      have lf : l ∈ f := by rw [ef]; exact List.mem_cons_self
                      rw [ef] at ndf
                      have nl := (List.nodup_cons.mp ndf).1
                      have nF : ¬ F2 l := R2'.dF l (subf l lf)
                      have nlp : l ∉ fp := fun z => dvf l z lf
                      have hjl : j < ms.length := (ixN_seq hj).2.1
                      have hmv3 : RepM X.K Γ true (upd H2 l (.lst (xs.set j v))) F2 m v fp := hmv.ext (.of (fun _ h => h) fun a u f q => by rw [upd_ne fun z => nF (by rw [← z]; exact f)]; exact q) (.of fun a u f q => by rw [upd_ne fun z => nlp (by rw [← z]; exact f)]; exact q)
                      obtain ⟨f1, fq, f2, e3, h3⟩ := RepMs.setAt (j := j) (hms.at_upd (o := .lst (xs.set j v)) nF nl) hjl hmv3
                      refine .inl ⟨l, xs, kk, j, rfl, q2.int hd2, hx, by rw [← hms.len]; exact hj, fin (f' := l :: (f1 ++ (fp ++ f2))) (upd_keep lf) ⟨l, _, _, rfl, rfl, upd_same, h3⟩ ?_ fun a h => ?_⟩
                      · rw [e3] at ndf nl
                        have nd2 := (List.nodup_cons.mp ndf).2
                        rw [List.nodup_append, List.nodup_append] at nd2
                        have inf : ∀ a, a ∈ f1 ∨ a ∈ f2 → a ∈ f := fun a h => by
                          rw [ef, e3]
                          exact List.mem_cons_of_mem _ (h.elim (List.mem_append_left _) fun z => List.mem_append_right _ (List.mem_append_right _ z))
                        refine List.nodup_cons.mpr ⟨fun z => ?_, List.nodup_append.mpr ⟨nd2.1, List.nodup_append.mpr ⟨Sv.nd, nd2.2.1.2.1, fun a ha b hb z => by subst z; exact dvf a ha (inf a (.inr hb))⟩, fun a ha b hb z => ?_⟩⟩
                        · rcases List.mem_append.mp z with z | z
                          · exact nl (List.mem_append_left _ z)
                          · rcases List.mem_append.mp z with z | z
                            · exact nlp z
                            · exact nl (List.mem_append_right _ (List.mem_append_right _ z))
                        · subst z
                          rcases List.mem_append.mp hb with hb | hb
                          · exact dvf a hb (inf a (.inl ha))
                          · exact nd2.2.2 a ha a (List.mem_append_right _ hb) rfl
                      · rcases List.mem_cons.mp h with rfl | h
                        · exact .inl lf
                        · rcases List.mem_append.mp h with h | h
                          · exact .inl (by rw [ef, e3]; exact List.mem_cons_of_mem _ (List.mem_append_left _ h))
                          · rcases List.mem_append.mp h with h | h
                            · exact .inr h
                            · exact .inl (by rw [ef, e3]; exact List.mem_cons_of_mem _ (List.mem_append_right _ (List.mem_append_right _ h)))
                  | _ => rw [hd2] at hf'; cases hf'
                | dct ks ms =>
                  have hf' : (r.d.key.bind fun x => if (decide ks.Nodup && decide (ms.length < 16777216)) = true then some (M.dct (dput ks ms x m).1 (dput ks ms x m).2, ()) else none) = some (m', uu) := hf
                  cases hkk : r.d.key with
                  | none => rw [hkk] at hf'; cases hf'
                  | some kk =>
                    rw [hkk] at hf'
                    have hf2 : (if (decide ks.Nodup && decide (ms.length < 16777216)) = true then some (M.dct (dput ks ms kk m).1 (dput ks ms kk m).2, ()) else none) = some (m', uu) := hf'
                    by_cases hc : (decide ks.Nodup && decide (ms.length < 16777216)) = true
                    · rw [if_pos hc] at hf2
                      cases hf2
                      rw [Bool.and_eq_true, decide_eq_true_eq, decide_eq_true_eq] at hc
                      obtain ⟨l, xs, fs, rfl, ef, hx, hl, hms⟩ := hm1
                      rw [if_pos rfl] at hx
                      have lf : l ∈ f := by rw [ef]; exact List.mem_cons_self
                      rw [ef] at ndf
                      have nl := (List.nodup_cons.mp ndf).1
                      have nF : ¬ F2 l := R2'.dF l (subf l lf)
                      have nlp : l ∉ fp := fun z => dvf l z lf
                      have hml : ks.length = ms.length := by rw [hl, hms.len]
                      have hmv3 : RepM X.K Γ true (upd H2 l (.dK (putK (ks.zip xs) kk v))) F2 m v fp := hmv.ext (.of (fun _ h => h) fun a u f q => by rw [upd_ne fun z => nF (by rw [← z]; exact f)]; exact q) (.of fun a u f q => by rw [upd_ne fun z => nlp (by rw [← z]; exact f)]; exact q)
                      obtain ⟨fq, h3, h4⟩ := dput_rep (k := kk) hml (hms.at_upd (o := .dK (putK (ks.zip xs) kk v)) nF nl) hmv3
                      have mem : ∀ a ∈ fq, a ∈ fs ∨ a ∈ fp := fun a h => by
                        rcases h4 with h4 | ⟨g1, g2, g3, e3, e4⟩
                        · exact List.mem_append.mp (h4.mem_iff.mp h)
                        · rw [e4] at h
                          rcases List.mem_append.mp h with h | h
                          · exact .inl (by rw [e3]; exact List.mem_append_left _ h)
                          · rcases List.mem_append.mp h with h | h
                            · exact .inr h
                            · exact .inl (by rw [e3]; exact List.mem_append_right _ (List.mem_append_right _ h))
                      have nds := (List.nodup_cons.mp ndf).2
                      have inf : ∀ a ∈ fs, a ∈ f := fun a h => by rw [ef]; exact List.mem_cons_of_mem _ h
                      have ndq : fq.Nodup := by
                        rcases h4 with h4 | ⟨g1, g2, g3, e3, e4⟩
                        · exact h4.nodup_iff.mpr (List.nodup_append.mpr ⟨nds, Sv.nd, fun a ha b hb z => by subst z; exact dvf a hb (inf a ha)⟩)
                        · rw [e3] at nds inf
                          rw [List.nodup_append, List.nodup_append] at nds
                          rw [e4]
                          refine List.nodup_append.mpr ⟨nds.1, List.nodup_append.mpr ⟨Sv.nd, nds.2.1.2.1, fun a ha b hb z => by subst z; exact dvf a ha (inf a (List.mem_append_right _ (List.mem_append_right _ hb)))⟩, fun a ha b hb z => ?_⟩
                          subst z
                          rcases List.mem_append.mp hb with hb | hb
                          · exact dvf a hb (inf a (List.mem_append_left _ ha))
                          · exact nds.2.2 a ha a (List.mem_append_right _ hb) rfl
                      have hlen : (ks.zip xs).length < sizeLine := by rw [List.length_zip, hl, Nat.min_self, ← hms.len, sizeLine_val]; exact hc.2
                      refine .inr ⟨l, upd H2 l (.dK (putK (ks.zip xs) kk v)), rfl, .inl ⟨_, kk, hx, key_kV q2.any hkk, hlen, rfl⟩, fin (f' := l :: fq) (upd_keep lf) ⟨l, (dput ks xs kk v).2, fq, rfl, rfl, ?_, ?_, h3⟩ (List.nodup_cons.mpr ⟨fun z => (mem l z).elim nl nlp, ndq⟩) fun a h => ?_⟩
                      · rw [if_pos rfl, upd_same, put_zip (α := Nat) hc.1 hl, dput_len (ks := ks) (ws := xs) (z := v) hms.len]
                      · rw [dput_len (ks := ks) (ws := xs) (z := v) hms.len]; exact dput_len2 hl
                      · rcases List.mem_cons.mp h with rfl | h
                        · exact .inl lf
                        · exact (mem a h).imp (inf a) id
                    · rw [if_neg hc] at hf2; cases hf2
                | fz d => cases hn
                | obj c fs vs => cases hf
                | tup vs => cases hf
end
end Pv
/-! Pv: writing at a path of a slot's own tree. -/
namespace Pv
open PySem PySem.Spec PyProof.Rows L2
section
variable {K : PySem.W.Frag} {Γ : Gm} {U : WX} {L : Nat → Bool} {H H' H1 H2 : Hp} {F F' F1 F2 G G' P : AP} {e e' e1 e2 env : Env} {σ σ' σ1 σ2 : L2.St} {ow ow' ow1 ow2 fp fr fz : List Addr} {r : RV} {m m' : M} {v x u : V}
/-- a node within a slot's tree is turned; what it let go is a temporary -/
theorem modP_ok {α : Type} {g : M → Option (M × α)} {i : Nat} {ps : List Step} {m2 : M} {a0 : α} (R : Rst K Γ H F G P e σ ow) (S : Sep H F G P ow fr) (hi : e.at i = .ok m true) (hu : σ[i]? = some (some u)) (hp : PathV H m u ps v) (hf : M.mod g ps m = some (m2, a0)) :
    ∃ n n2 fq, g n = some (n2, a0) ∧ (∀ a ∈ fq, a ∈ ow) ∧ RepM K Γ true H F n v fq ∧ fq.Nodup ∧
      ∀ {H3 : Hp} {f' fz : List Addr}, (∀ a o, a ∉ fq → H a = some o → H3 a = some o) → RepM K Γ true H3 F n2 v f' → (f' ++ fz).Nodup → (∀ a ∈ f' ++ fz, a ∈ fq ∨ a ∈ fr) → (∀ a ∈ fz, ∃ o, H3 a = some o) →
        ∃ ow', Rst K Γ H3 F G P (e.set i (.ok m2 true)) σ ow' ∧ Sep H3 F G P ow' fz ∧ Stp H F (ow ++ fr) H3 F (ow' ++ fz) ∧ LK e (e.set i (.ok m2 true)) ∧ LR σ σ e (e.set i (.ok m2 true)) := by
  obtain ⟨f, hmod⟩ := mod_ok (u := u) R S hi
  obtain ⟨subf, hm, ndf, step⟩ := hmod hu
  obtain ⟨n, n2, f1, fq, f2, h1, h2, h3, h4⟩ := RepM.at_path hm hp hf
  rw [h2, List.nodup_append, List.nodup_append] at ndf
  have sq : ∀ a ∈ fq, a ∈ f := fun a h => by rw [h2]; exact List.mem_append_right _ (List.mem_append_left _ h)
  have s1 : ∀ a ∈ f1, a ∈ f := fun a h => by rw [h2]; exact List.mem_append_left _ h
  have s2 : ∀ a ∈ f2, a ∈ f := fun a h => by rw [h2]; exact List.mem_append_right _ (List.mem_append_right _ h)
  have n1 : ∀ a, a ∈ f1 ∨ a ∈ f2 → a ∉ fq := fun a h z => h.elim (fun h => ndf.2.2 a h a (List.mem_append_left _ z) rfl) fun h => ndf.2.1.2.2 a z a h rfl
  have nr : ∀ a, a ∈ f1 ∨ a ∈ f2 → a ∉ fr := fun a h z => S.dO a z (subf a (h.elim (s1 a) (s2 a)))
  refine ⟨n, n2, fq, h1, fun a h => subf a (sq a h), h3, ndf.2.1.1, fun {H3 f' fz} kp q nd sb hz => ?_⟩
  have nd' := List.nodup_append.mp nd
  have nb : ∀ a, a ∈ f1 ∨ a ∈ f2 → a ∉ f' ++ fz := fun a h z => (sb a z).elim (n1 a h) (nr a h)
  refine step (f' := f1 ++ (f' ++ f2)) (fz := fz) (fun a o n q => kp a o (fun z => n (sq a z)) q) (h4 (.of (fun _ h => h) fun a o f q => kp a o (fun z => R.dF a (subf a (sq a z)) f) q) (fun a o h q => kp a o (n1 a h) q) q) ?_ (fun a h => ?_) hz
  · refine List.nodup_append.mpr ⟨List.nodup_append.mpr ⟨ndf.1, List.nodup_append.mpr ⟨nd'.1, ndf.2.1.2.1, fun a ha b hb z => ?_⟩, fun a ha b hb z => ?_⟩, nd'.2.1, fun a ha b hb z => ?_⟩
    · subst z; exact nb a (.inr hb) (List.mem_append_left _ ha)
    · subst z
      rcases List.mem_append.mp hb with hb | hb
      · exact nb a (.inl ha) (List.mem_append_left _ hb)
      · exact ndf.2.2 a ha a (List.mem_append_right _ hb) rfl
    · subst z
      rcases List.mem_append.mp ha with ha | ha
      · exact nb a (.inl ha) (List.mem_append_right _ hb)
      · rcases List.mem_append.mp ha with ha | ha
        · exact nd'.2.2 a ha a hb rfl
        · exact nb a (.inr ha) (List.mem_append_right _ hb)
  · rcases List.mem_append.mp h with h | h
    · rcases List.mem_append.mp h with h | h
      · exact .inl (s1 a h)
      · rcases List.mem_append.mp h with h | h
        · exact (sb a (List.mem_append_left _ h)).imp (sq a) id
        · exact .inl (s2 a h)
    · exact (sb a (List.mem_append_right _ h)).imp (sq a) id
/-- what stands at a path -/
theorem get_mod : ∀ {ps : List Step} {m n : M}, M.get ps m = some n → ∃ m2, M.mod (fun n => some (n, n)) ps m = some (m2, n)
  | [], m, n, h => by
    have e : some m = some n := by cases m <;> exact h
    cases e
    exact ⟨m, by cases m <;> rfl⟩
  | .fld s :: ps, .obj c fs ms, n, h => by
    unfold M.get at h
    unfold M.mod
    cases r1 : fidx fs s with
    | none => rw [r1] at h; cases h
    | some j =>
      rw [r1] at h
      have h' : (ms[j]?).bind (fun m => M.get ps m) = some n := h
      cases r2 : ms[j]? with
      | none => rw [r2] at h'; cases h'
      | some x =>
        rw [r2] at h'
        obtain ⟨m2, e⟩ := get_mod (ps := ps) (m := x) (n := n) h'
        refine ⟨.obj c fs (ms.set j m2), ?_⟩
        simp only [Option.bind_some, r2, e, Option.map_some]
  | .key d :: ps, .lst ms, n, h => by
    unfold M.get at h
    unfold M.mod
    cases r0 : D.i? d with
    | none => rw [r0] at h; cases h
    | some i =>
      rw [r0] at h
      have h0 : (ixN ms.length i).bind (fun j => (ms[j]?).bind fun m => M.get ps m) = some n := h
      cases r1 : ixN ms.length i with
      | none => rw [r1] at h0; cases h0
      | some j =>
        rw [r1] at h0
        have h' : (ms[j]?).bind (fun m => M.get ps m) = some n := h0
        cases r2 : ms[j]? with
        | none => rw [r2] at h'; cases h'
        | some x =>
          rw [r2] at h'
          obtain ⟨m2, e⟩ := get_mod (ps := ps) (m := x) (n := n) h'
          refine ⟨.lst (ms.set j m2), ?_⟩
          simp only [Option.bind_some, r1, r2, e, Option.map_some]
  | .key d :: ps, .tup ms, n, h => by
    unfold M.get at h
    unfold M.mod
    cases r0 : D.i? d with
    | none => rw [r0] at h; cases h
    | some i =>
      rw [r0] at h
      have h0 : (ixN ms.length i).bind (fun j => (ms[j]?).bind fun m => M.get ps m) = some n := h
      cases r1 : ixN ms.length i with
      | none => rw [r1] at h0; cases h0
      | some j =>
        rw [r1] at h0
        have h' : (ms[j]?).bind (fun m => M.get ps m) = some n := h0
        cases r2 : ms[j]? with
        | none => rw [r2] at h'; cases h'
        | some x =>
          rw [r2] at h'
          obtain ⟨m2, e⟩ := get_mod (ps := ps) (m := x) (n := n) h'
          refine ⟨.tup (ms.set j m2), ?_⟩
          simp only [Option.bind_some, r1, r2, e, Option.map_some]
  | .key d :: ps, .dct ks ms, n, h => by
    unfold M.get at h
    unfold M.mod
    cases r0 : d.key with
    | none => rw [r0] at h; cases h
    | some i =>
      rw [r0] at h
      have h0 : (kidx ks i).bind (fun j => (ms[j]?).bind fun m => M.get ps m) = some n := h
      cases r1 : kidx ks i with
      | none => rw [r1] at h0; cases h0
      | some j =>
        rw [r1] at h0
        have h' : (ms[j]?).bind (fun m => M.get ps m) = some n := h0
        cases r2 : ms[j]? with
        | none => rw [r2] at h'; cases h'
        | some x =>
          rw [r2] at h'
          obtain ⟨m2, e⟩ := get_mod (ps := ps) (m := x) (n := n) h'
          refine ⟨.dct ks (ms.set j m2), ?_⟩
          simp only [Option.bind_some, r1, r2, e, Option.map_some]
  | .fld s :: ps, .fz _, n, h => nomatch h
  | .fld s :: ps, .lst _, n, h => nomatch h
  | .fld s :: ps, .dct _ _, n, h => nomatch h
  | .fld s :: ps, .tup _, n, h => nomatch h
  | .key d :: ps, .fz _, n, h => nomatch h
  | .key d :: ps, .obj _ _ _, n, h => nomatch h
theorem RepM.got {ps : List Step} {m n : M} {fp : List Addr} (h : RepM K Γ true H F m u fp) (p : PathV H m u ps v) (e : M.get ps m = some n) : ∃ fq, RepM K Γ true H F n v fq := by
  obtain ⟨m2, e2⟩ := get_mod e
  obtain ⟨n', n2, f1, fq, f2, h1, h2, h3, h4⟩ := RepM.at_path h p e2
  cases h1
  exact ⟨fq, h3⟩
end
/-- an expression that names a place -/
structure PlaceOk (K : PySem.W.Frag) (Γ : Gm) (W : Wd) (tP : TE) (pl : E) (i : Nat) (ps : List Step) (chk : Env → Bool) : Prop where
  ev : ∀ e, evP W pl e = if chk e = true then .ok (i, ps) e else .stuck
  at_ : ∀ {σ : L2.St} {H : Hp} {F G P : AP} {env : Env} {ow : List Addr}, Rst K Γ H F G P env σ ow → chk env = true → ∃ m0 u v, env.at i = .ok m0 true ∧ σ[i]? = some (some u) ∧ PathV H m0 u ps v ∧ ∀ Q : VK, Q v H → tP σ H Q
section
variable {X : Cx} {Γ : Gm} {U : WX} {L : Nat → Bool} {W : Wd} {ea eb ec : Expr} {a b c : E} {exs : List Expr} {es : List E} {pos p : Pos}
theorem rd_mutP {tP : TE} {pl : E} {i : Nat} {ps : List Step} {chk : Env → Bool} {b : Mu} {σ : L2.St} {H : Hp} {Q : VK} (PL : PlaceOk X.K Γ W tP pl i ps chk) (q : rdE X.K Γ U (evE W (.mut b pl es)) false σ H Q) :
    tP σ H fun x H1 => tyV X.K "list" x H1 ∧ rdL X.K Γ U (evEs W es) (pureEs es) σ H1 fun vs H2 => roMu b x vs H2 Q := by
  obtain ⟨F, G, P, env, ow, R, k⟩ := q
  rw [evE, PL.ev] at k
  cases hp : chk env with
  | false => rw [hp, if_neg (by decide)] at k; exact k.elim
  | true =>
    rw [hp, if_pos rfl] at k
    simp only [Out.bind] at k
    cases hl : lstAt env i ps with
    | false => rw [hl] at k; exact k.elim
    | true =>
      cases hpu : (ps.isEmpty || pureEs es) with
      | false => simp only [hl, hpu, Bool.and_false, Bool.false_eq_true, if_false] at k; exact k.elim
      | true =>
      simp only [hl, hpu, Bool.and_true, if_true] at k
      obtain ⟨m0, u, v0, h0, hu, hpv, htP⟩ := PL.at_ R hp
      have hl' : ∃ ms, M.get ps m0 = some (.lst ms) := by
        unfold lstAt at hl
        rw [h0] at hl
        dsimp only at hl
        cases hg : M.get ps m0 with
        | none => rw [hg] at hl; cases hl
        | some n =>
          rw [hg] at hl
          cases n with
          | lst ms => exact ⟨ms, rfl⟩
          | _ => cases hl
      obtain ⟨ms0, hg0⟩ := hl'
      obtain ⟨_, f0, _, u', _, hu0, hm0, _⟩ := R.rep.take h0
      rw [hu] at hu0
      cases hu0
      refine htP _ ⟨?_, F, G, P, env, ow, R, ?_⟩
      · obtain ⟨fq, l, xs, fs, rfl, _, hx, _⟩ := hm0.got hpv hg0
        exact .inl ⟨rfl, xs, SqL.of hx⟩
      · cases he : evEs W es env with
        | stuck => rw [he] at k; exact k
        | exc c ds e1 => rw [he] at k; exact k
        | ok rs e1 =>
          rw [he] at k
          dsimp only at k
          intro vs H2 ⟨F2, ow2, fr, R2, S2, T2, q2, l2, lr2⟩ hpure
          unfold Env.mod at k
          cases ha : e1.at i with
          | no => rw [ha] at k; exact k.elim
          | ok m w =>
            cases w with
            | false => rw [ha] at k; exact k.elim
            | true =>
              rw [ha] at k
              dsimp only at k
              cases hn : m.isNode with
              | false => rw [hn, if_neg (by decide)] at k; exact k.elim
              | true =>
                rw [hn, if_pos rfl] at k
                cases hf0 : M.mod (muF b rs) ps m with
                | none => rw [hf0] at k; exact k.elim
                | some p =>
                  obtain ⟨m'', r⟩ := p
                  rw [hf0] at k
                  simp only [Option.map] at k
                  have hpv2 : PathV H2 m u ps v0 := by
                    cases ps with
                    | nil =>
                      have : v0 = u := by cases m0 <;> exact hpv
                      subst this; cases m <;> rfl
                    | cons s ps =>
                      have hpe : pureEs es = true := by simpa using hpu
                      obtain ⟨rfl, kp⟩ := hpure hpe
                      rw [h0] at ha
                      cases ha
                      exact hpv.keep kp
                  obtain ⟨n, m', f, hf, subf, hm, ndf, step⟩ := modP_ok R2 S2 ha hu hpv2 hf0
                  obtain ⟨ms, rfl⟩ := muF_lst hf
                  obtain ⟨l, xs, fs, rfl, ef, hx, hms⟩ := hm
                  have lf : l ∈ f := by rw [ef]; exact List.mem_cons_self
                  have nl : l ∉ fs := by rw [ef] at ndf; exact (List.nodup_cons.mp ndf).1
                  have nF : ¬ F2 l := R2.dF l (subf l lf)
                  have fin : ∀ {H3 : Hp} {f' fz : List Addr} {z : V}, (∀ a o, a ∉ f → H2 a = some o → H3 a = some o) → RepM X.K Γ true H3 F2 m' (.ref l) f' → (f' ++ fz).Nodup → (∀ a ∈ f' ++ fz, a ∈ f ∨ a ∈ fr) → (∀ a ∈ fz, ∃ o, H3 a = some o) → RepR X.K Γ H3 F2 r z fz → Q z H3 := fun {H3 f' fz z} h1 h2 h3 h4 h5 h6 => by
                    obtain ⟨ow', R3, S3, T3, l3, lr3⟩ := step h1 h2 h3 h4 h5
                    exact k z H3 ⟨F2, ow', fz, R3, S3, T2.trans T3 fun _ h => h, h6, l2.trans l3, lr2.trans lr3⟩ fun z => nomatch z
                  have nlr : l ∉ fr := fun z => S2.dO l z (subf l lf)
                  have dfr : ∀ a ∈ fs, a ∉ fr := fun a ha z => S2.dO a z (subf a (by rw [ef]; exact List.mem_cons_of_mem _ ha))
                  cases b with
                  | append =>
                    cases rs with
                    | nil => cases hf
                    | cons s rs =>
                      cases rs with
                      | cons _ _ => cases hf
                      | nil =>
                        obtain ⟨y, rfl, q1⟩ := q2.one
                        have hf' : (s.sto.bind fun m => if decide (ms.length < 16777216) = true then some (M.lst (ms ++ [m]), RV.of .non) else none) = some (m', r) := hf
                        cases hs : s.sto with
                        | none => rw [hs] at hf'; cases hf'
                        | some my =>
                          rw [hs] at hf'
                          have hf2 : (if decide (ms.length < 16777216) = true then some (M.lst (ms ++ [my]), RV.of .non) else none) = some (m', r) := hf'
                          by_cases hlen : ms.length < 16777216
                          · rw [if_pos (by simpa using hlen)] at hf2
                            cases hf2
                            have hy := q1.sto hs
                            refine ⟨l, xs, y, rfl, rfl, hx, by rw [← hms.len, sizeLine_val]; exact hlen, fin (f' := l :: (fs ++ fr)) (fz := []) (upd_keep lf) ⟨l, xs ++ [y], fs ++ fr, rfl, rfl, upd_same, (hms.at_upd nF nl).app ⟨y, [], fr, [], rfl, by simp, ?_, rfl, rfl⟩⟩ ?_ (fun a h => ?_) (fun _ h => (nomatch h)) ⟨rfl, rfl⟩⟩
                            · exact hy.ext (.of (fun _ h => h) fun a u f q => by rw [upd_ne fun z => nF (by rw [← z]; exact f)]; exact q) (.of fun a u f q => by rw [upd_ne fun z => nlr (by rw [← z]; exact f)]; exact q)
                            · rw [List.append_nil]
                              rw [ef] at ndf
                              refine List.nodup_cons.mpr ⟨fun z => (List.mem_append.mp z).elim nl nlr, List.nodup_append.mpr ⟨(List.nodup_cons.mp ndf).2, S2.nd, fun a ha b hb z => by subst z; exact dfr a ha hb⟩⟩
                            · rw [List.append_nil] at h
                              rcases List.mem_cons.mp h with rfl | h
                              · exact .inl lf
                              · rcases List.mem_append.mp h with h | h
                                · exact .inl (by rw [ef]; exact List.mem_cons_of_mem _ h)
                                · exact .inr h
                          · rw [if_neg (by simpa using hlen)] at hf2; cases hf2
                  | extend =>
                    cases rs with
                    | nil => cases hf
                    | cons s rs =>
                      cases rs with
                      | cons _ _ => cases hf
                      | nil =>
                        obtain ⟨y, rfl, q1⟩ := q2.one
                        have hf' : ((extF s).bind fun ds => if decide (ms.length + ds.length ≤ 16777216) = true then some (M.lst (ms ++ ds.map .fz), RV.of .non) else none) = some (m', r) := hf
                        cases hs : extF s with
                        | none => rw [hs] at hf'; cases hf'
                        | some ds =>
                          rw [hs] at hf'
                          have hf2 : (if decide (ms.length + ds.length ≤ 16777216) = true then some (M.lst (ms ++ ds.map .fz), RV.of .non) else none) = some (m', r) := hf'
                          by_cases hlen : ms.length + ds.length ≤ 16777216
                          · rw [if_pos (by simpa using hlen)] at hf2
                            cases hf2
                            obtain ⟨b, zs, rfl, hb, hz⟩ := extF_ok q1 hs
                            have hz2 : RepDs X.K Γ (upd H2 l (.lst (xs ++ zs))) F2 ds zs := hz.ext (.of (fun _ h => h) fun a u f q => by rw [upd_ne fun z => nF (by rw [← z]; exact f)]; exact q)
                            refine ⟨l, b, xs, zs, rfl, rfl, hx, hb, by rw [← hms.len, ← hz.len, sizeLine_val]; exact hlen, fin (f' := l :: fs) (fz := []) (upd_keep lf) ⟨l, xs ++ zs, fs, rfl, rfl, upd_same, by
                              have := (hms.at_upd (o := .lst (xs ++ zs)) nF nl).app (RepMs.of_fz (b := true) hz2)
                              rwa [List.append_nil] at this⟩ (by rw [List.append_nil, ← ef]; exact ndf) (fun a h => .inl (by rw [List.append_nil] at h; rw [ef]; exact h)) (fun _ h => (nomatch h)) ⟨rfl, rfl⟩⟩
                          · rw [if_neg (by simpa using hlen)] at hf2; cases hf2
                  | pop0 =>
                    cases rs with
                    | cons _ _ => cases hf
                    | nil =>
                      obtain ⟨rfl, rfl⟩ := q2
                      have hf' : (ms.getLast?.map fun m => (M.lst ms.dropLast, (⟨m, false⟩ : RV))) = some (m', r) := hf
                      cases hg : ms.getLast? with
                      | none => rw [hg] at hf'; cases hf'
                      | some ml =>
                        rw [hg] at hf'
                        cases hf'
                        have hne : ms ≠ [] := fun z => by rw [z] at hg; cases hg
                        have hms' : ms = ms.dropLast ++ [ml] := by
                          have := List.dropLast_concat_getLast hne
                          rw [List.getLast?_eq_some_getLast hne] at hg
                          cases hg
                          exact this.symm
                        rw [hms'] at hms
                        obtain ⟨xs1, xs2, g1, g2, e1, e2, h1, h2⟩ := RepMs.unapp hms
                        obtain ⟨v, t, g3, g4, e3, e4, h3, h4, h5⟩ := h2
                        subst h4 h5 e1 e3
                        rw [List.append_nil] at e4
                        subst e4
                        have ndf' := ndf
                        rw [ef, e2] at ndf'
                        refine ⟨l, _, v, rfl, rfl, hx, by simp, ?_⟩
                        rw [List.dropLast_concat]
                        refine fin (f' := l :: g1) (fz := g2) (upd_keep lf) ⟨l, xs1, g1, rfl, rfl, upd_same, h1.at_upd nF fun z => nl (by rw [e2]; exact List.mem_append_left _ z)⟩ ndf' (fun a h => .inl (by rw [ef, e2]; exact h)) (fun a ha => ?_) ?_
                        · obtain ⟨o, q⟩ := h3.has a ha
                          have : a ≠ l := fun z => nl (by rw [e2, ← z]; exact List.mem_append_right _ ha)
                          exact ⟨o, by rw [upd_ne this]; exact q⟩
                        · show RepM X.K Γ true _ F2 ml v g2
                          exact h3.ext (.of (fun _ h => h) fun a u f q => by rw [upd_ne fun z => nF (by rw [← z]; exact f)]; exact q) (.of fun a u f q => by rw [upd_ne fun z => nl (by rw [e2, ← z]; exact List.mem_append_right _ f)]; exact q)
                  | clear =>
                    cases rs with
                    | cons _ _ => cases hf
                    | nil =>
                      obtain ⟨rfl, rfl⟩ := q2
                      have hf' : some (M.lst [], RV.of .non) = some (m', r) := hf
                      cases hf'
                      exact ⟨l, xs, rfl, rfl, hx, fin (f' := [l]) (fz := []) (upd_keep lf) ⟨l, [], [], rfl, rfl, upd_same, rfl, rfl⟩ (by simp) (fun a h => .inl (by rw [List.append_nil, List.mem_singleton] at h; rw [h]; exact lf)) (fun _ h => (nomatch h)) ⟨rfl, rfl⟩⟩
                  | insert => unfold muF at hf; split at hf <;> simp_all
                  | pop1 => unfold muF at hf; split at hf <;> simp_all
                  | setdefault => unfold muF at hf; split at hf <;> simp_all
end
end Pv
/-! Pv: places; writing at them: the rules. -/
namespace Pv
open PySem PySem.Spec PyProof.Rows L2
section
variable {X : Cx} {Γ : Gm} {U : WX} {L : Nat → Bool} {W : Wd} {ea eb ec : Expr} {a b c : E} {exs : List Expr} {es : List E} {pos p : Pos}
theorem pathOk_some {e : Env} {i : Nat} {ps : List Step} (h : pathOk e i ps = true) : ∃ m n, e.at i = .ok m true ∧ M.get ps m = some n := by
  unfold pathOk at h
  split at h
  · rename_i m hm
    rw [Bool.and_eq_true] at h
    cases hg : M.get ps m with
    | none => rw [hg] at h; cases h.2
    | some n => exact ⟨m, n, hm, hg⟩
  · cases h
theorem pl_var {i : Nat} : PlaceOk X.K Γ W (tVar i) (.var i) i [] (fun e => pathOk e i []) := by
  refine ⟨fun e => by rw [evP], fun {σ H F G P env ow} R h => ?_⟩
  obtain ⟨m, n, h0, _⟩ := pathOk_some h
  obtain ⟨u, fq, hu, _, _⟩ := R.rep.read h0
  exact ⟨m, u, u, h0, hu, by cases m <;> rfl, fun Q q => ⟨u, hu, q⟩⟩
/-- a field of a slot's own object -/
theorem pl_fld {i : Nat} {f : Str} (hc : ∀ c, L2.Cls X.K (Γ.cls c)) (hn : ∀ c, NoAttr X.K (Γ.cls c) f) : PlaceOk X.K Γ W (tFld X.K (tVar i) f) (.attr (.var i) f) i [.fld f] (fun e => pathOk e i [] && pathOk e i [.fld f]) := by
  refine ⟨fun e => ?_, fun {σ H F G P env ow} R h => ?_⟩
  · rw [evP, evP]
    cases h1 : pathOk e i [] with
    | false => rfl
    | true =>
      simp only [if_true, Out.bind, List.nil_append, Bool.true_and]
  · rw [Bool.and_eq_true] at h
    obtain ⟨m, n, h0, hg⟩ := pathOk_some h.2
    obtain ⟨_, f0, _, u, _, hu, hm, _⟩ := R.rep.take h0
    have p0 : PathV H m u [] u := by cases m <;> rfl
    obtain ⟨w, hw, a, c, dx, fs, e1, e2, e3⟩ := path_step hm p0 (s := .fld f) hg
    exact ⟨m, u, w, h0, hu, hw, fun Q q => ⟨u, hu, a, _, dx, fs, w, e1, e2, hc c, hn c, e3, q⟩⟩
theorem pe_plf {i : Nat} {x f : Str} {xp : Pos} (hN : X.N[i]? = some x) (hv : Vis X.env.scope x) (hb : attributeBase (.Name x xp) f X.env (eval (.Name x xp) X.env) = eval (.Name x xp) X.env := by rfl)
    (hd : (x == ("__debug__" : Str)) = false := by decide) (hcd : (x == ("__classdict__" : Str)) = false := by decide) : PE X (.Attribute (.Name x xp) f pos) (tFld X.K (tVar i) f) := pe_fld (pe_var hN hv hd hcd) hb
theorem se_appendP {pl : E} {tP : TE} {i : Nat} {ps : List Step} {chk : Env → Bool} {apos : Pos} (PL : PlaceOk X.K Γ W tP pl i ps chk) (hp : PE X ea tP) (hb : SE X Γ U W eb b)
    (hbase : attributeBase ea "append" X.env (eval ea X.env) = eval ea X.env := by rfl)
    (hfew : ((backTo pos (starEach [eb] X.env)).all (fun x => !x.1) && (backToKw pos (keywordEach [] X.env)).all (fun x => x.1.isSome) && decide (([eb] : List Expr).length + ([] : List Keyword).length + (if ([] : List Keyword).isEmpty then 0 else 1) < 30)) = true := by rfl)
    (hline : (apos.endLine == pos.line) = true := by rfl) (hs : starEach [eb] X.env = (false, eval eb X.env) :: starEach [] X.env := by rfl) (hplain : (backTo pos (starEach [] X.env)).any (·.1) = false := by rfl) :
    SE X Γ U W (.Call (.Attribute ea "append" apos) [eb] [] pos) (.mut .append pl [b]) :=
  PE.imp (pe_bm PySem.F.plainAttrs_list PySem.F.slot_list_append PySem.F.type_list_append mt_append hp (sa_cons hb sa_nil hs) hbase hfew hline hs hplain) fun σ H Q q => rd_mutP PL q
theorem sg_subP {pl : E} {tP : TE} {i : Nat} {ps : List Step} {chk : Env → Bool} (PL : PlaceOk X.K Γ W tP pl i ps chk) (hpe : PE X ea tP) (hu : X.A.units + 1 < cLine) (hk : SE X Γ U W eb b)
    (ha : ∀ v, assign (.Subscript ea eb pos) X.env v = (do let ov ← holding [v] (eval ea X.env); let iv ← holding [v, ov] (eval eb X.env); standAt pos; holding [v, ov, iv] (setItem ov iv v); release [v, ov, iv] []) := by intro _; rfl) :
    SGt X Γ U L W (.Subscript ea eb pos) (.sub pl b) :=
  PG.imp (pg_sub hpe hk (set_ok hu) ha) fun v σ H Q ⟨F, G, P, env, ow, fp, m, R, S, hm, k⟩ => by
    simp only [tgset, PL.ev] at k
    cases hp : chk env with
    | false => simp only [hp, Bool.false_eq_true, if_false, Out.bind] at k; exact k.elim
    | true =>
      cases hpu : (!ps.isEmpty && !pureE b) with
      | true => simp only [hp, hpu, if_true, Out.bind] at k; exact k.elim
      | false =>
      simp only [hp, hpu, if_true, Out.bind, Bool.false_eq_true, if_false] at k
      obtain ⟨m0, u, v0, h0, hu0, hpv, htP⟩ := PL.at_ R hp
      refine htP _ ⟨F, G, _, env, ow, R.push S, ?_⟩
      have T0 : Stp H F (ow ++ fp) H F ow := ⟨fun _ _ h _ => h, fun _ h => h, fun _ h => .inl h, fun a h => .inl (List.mem_append_left _ h)⟩
      cases he : evE W b env with
      | stuck => rw [he] at k; exact k
      | exc c ds e1 =>
        rw [he] at k
        exact fun cls d H' ⟨F2, ow2, R2, T2, x2, l2, lr2⟩ => k cls d σ H' ⟨F2, ow2, R2.pop fun a h => .inl h, T0.trans T2 fun _ h => h, x2, l2, lr2, .refl⟩
      | ok r e1 =>
        rw [he] at k
        dsimp only at k
        intro y H2 ⟨F2, ow2, fy, R2, S2, T2, q2, l2, lr2⟩ hpure
        have T2' := T2.less (ow1' := ow2) fun x hx => List.mem_append_left _ hx
        have Sv : Sep H2 F2 G P ow2 fp := S.after T2'
        have hmv : RepM X.K Γ true H2 F2 m v fp := hm.ext (R.ext T2') (.of fun a o ha q => T2'.frame a o q (S.dO a ha))
        have R2' : Rst X.K Γ H2 F2 G P e1 σ ow2 := R2.pop fun a h => .inl h
        unfold Env.mod at k
        cases hat : e1.at i with
        | no => rw [hat] at k; exact k.elim
        | ok m1 w =>
          cases w with
          | false => rw [hat] at k; exact k.elim
          | true =>
            rw [hat] at k
            dsimp only at k
            cases hn : m1.isNode with
            | false => rw [hn, if_neg (by decide)] at k; exact k.elim
            | true =>
              rw [hn, if_pos rfl] at k
              cases hf0 : M.mod (setSub r.d m) ps m1 with
              | none => rw [hf0] at k; exact k.elim
              | some pr =>
                obtain ⟨m'', uu⟩ := pr
                rw [hf0] at k
                simp only [Option.map] at k
                have hpv2 : PathV H2 m1 u ps v0 := by
                  cases ps with
                  | nil =>
                    have : v0 = u := by cases m0 <;> exact hpv
                    subst this; cases m1 <;> rfl
                  | cons s ps =>
                    have hpe : pureE b = true := by simpa using hpu
                    obtain ⟨rfl, kp⟩ := hpure hpe
                    rw [h0] at hat
                    cases hat
                    exact hpv.keep kp
                obtain ⟨n, m', f, hf, subf, hm1, ndf, step⟩ := modP_ok R2' Sv hat hu0 hpv2 hf0
                have fin : ∀ {H3 : Hp} {f' : List Addr}, (∀ a o, a ∉ f → H2 a = some o → H3 a = some o) → RepM X.K Γ true H3 F2 m' v0 f' → f'.Nodup → (∀ a ∈ f', a ∈ f ∨ a ∈ fp) → Q σ H3 := fun {H3 f'} h1 h2 h3 h4 => by
                  obtain ⟨ow', R3, S3, T3, l3, lr3⟩ := step (fz := []) h1 h2 (by rw [List.append_nil]; exact h3) (by rw [List.append_nil]; exact h4) fun _ h => (nomatch h)
                  rw [List.append_nil] at T3
                  have T23 : Stp H F (ow ++ fp) H2 F2 (ow2 ++ fp) := ⟨fun a o q n => T2'.frame a o q fun z => n (List.mem_append_left _ z), T2'.sub, fun a h => (T2'.new a h).imp id fun w => w.imp (List.mem_append_left _) id, fun a h => by
                    rcases List.mem_append.mp h with h | h
                    · exact (T2'.own a h).imp (List.mem_append_left _) id
                    · exact .inl (List.mem_append_right _ h)⟩
                  exact k σ H3 ⟨F2, ow', R3, T23.trans T3 fun _ h => h, l2.trans l3, lr2.trans lr3, .refl⟩
                have dvf : ∀ a ∈ fp, a ∉ f := fun a ha z => Sv.dO a ha (subf a z)
                cases n with
                | lst ms =>
                  have hf' : (match r.d with | .int i => (ixN ms.length i).map fun j => (M.lst (ms.set j m), ()) | _ => none) = some (m', uu) := hf
                  cases hd2 : r.d with
                  | int kk =>
                    rw [hd2] at hf'
                    dsimp only at hf'
                    cases hj : ixN ms.length kk with
                    | none => rw [hj] at hf'; cases hf'
                    | some j =>
                      rw [hj] at hf'
                      cases hf'
                      obtain ⟨l, xs, fs, rfl, ef, hx, hms⟩ := hm1
                      have lf : l ∈ f := by rw [ef]; exact List.mem_cons_self
                      rw [ef] at ndf
                      have nl := (List.nodup_cons.mp ndf).1
                      have nF : ¬ F2 l := R2'.dF l (subf l lf)
                      have nlp : l ∉ fp := fun z => dvf l z lf
                      have hjl : j < ms.length := (ixN_seq hj).2.1
                      have hmv3 : RepM X.K Γ true (upd H2 l (.lst (xs.set j v))) F2 m v fp := hmv.ext (.of (fun _ h => h) fun a u f q => by rw [upd_ne fun z => nF (by rw [← z]; exact f)]; exact q) (.of fun a u f q => by rw [upd_ne fun z => nlp (by rw [← z]; exact f)]; exact q)
                      obtain ⟨f1, fq, f2, e3, h3⟩ := RepMs.setAt (j := j) (hms.at_upd (o := .lst (xs.set j v)) nF nl) hjl hmv3
                      refine .inl ⟨l, xs, kk, j, rfl, q2.int hd2, hx, by rw [← hms.len]; exact hj, fin (f' := l :: (f1 ++ (fp ++ f2))) (upd_keep lf) ⟨l, _, _, rfl, rfl, upd_same, h3⟩ ?_ fun a h => ?_⟩
                      · rw [e3] at ndf nl
                        have nd2 := (List.nodup_cons.mp ndf).2
                        rw [List.nodup_append, List.nodup_append] at nd2
                        have inf : ∀ a, a ∈ f1 ∨ a ∈ f2 → a ∈ f := fun a h => by
                          rw [ef, e3]
                          exact List.mem_cons_of_mem _ (h.elim (List.mem_append_left _) fun z => List.mem_append_right _ (List.mem_append_right _ z))
                        refine List.nodup_cons.mpr ⟨fun z => ?_, List.nodup_append.mpr ⟨nd2.1, List.nodup_append.mpr ⟨Sv.nd, nd2.2.1.2.1, fun a ha b hb z => by subst z; exact dvf a ha (inf a (.inr hb))⟩, fun a ha b hb z => ?_⟩⟩
                        · rcases List.mem_append.mp z with z | z
                          · exact nl (List.mem_append_left _ z)
                          · rcases List.mem_append.mp z with z | z
                            · exact nlp z
                            · exact nl (List.mem_append_right _ (List.mem_append_right _ z))
                        · subst z
                          rcases List.mem_append.mp hb with hb | hb
                          · exact dvf a hb (inf a (.inl ha))
                          · exact nd2.2.2 a ha a (List.mem_append_right _ hb) rfl
                      · rcases List.mem_cons.mp h with rfl | h
                        · exact .inl lf
                        · rcases List.mem_append.mp h with h | h
                          · exact .inl (by rw [ef, e3]; exact List.mem_cons_of_mem _ (List.mem_append_left _ h))
                          · rcases List.mem_append.mp h with h | h
                            · exact .inr h
                            · exact .inl (by rw [ef, e3]; exact List.mem_cons_of_mem _ (List.mem_append_right _ (List.mem_append_right _ h)))
                  | _ => rw [hd2] at hf'; cases hf'
                | dct ks ms =>
                  have hf' : (r.d.key.bind fun x => if (decide ks.Nodup && decide (ms.length < 16777216)) = true then some (M.dct (dput ks ms x m).1 (dput ks ms x m).2, ()) else none) = some (m', uu) := hf
                  cases hkk : r.d.key with
                  | none => rw [hkk] at hf'; cases hf'
                  | some kk =>
                    rw [hkk] at hf'
                    have hf2 : (if (decide ks.Nodup && decide (ms.length < 16777216)) = true then some (M.dct (dput ks ms kk m).1 (dput ks ms kk m).2, ()) else none) = some (m', uu) := hf'
                    by_cases hc : (decide ks.Nodup && decide (ms.length < 16777216)) = true
                    · rw [if_pos hc] at hf2
                      cases hf2
                      rw [Bool.and_eq_true, decide_eq_true_eq, decide_eq_true_eq] at hc
                      obtain ⟨l, xs, fs, rfl, ef, hx, hl, hms⟩ := hm1
                      rw [if_pos rfl] at hx
                      have lf : l ∈ f := by rw [ef]; exact List.mem_cons_self
                      rw [ef] at ndf
                      have nl := (List.nodup_cons.mp ndf).1
                      have nF : ¬ F2 l := R2'.dF l (subf l lf)
                      have nlp : l ∉ fp := fun z => dvf l z lf
                      have hml : ks.length = ms.length := by rw [hl, hms.len]
                      have hmv3 : RepM X.K Γ true (upd H2 l (.dK (putK (ks.zip xs) kk v))) F2 m v fp := hmv.ext (.of (fun _ h => h) fun a u f q => by rw [upd_ne fun z => nF (by rw [← z]; exact f)]; exact q) (.of fun a u f q => by rw [upd_ne fun z => nlp (by rw [← z]; exact f)]; exact q)
                      obtain ⟨fq, h3, h4⟩ := dput_rep (k := kk) hml (hms.at_upd (o := .dK (putK (ks.zip xs) kk v)) nF nl) hmv3
                      have mem : ∀ a ∈ fq, a ∈ fs ∨ a ∈ fp := fun a h => by
                        rcases h4 with h4 | ⟨g1, g2, g3, e3, e4⟩
                        · exact List.mem_append.mp (h4.mem_iff.mp h)
                        · rw [e4] at h
                          rcases List.mem_append.mp h with h | h
                          · exact .inl (by rw [e3]; exact List.mem_append_left _ h)
                          · rcases List.mem_append.mp h with h | h
                            · exact .inr h
                            · exact .inl (by rw [e3]; exact List.mem_append_right _ (List.mem_append_right _ h))
                      have nds := (List.nodup_cons.mp ndf).2
                      have inf : ∀ a ∈ fs, a ∈ f := fun a h => by rw [ef]; exact List.mem_cons_of_mem _ h
                      have ndq : fq.Nodup := by
                        rcases h4 with h4 | ⟨g1, g2, g3, e3, e4⟩
                        · exact h4.nodup_iff.mpr (List.nodup_append.mpr ⟨nds, Sv.nd, fun a ha b hb z => by subst z; exact dvf a hb (inf a ha)⟩)
                        · rw [e3] at nds inf
                          rw [List.nodup_append, List.nodup_append] at nds
                          rw [e4]
                          refine List.nodup_append.mpr ⟨nds.1, List.nodup_append.mpr ⟨Sv.nd, nds.2.1.2.1, fun a ha b hb z => by subst z; exact dvf a ha (inf a (List.mem_append_right _ (List.mem_append_right _ hb)))⟩, fun a ha b hb z => ?_⟩
                          subst z
                          rcases List.mem_append.mp hb with hb | hb
                          · exact dvf a hb (inf a (List.mem_append_left _ ha))
                          · exact nds.2.2 a ha a (List.mem_append_right _ hb) rfl
                      have hlen : (ks.zip xs).length < sizeLine := by rw [List.length_zip, hl, Nat.min_self, ← hms.len, sizeLine_val]; exact hc.2
                      refine .inr ⟨l, upd H2 l (.dK (putK (ks.zip xs) kk v)), rfl, .inl ⟨_, kk, hx, key_kV q2.any hkk, hlen, rfl⟩, fin (f' := l :: fq) (upd_keep lf) ⟨l, (dput ks xs kk v).2, fq, rfl, rfl, ?_, ?_, h3⟩ (List.nodup_cons.mpr ⟨fun z => (mem l z).elim nl nlp, ndq⟩) fun a h => ?_⟩
                      · rw [if_pos rfl, upd_same, put_zip (α := Nat) hc.1 hl, dput_len (ks := ks) (ws := xs) (z := v) hms.len]
                      · rw [dput_len (ks := ks) (ws := xs) (z := v) hms.len]; exact dput_len2 hl
                      · rcases List.mem_cons.mp h with rfl | h
                        · exact .inl lf
                        · exact (mem a h).imp (inf a) id
                    · rw [if_neg hc] at hf2; cases hf2
                | fz d => cases hf
                | obj c fs vs => cases hf
                | tup vs => cases hf
/-! x.f = v -/
def gFld (K : PySem.W.Frag) (ta : TE) (f : Str) : TG := fun v σ H Q => ta σ H fun x H2 => ∃ a C dx fs, x = .ref a ∧ H2 a = some (.ins C dx fs) ∧ L2.Cls K C ∧ NoAttr K C f ∧ fs.length < 1000 ∧ Q σ (upd H2 a (.ins C dx (putF f v fs)))
theorem pg_fld {o : Expr} {f : Str} {ta : TE} (ho : PE X o ta) : PG X (.Attribute o f pos) (gFld X.K ta f) := by
  refine ⟨fun pins s σ H v u Q I r h => ?_⟩
  refine PySem.W.kas_attr (thn (ho.run pins s σ H _ I h) fun ov s2 ⟨x, H2, I2, rx, a, C, dx, fs, ex, ea, c, n, l, q2⟩ => ?_)
  subst ex
  obtain rfl : ov = Value.ref a := rx
  exact setattr_ok I2 ea c n l r fun s3 I3 => ⟨σ, _, I3, q2⟩
theorem putF_zip : ∀ {fs : List Str} {xs : List V} {f : Str} {v : V}, fs.length = xs.length → putF f v (fs.zip xs) = (fput fs xs f v).1.zip (fput fs xs f v).2
  | [], [], f, v, _ => rfl
  | [], _ :: _, _, _, h => nomatch h
  | _ :: _, [], _, _, h => nomatch h
  | g :: fs, x :: xs, f, v, h => by
    rw [List.zip_cons_cons, putF, fput]
    by_cases e : g = f
    · rw [if_pos e, if_pos e]; rfl
    · rw [if_neg e, if_neg e, putF_zip (fs := fs) (xs := xs) (by simpa using h)]; rfl
theorem fput_1 {α β : Type} : ∀ {fs : List Str} {vs : List α} {ws : List β} {f : Str} {y : α} {z : β}, vs.length = ws.length → (fput fs vs f y).1 = (fput fs ws f z).1
  | [], vs, ws, f, y, z, _ => by unfold fput; rfl
  | _ :: _, [], [], _, _, _, _ => by unfold fput; rfl
  | _ :: _, [], _ :: _, _, _, _, l => by cases l
  | _ :: _, _ :: _, [], _, _, _, l => by cases l
  | g :: fs, v :: vs, w :: ws, f, y, z, l => by
    unfold fput
    by_cases e : g = f
    · rw [if_pos e, if_pos e]
    · rw [if_neg e, if_neg e]
      show g :: _ = g :: _
      rw [fput_1 (fs := fs) (vs := vs) (ws := ws) (f := f) (y := y) (z := z) (by simpa using l)]
theorem fput_2 {α : Type} : ∀ {fs : List Str} {vs : List α} {f : Str} {y : α}, fs.length = vs.length → (fput fs vs f y).1.length = (fput fs vs f y).2.length
  | [], [], f, y, _ => rfl
  | [], _ :: _, _, _, l => by cases l
  | _ :: _, [], _, _, l => by cases l
  | g :: fs, v :: vs, f, y, l => by
    unfold fput
    by_cases e : g = f
    · rw [if_pos e]; simpa using l
    · rw [if_neg e]
      show (g :: _).length = (v :: _).length
      rw [List.length_cons, List.length_cons, fput_2 (by simpa using l)]
theorem fput_rep {K : PySem.W.Frag} {H : Hp} {F : AP} {m' : M} {v : V} : ∀ {ks : List Str} {ms : List M} {vs : List V} {fp f' : List Addr} {k : Str}, ks.length = ms.length → RepMs K Γ true H F ms vs fp → RepM K Γ true H F m' v f' →
    ∃ fq, RepMs K Γ true H F (fput ks ms k m').2 (fput ks vs k v).2 fq ∧ (fq.Perm (fp ++ f') ∨ ∃ f1 f2 f3, fp = f1 ++ (f2 ++ f3) ∧ fq = f1 ++ (f' ++ f3))
  | [], [], _, _, f', k, _, ⟨e1, e2⟩, h => by
    subst e1 e2
    exact ⟨f', ⟨v, [], f', [], rfl, by simp, h, rfl, rfl⟩, .inl (by simp)⟩
  | [], _ :: _, _, _, _, _, l, _, _ => by cases l
  | _ :: _, [], _, _, _, _, l, _, _ => by cases l
  | a :: ks, m :: ms, _, _, f', k, l, ⟨x, r, f1, f2, e1, e2, h1, h2⟩, h => by
    subst e1 e2
    unfold fput
    by_cases e : a = k
    · rw [if_pos e, if_pos e]
      exact ⟨f' ++ f2, ⟨v, r, f', f2, rfl, rfl, h, h2⟩, .inr ⟨[], f1, f2, rfl, rfl⟩⟩
    · rw [if_neg e, if_neg e]
      obtain ⟨fq, h3, h4⟩ := fput_rep (ks := ks) (k := k) (by simpa using l) h2 h
      refine ⟨f1 ++ fq, ⟨x, _, f1, fq, rfl, rfl, h1, h3⟩, ?_⟩
      rcases h4 with h4 | ⟨g1, g2, g3, e3, e4⟩
      · exact .inl (by rw [List.append_assoc]; exact h4.append_left f1)
      · exact .inr ⟨f1 ++ g1, g2, g3, by rw [e3, List.append_assoc], by rw [e4, List.append_assoc]⟩
theorem sg_fldP {pl : E} {tP : TE} {i : Nat} {ps : List Step} {chk : Env → Bool} {fn : Str} (hcl : ∀ c, L2.Cls X.K (Γ.cls c)) (hna : ∀ c, NoAttr X.K (Γ.cls c) fn) (PL : PlaceOk X.K Γ W tP pl i ps chk) (hpe : PE X ea tP) :
    SGt X Γ U L W (.Attribute ea fn pos) (.fld pl fn) :=
  PG.imp (pg_fld hpe) fun v σ H Q ⟨F, G, P, env, ow, fp, m, R, S, hm, k⟩ => by
    simp only [tgset, PL.ev] at k
    cases hp : chk env with
    | false => simp only [hp, Bool.false_eq_true, if_false, Out.bind] at k; exact k.elim
    | true =>
      simp only [hp, if_true, Out.bind] at k
      obtain ⟨m0, u, v0, h0, hu0, hpv, htP⟩ := PL.at_ R hp
      refine htP _ ?_
      unfold Env.mod at k
      rw [h0] at k
      dsimp only at k
      cases hn : m0.isNode with
      | false => rw [hn, if_neg (by decide)] at k; exact k.elim
      | true =>
        rw [hn, if_pos rfl] at k
        cases hf0 : M.mod (setFld fn m) ps m0 with
        | none => rw [hf0] at k; exact k.elim
        | some pr =>
          obtain ⟨m'', uu⟩ := pr
          rw [hf0] at k
          simp only [Option.map] at k
          obtain ⟨n, m', f, hf, subf, hm1, ndf, step⟩ := modP_ok R S h0 hu0 hpv hf0
          have dvf : ∀ a ∈ fp, a ∉ f := fun a ha z => S.dO a ha (subf a z)
          cases n with
          | obj c ks ms =>
            have hf2 : (if decide (ks.length < 1000) = true then some (M.obj c (fput ks ms fn m).1 (fput ks ms fn m).2, ()) else none) = some (m', uu) := hf
            by_cases hc : ks.length < 1000
            · rw [if_pos (decide_eq_true hc)] at hf2
              cases hf2
              obtain ⟨l, dx, xs, fs, rfl, ef, hx, hl, hms⟩ := hm1
              have lf : l ∈ f := by rw [ef]; exact List.mem_cons_self
              rw [ef] at ndf
              have nl := (List.nodup_cons.mp ndf).1
              have nF : ¬ F l := R.dF l (subf l lf)
              have nlp : l ∉ fp := fun z => dvf l z lf
              have hml : ks.length = ms.length := by rw [hl, hms.len]
              have hmv3 : RepM X.K Γ true (upd H l (.ins (Γ.cls c) dx (putF fn v (ks.zip xs)))) F m v fp := hm.ext (.of (fun _ h => h) fun a u f q => by rw [upd_ne fun z => nF (by rw [← z]; exact f)]; exact q) (.of fun a u f q => by rw [upd_ne fun z => nlp (by rw [← z]; exact f)]; exact q)
              obtain ⟨fq, h3, h4⟩ := fput_rep (k := fn) hml (hms.at_upd (o := .ins (Γ.cls c) dx (putF fn v (ks.zip xs))) nF nl) hmv3
              have mem : ∀ a ∈ fq, a ∈ fs ∨ a ∈ fp := fun a h => by
                rcases h4 with h4 | ⟨g1, g2, g3, e3, e4⟩
                · exact List.mem_append.mp (h4.mem_iff.mp h)
                · rw [e4] at h
                  rcases List.mem_append.mp h with h | h
                  · exact .inl (by rw [e3]; exact List.mem_append_left _ h)
                  · rcases List.mem_append.mp h with h | h
                    · exact .inr h
                    · exact .inl (by rw [e3]; exact List.mem_append_right _ (List.mem_append_right _ h))
              have nds := (List.nodup_cons.mp ndf).2
              have inf : ∀ a ∈ fs, a ∈ f := fun a h => by rw [ef]; exact List.mem_cons_of_mem _ h
              have ndq : fq.Nodup := by
                rcases h4 with h4 | ⟨g1, g2, g3, e3, e4⟩
                · exact h4.nodup_iff.mpr (List.nodup_append.mpr ⟨nds, S.nd, fun a ha b hb z => by subst z; exact dvf a hb (inf a ha)⟩)
                · rw [e3] at nds inf
                  rw [List.nodup_append, List.nodup_append] at nds
                  rw [e4]
                  refine List.nodup_append.mpr ⟨nds.1, List.nodup_append.mpr ⟨S.nd, nds.2.1.2.1, fun a ha b hb z => by subst z; exact dvf a ha (inf a (List.mem_append_right _ (List.mem_append_right _ hb)))⟩, fun a ha b hb z => ?_⟩
                  subst z
                  rcases List.mem_append.mp hb with hb | hb
                  · exact dvf a hb (inf a (List.mem_append_left _ ha))
                  · exact nds.2.2 a ha a (List.mem_append_right _ hb) rfl
              refine ⟨l, _, dx, _, rfl, hx, hcl c, hna c, by rw [List.length_zip, hl, Nat.min_self]; omega, ?_⟩
              obtain ⟨ow', R3, S3, T3, l3, lr3⟩ := step (f' := l :: fq) (fz := []) (upd_keep lf) ⟨l, dx, (fput ks xs fn v).2, fq, rfl, rfl, by rw [upd_same, putF_zip hl, fput_1 (fs := ks) (ws := xs) (z := v) hms.len], by rw [fput_1 (fs := ks) (ws := xs) (z := v) hms.len]; exact fput_2 hl, h3⟩
                (by rw [List.append_nil]; exact List.nodup_cons.mpr ⟨fun z => (mem l z).elim nl nlp, ndq⟩) (fun a h => by
                  rw [List.append_nil] at h
                  rcases List.mem_cons.mp h with rfl | h
                  · exact .inl lf
                  · exact (mem a h).imp (inf a) id) (fun _ h => nomatch h)
              rw [List.append_nil] at T3
              exact k σ _ ⟨F, ow', R3, T3, l3, lr3, .refl⟩
            · rw [if_neg (by simpa using hc)] at hf2; cases hf2
          | fz d => cases hf
          | lst _ => cases hf
          | dct _ _ => cases hf
          | tup _ => cases hf
end
end Pv
/-! Pv: what the printed derivations lean on. -/
namespace Pv
open PySem PySem.Spec PyProof.Rows L2
theorem _root_.L2.Room.u65 {k : Nat} {A : Around} (r : Room k A) : A.units + 65 < cLine := by have := r.un; omega
theorem _root_.L2.Room.u1 {k : Nat} {A : Around} (r : Room k A) : A.units + 1 < cLine := by have := r.un; omega
/-- which slots a body may set: those that do not come back -/
def Lio (io : List Bool) : Nat → Bool := fun i => !((io[i]?).getD false)
theorem Lio_ok (io : List Bool) : ∀ i, io[i]? = some true → Lio io i = false := fun i h => by unfold Lio; rw [h]; rfl
/-- inside a comprehension nothing is raised -/
theorem tkF {X : Cx} : Takes X FW := fun u s' ⟨_, _, _, _, _, _, _, _, _, _, _, _, _, _, _, _, w⟩ => w.elim
section
variable {X : Cx} {Γ : Gm} {U : WX} {L : Nat → Bool} {W : Wd} {t : T} {it : It} {ifs : List Expr} {cs : List E}
theorem ss_setLC {i : Nat} {y : Str} {py pos spos : Pos} {elt tg iter : Expr} {scope : Scope} {own : List (Str × Nat)} {el : E} (hy : X.N[i]? = some y) (hyl : X.env.scope.names.lookup y = some .local) (hL : L i = true)
    (hc : X.calm = true) (hN : X.N.Nodup) (hi : SI X Γ U W tg iter it) (ok : BlkOk X.N X.env.scope scope own)
    (hg : ∀ (s : Shared) (H : Hp) (C : Addr) (cl : List (Str × Addr)) (fp : List Addr), SGt (X.blk s H scope (compEnvC scope cl C X.env) fp) Γ FW (fun i => (own.map (·.2)).contains i) W tg t.tg)
    (ht : ∀ (s : Shared) (H : Hp) (C : Addr) (cl : List (Str × Addr)) (fp : List Addr), STs (X.blk s H scope (compEnvC scope cl C X.env) fp) Γ FW W ifs cs)
    (he : ∀ (s : Shared) (H : Hp) (C : Addr) (cl : List (Str × Addr)) (fp : List Addr), SE (X.blk s H scope (compEnvC scope cl C X.env) fp) Γ FW W elt el)
    (hnd : (own.map (·.2)).Nodup) (hsw : swapsWith (.ListComp elt [⟨tg, iter, ifs, 0⟩] scope pos) (some (.Name y py)) spos.line X.env = pure true := by exact sw_true rfl rfl rfl rfl) (hs : ∀ x, foldedSetIterable iter X.env x = pure x := by intro _; rfl) :
    SS X Γ U L W (.Assign [.Name y py] (.ListComp elt [⟨tg, iter, ifs, 0⟩] scope pos) spos) (.asg (.nm i) (.lc (own.map (·.2)) t it cs el)) :=
  PS.imp (ps_setLc (g := rdG X.K Γ FW (fun i => (own.map (·.2)).contains i) (tgset W t.tg)) (tt := rdT X.K Γ FW (evTs W cs) false) (te := rdE X.K Γ FW (evE W el) (pureE el)) hc hN hy hyl hsw hi ok hg ht he hs) fun D σ H q => by
    refine rd_lc hnd ((rdS_val (W := U) (L := L) (D := D) (pu := false) (k := fun r e => match r.sto with | some m => (match e.put i m with | some e' => Out.ok .nx e' | none => .stuck) | none => .stuck) (by
      rw [show evS W (.asg (.nm i) (.lc (own.map (·.2)) t it cs el)) = fun e => (evE W (.lc (own.map (·.2)) t it cs el) e).bind fun r e => (match r.sto with | some m => (match e.put i m with | some e' => Out.ok .nx e' | none => .stuck) | none => .stuck) from funext fun e => by
        rw [evS]
        congr 1
        funext r e
        cases r.sto with
        | none => rfl
        | some m =>
          simp only [tgset]
          cases e.put i m <;> rfl] at q
      exact q)).mono fun v H1 ⟨F, G, P, env, ow, fp, r, R, S1, q1, k⟩ => ?_)
    cases hs : r.sto with
    | none => simp only [hs] at k; exact k.elim
    | some m =>
      simp only [hs] at k
      cases hp : env.put i m with
      | none => simp only [hp] at k; exact k.elim
      | some e' =>
        simp only [hp] at k
        obtain ⟨ow', R', sub, l, lr⟩ := put_ok R S1 (q1.sto hs) hp
        exact k _ H1 ⟨F, ow', R', ⟨fun _ _ h _ => h, fun _ h => h, fun _ h => .inl h, fun a h => .inl (sub a h)⟩, l, lr, .set hL⟩
end
theorem cx_false {P : Program} {w : World} {H : Hp} {s : Shared} {e : Value} {s' : Shared} (h : L2.CX P w [] H s (fun _ _ _ => False) e s') : False := by
  obtain ⟨_, _, _, _, _, _, _, _, _, _, _, _, z⟩ := h
  exact z
end Pv
/-! Pv: sorted(d.items()), ints. -/
namespace Pv
open PySem PySem.W PySem.Calls PyProof.V PySem.Spec PyProof.Rows L2
abbrev kvP (p : Int × Int) : Key × V := (Sum.inl p.1, V.int p.2)
def rItS : V → Hp → VK → Prop := fun x H Q => ∃ (d : Addr) (ps : List (Int × Int)), x = .ref d ∧ Rd H d (.dK (ps.map kvP)) ∧
  ∀ (H' : Hp) (p : Addr) (ts : List Addr), (∀ b o, H b = some o → H' b = some o) → H p = none → (∀ t ∈ ts, H t = none) → p ∉ ts → H' p = some (.lst (ts.map V.ref)) → Paired (fun (t : Addr) (q : Int × Int) => H' t = some (.tup [.int q.1, .int q.2])) ts (sortP ps) → Q (.ref p) H'
section
variable {X : Cx} {e : Expr} {te : TE} {p apos cpos pos : Pos}
theorem ps_len {ps : List (Int × Int)} {vs : List (Key × Value)} (kv : KV (ps.map kvP) vs) : ps.length = vs.length := by
  have := Paired.length kv
  rwa [List.length_map] at this
def tItS (te : TE) : TE := fun σ H Q => te σ H fun x H1 => rItS x H1 Q
theorem pe_sortedItems (hc : X.calm = true) (he : PE X e te) (hg : Gl X "sorted") (hm : X.mg "sorted" = none) (hbase : attributeBase e "items" X.env (eval e X.env) = eval e X.env := by rfl) (hline : (apos.endLine == cpos.line) = true := by rfl)
    (hse : starEach [Expr.Call (.Attribute e "items" apos) [] [] cpos] X.env = [(false, eval (Expr.Call (.Attribute e "items" apos) [] [] cpos) X.env)] := by rfl) :
    PE X (.Call (.Name "sorted" p) [.Call (.Attribute e "items" apos) [] [] cpos] [] pos) (tItS te) := by
  refine ⟨fun pins s σ H Q I hq => ?_⟩
  refine wpAny_Call_Name_kw (ld_blt I hg hm (u := .builtin "sorted") (by first | rfl | decide +kernel) ?_ (by first | decide +kernel | decide) (by first | decide +kernel | decide))
  rw [hse]
  refine PySem.callWith_builtin1 (wpAny_Call_method0_late hbase hline (thn (he.run pins s σ H _ I hq) fun v s1 ⟨x, H1, I1, rx, d, ps, ex, hd, q⟩ => ?_))
  subst ex
  obtain rfl : v = Value.ref d := rx
  obtain ⟨hz, hsys, vs, kv, hdo⟩ := dk_rd I1.hok hd
  obtain ⟨ep, hat⟩ := hdo.dictAt
  have hat2 := hat
  obtain ⟨ob, es, ho, ex, hdat, hko, hpr, hnd⟩ := hat2
  rw [List.length_map] at hz
  have lk := ps_len kv
  refine ⟨"dict", "dict.items", F.plainAttrs_dict, F.slot_dict_items, F.type_dict_items, ⟨ob, ho, ex.1⟩, fun b e => ?_, Calls.callWith_builtin rfl (PySem.evalArgs_none ?_)⟩
  · cases e
    exact ⟨ob, ho, ex.2.1⟩
  refine call_meetsIn F.slot_dict_items ⟨ob, ho, ex.1⟩ F.entry_dict_items (F.args_dict_items_1 _) (meets_dict_items (mixKind X.prog X.w) d hsys) ⟨⟨vs, hdo⟩, ?_⟩
  have k1 : ∀ b u, s1.heap.get? b = some u → (s1.heap.push { cls := .type "dict_items", data := .fields #[.ref d] }).get? b = some u := fun b u e => Heap.get?_push_of_some _ e
  have dat1 : (s1.heap.push { cls := .type "dict_items", data := .fields #[.ref d] }).DictAt (mixKind X.prog X.w) d vs ep := hat.keep k1
  have hbase2 : s1.heap.objs.size < (s1.heap.push { cls := .type "dict_items", data := .fields #[.ref d] }).objs.size := by rw [Heap.size_push]; exact Nat.lt_succ_self _
  generalize hs2 : s1.heap.push { cls := .type "dict_items", data := .fields #[.ref d] } = h0 at k1 dat1 hbase2 ⊢
  have view : h0.IsItemsView s1.heap.objs.size d := by rw [← hs2]; exact ⟨_, Heap.get?_push_size _ rfl, rfl, rfl⟩
  refine call_function_entry kind_sorted plain_sorted entry_sorted (args_sorted1 _) ?_
  unfold Builtin.«sorted»
  refine wpAny_bind (m := checkCount "sorted" 1 1 _) (wpAny_pure ?_)
  refine wpAny_bind (PySem.W.kdx_collect (A := X.A.in1) (s := { s1 with heap := h0 }) (knd := mixKind X.prog X.w) (kvs := vs) (ep := ep) (I.ok.hd hc) view dat1 (by rw [← lk]; exact hz) fun h' tk as hk hl hG => ?_)
  refine wpAny_bind (wpAny_newList ?_ (by rw [List.length_map, hl, ← lk]; exact hz))
  have hs1 : s1.heap.objs.size < h'.objs.size := by
    obtain ⟨o, z, _⟩ := view
    exact Heap.lt_size (hk _ o z)
  have hk1 : ∀ b u, s1.heap.get? b = some u → h'.get? b = some u := fun b u z => hk b u (k1 b u z)
  have hgp : ∀ (j : Nat) (a : Addr), as[j]? = some a → ∃ key k x, vs[j]? = some (k, x) ∧ (mixKind X.prog X.w).is k key = true ∧ h'.get? a = some { cls := .type "tuple", data := .seq #[key, x] } := fun j a z => hG.pairs j a z
  have hnd2 : as.Nodup := List.Pairwise.imp (fun {a b} (h : a < b) => Nat.ne_of_lt h) hG.rise
  have hab : ∀ a ∈ as, s1.heap.objs.size ≤ a := fun a z => Nat.le_of_lt (Nat.lt_of_lt_of_le hbase2 (Nat.le_of_lt (hG.above a z)))
  have hthere : ∀ a ∈ as, a < h'.objs.size := fun a z => hG.there z
  -- the pair at an address
  let pr : Addr → Int × Int := fun t => ps.getD (as.idxOf t) (0, 0)
  let k : Value → Int × Int := fun v => match v with | .ref t => pr t | _ => (0, 0)
  have hpr2 : ∀ (j : Nat) (a : Addr), as[j]? = some a → pr a = ps.getD j (0, 0) := fun j a z => by
    show ps.getD (as.idxOf a) (0, 0) = _
    have hj := (List.getElem?_eq_some_iff.mp z)
    obtain ⟨hj1, hj2⟩ := hj
    rw [← hj2, hnd2.idxOf_getElem j hj1]
  have hmap : as.map pr = ps := by
    apply List.ext_getElem?
    intro j
    rw [List.getElem?_map]
    cases z : as[j]? with
    | none =>
      have : ps.length ≤ j := by rw [lk, ← hl]; exact List.getElem?_eq_none_iff.mp z
      rw [List.getElem?_eq_none_iff.mpr this]; rfl
    | some a =>
      have hj := (List.getElem?_eq_some_iff.mp z).1
      have hj2 : j < ps.length := by omega
      show some (pr a) = _
      rw [hpr2 j a z, List.getD_eq_getElem?_getD, List.getElem?_eq_getElem hj2]; rfl
  have hpair : ∀ v ∈ as.map Value.ref, ∃ t ∈ as, v = .ref t ∧ Srt.IsPair h' v (k v).1 (k v).2 := fun v hv => by
    obtain ⟨t, ht, rfl⟩ := List.mem_map.mp hv
    obtain ⟨j, hj⟩ := List.mem_iff_getElem?.mp ht
    obtain ⟨key, kk, x, f1, f2, f3⟩ := hgp j t hj
    have hj2 : j < ps.length := by have := (List.getElem?_eq_some_iff.mp hj).1; omega
    obtain ⟨qv, g1, g2, g3⟩ := LiI.paired_get kv (x := kvP ps[j]) (i := j) (by rw [List.getElem?_map, List.getElem?_eq_getElem hj2]; rfl)
    rw [f1] at g1
    cases g1
    have rk : RelV (kV (kvP ps[j]).1) key := by rw [g2]; exact relV_key (show keyIs kk key = true from f2)
    obtain ⟨t1, e1⟩ : ∃ t, key = .int ps[j].1 t := rk
    obtain ⟨t2, e2⟩ : ∃ t, x = .int ps[j].2 t := g3
    refine ⟨t, ht, rfl, ?_⟩
    have hkv : k (.ref t) = ps[j] := by
      show pr t = _
      rw [hpr2 j t hj, List.getD_eq_getElem?_getD, List.getElem?_eq_getElem hj2]; rfl
    rw [hkv]
    subst e1; subst e2
    exact ⟨t, _, t1, t2, 0, rfl, f3, rfl, rfl⟩
  have hob : (h'.push { cls := .type "list", data := .seq (as.map Value.ref).toArray }).get? h'.objs.size = some (seqObj "list" (as.map Value.ref).toArray 0) := Heap.get?_push_size _ rfl
  have ka : ∀ b o, h'.get? b = some o → (h'.push { cls := .type "list", data := .seq (as.map Value.ref).toArray }).get? b = some o := fun b o e => Heap.get?_push_of_some _ e
  show wpAny _ _ (holding [.ref h'.objs.size] (call (.builtin "list.sort") [.ref h'.objs.size]) >>= _) _ _ { s1 with heap := h'.push { cls := .type "list", data := .seq (as.map Value.ref).toArray }, toks := tk }
  generalize hh2 : h'.push { cls := .type "list", data := .seq (as.map Value.ref).toArray } = h2 at hob ka ⊢
  refine wpAny_bind (wpAny_holding (wpAny_mono (Q := fun _ s' => EP X pins σ Q (.ref h'.objs.size) s') ?_ (fun _ s' x => wpAny_pure ⟨_, rfl, x⟩) fun _ _ e => e))
  refine wpAny_call_entry PyProof.Rows.slot_list_sort ⟨_, hob, rfl⟩ PyProof.Rows.entry_list_sort
    (SrtO.list_sort_ord (s := { s1 with heap := h2, toks := tk }) (SrtO.swo_lex k) hob (by rw [List.length_map, hl, ← lk]; exact hz) (fun h2' => SrtO.pairs_sortableO (by omega) (fun v hv => ?_) fun o e => ?_) fun out o1 o2 => ⟨.none, rfl, ?_⟩) (PyProof.Rows.args_list_sort _)
  · obtain ⟨t, ht, rfl, hp⟩ := hpair v hv
    exact hp.keeps fun b o e _ => ka b o e
  · have e' : some o = some (seqObj "list" (as.map Value.ref).toArray 0) := e.symm.trans hob
    cases e'
    intro c
    exact absurd (Value.type.inj c) (by decide)
  · -- behind the sort
    have hout : ∀ u ∈ out, ∃ t ∈ as, u = Value.ref t := fun u hu => by
      obtain ⟨t, ht, e, _⟩ := hpair u (o2.perm.mem_iff.mp hu)
      exact ⟨t, ht, e⟩
    obtain ⟨bs, pb, eb⟩ := perm_lift Value.ref o2.perm as rfl
    have hsk : bs.map pr = sortP ps := by
      refine sortP_uniq (by rw [← hmap]; exact pb.map pr) ?_
      rw [List.pairwise_map]
      rw [← eb] at o1
      have o1' := List.pairwise_map.mp o1
      refine o1'.imp fun {x y} q => ?_
      have := SrtO.lexB_no.mp q
      show leP (pr x) (pr y) = true
      have hx : k (.ref x) = pr x := rfl
      have hy : k (.ref y) = pr y := rfl
      rw [hx, hy] at this
      rw [leP_iff]; omega
    have ne0 : ∀ b o, h'.get? b = some o → b ≠ h'.objs.size := fun b o e => Nat.ne_of_lt (Heap.lt_size e)
    have kF : ∀ b o, b ≠ h'.objs.size → h2.get? b = some o → (sortedHeap h2 h'.objs.size (as.map Value.ref) out.toArray).get? b = some o := fun b o hb e => (PyProof.Rows.sortedHeap_old hb (Heap.lt_size e)).trans e
    obtain ⟨eF, heF⟩ := PyProof.Rows.sortedHeap_at (vs := as.map Value.ref) (out := out.toArray) hob
    have kS : ∀ b o, s1.heap.get? b = some o → (sortedHeap h2 h'.objs.size (as.map Value.ref) out.toArray).get? b = some o := fun b o z => kF b o (ne0 b o (hk1 b o z)) (ka b o (hk1 b o z))
    have hn0 : H1 h'.objs.size = none := I1.hok.fresh (Nat.le_of_lt hs1)
    have J1 : L2.Inv X pins σ H1 { s1 with heap := sortedHeap h2 h'.objs.size (as.map Value.ref) out.toArray, toks := tk } := I1.kept (t' := tk) kS
    have J2 := J1.take (t' := tk) (o := .lst (bs.map V.ref)) (fun b ob _ e => e) (I1.fpOk (Nat.le_of_lt hs1) hn0) ⟨by rw [List.length_map, pb.length_eq, hl, ← lk]; exact hz, out, eF, by rw [← eb]; exact LiI.vals_refs bs, heF⟩
    obtain ⟨H', J, g, qt⟩ := L2.DX.takeT (P := fun a vs => vs = [.int (pr a).1, .int (pr a).2]) I1 as _ J2 hnd2 fun a ha => by
      refine ⟨hab a ha, ?_, _, rfl, fun H2 => ?_⟩
      · rw [upd_ne (fun z => Nat.lt_irrefl _ (by have := hthere a ha; rw [z] at this; exact this))]
        exact I1.hok.fresh (hab a ha)
      · obtain ⟨t, ht, e, t', o, u1, u2, n, e2, ho, hcl, hdt⟩ := hpair (.ref a) (List.mem_map_of_mem ha)
        cases e2
        have hkv : k (.ref a) = pr a := rfl
        rw [hkv] at hdt
        exact ⟨by show 2 ≤ sizeLine; decide, _, .cons ⟨u1, rfl⟩ (.cons ⟨u2, rfl⟩ .nil), o, kF a _ (ne0 a _ ho) (ka a _ ho), hcl, n, hdt⟩
    have kup : ∀ b o, H1 b = some o → H' b = some o := fun b o e => g b o (by rw [upd_ne (ne_of_none e hn0)]; exact e)
    refine ⟨.ref h'.objs.size, H', J, rfl, q H' h'.objs.size bs kup hn0 (fun t ht => I1.hok.fresh (hab t (pb.mem_iff.mp ht))) (fun z => Nat.lt_irrefl _ (hthere _ (pb.mem_iff.mp z))) (g _ _ upd_same) ?_⟩
    have hat' : ∀ t ∈ bs, H' t = some (.tup [.int (pr t).1, .int (pr t).2]) := fun t ht => by
      obtain ⟨vs', e1, e2⟩ := qt t (pb.mem_iff.mp ht)
      rw [e2, e1]
    rw [← hsk]
    clear hsk pb eb hout J2 qt g kup
    induction bs with
    | nil => exact .nil
    | cons b bs ih => exact .cons (hat' b (List.mem_cons_self ..)) (ih fun t ht => hat' t (List.mem_cons_of_mem _ ht))
end
end Pv
set_option maxHeartbeats 4000000
/-! Pv: sorted(set(l)), l a list of ints. -/
namespace Pv
open PySem PySem.W PySem.Calls PyProof.V PySem.Spec PyProof.Rows L2
/-- a new set, as it is made -/
abbrev nset (w : World) : Obj := { cls := .type "set", dict := none, data := .set #[] 0 (.fresh 0 0 (!w.params.followText "set-order")) }
section
variable {P : Program} {w : World} {A : Around} {E : Value → Shared → Prop} {s : Shared}
/-- the filling of a new set from a list -/
theorem fill_set {l : Addr} {items : Array Value} {ns : List Int} {Q : PySem.Fin → Shared → Prop} (hh : A.handled = none) (hl : s.heap.IsList l items) (hit : IntsAre items.toList ns) (hb : ns.length + 1 < scanBound)
    (h : ∀ (h' : Heap) (tk c : Nat), SetR w h' s.heap.objs.size (fun j => decide (j ∈ ns)) c → c ≤ ns.length → (∀ b o, s.heap.get? b = some o → h'.get? b = some o) → Q (.done (.ret .none)) { s with heap := h', toks := tk }) :
    wpAny (model P w) A.in1 (Builtin.«set.__init__» ⟨[.ref s.heap.objs.size, .ref l], []⟩) Q E { s with heap := s.heap.push (nset w) } := by
  have hisz : items.size = ns.length := by rw [← Array.length_toList]; exact IntsAre.length hit
  obtain ⟨ol, hol, hcl, nl, hdl⟩ := hl
  obtain ⟨ocls, odict, odata, oslots⟩ := ol
  simp only at hcl hdl
  subst hcl; subst hdl
  have hlS : l < s.heap.objs.size := Heap.lt_size hol
  generalize hn : s.heap.push (nset w) = h1
  have hz : h1.objs.size = s.heap.objs.size + 1 := by rw [← hn]; exact Heap.size_push ..
  have keep : ∀ b o, s.heap.get? b = some o → h1.get? b = some o := fun b o e => by rw [← hn]; exact Heap.get?_push_of_some _ e
  have hS : h1.get? s.heap.objs.size = some (nset w) := by rw [← hn]; exact Heap.get?_push_size _ rfl
  have hol1 := keep l _ hol
  have hl1 : h1.IsList l items := ⟨_, hol1, rfl, nl, rfl⟩
  have q1 := F.sub_list_set
  have q2 := F.sub_list_frozenset
  have q3 : (Value.type "list" == Value.type "dict") = false := by decide
  unfold Builtin.«set.__init__» noKeywords Builtin.Frozenset.updateFrom
  generalize hPI : pyIter = PI
  wp_walk
  subst hPI
  refine wpAny_pyIter_list hl1 (wpAny_bind (wpAny_runValue ?_))
  have ne1 : l ≠ h1.objs.size := by rw [hz]; exact Nat.ne_of_lt (Nat.lt_succ_of_lt hlS)
  have ne2 : s.heap.objs.size ∉ [h1.objs.size, l] := by
    rw [hz]
    intro z
    simp only [List.mem_cons, List.not_mem_nil, or_false] at z
    exact z.elim (Nat.ne_of_lt (Nat.lt_succ_self _)) (Nat.ne_of_gt hlS)
  have hval : ∀ (i : Nat) (v : Value), items[i]? = some v → ∃ k t, ns[i]? = some k ∧ v = .int k t := fun i v hv => by
    have hi : i < ns.length := by rw [← hisz]; exact (Array.getElem?_eq_some_iff.mp hv).1
    obtain ⟨t, e⟩ := IntsAre.int_at hit i v (by rw [Array.getElem?_toList]; exact hv)
    exact ⟨ns[i], t, List.getElem?_eq_getElem hi, by rw [e, List.getD_eq_getElem?_getD, List.getElem?_eq_getElem hi] <;> rfl⟩
  refine set_update_ints ((Walks.list (by simp [hh]) _ l ne1 items).toS) s.heap.objs.size ne2 ns hisz hb hval items.size 0 _ (by omega) (Nat.zero_le _)
    ⟨⟨_, Heap.get?_push_size _ rfl, rfl, rfl⟩, hl1.push _⟩ ⟨0, Nat.le_refl 0, setR_new_at (Heap.get?_push_of_some _ hS)⟩ fun s' c' hm hc' hS' => ?_
  obtain ⟨h', g2, d', tk', os'⟩ := s'
  obtain rfl : g2 = s.gens := hm.gens
  obtain rfl : d' = s.drawn := hm.drawn
  obtain rfl : os' = s.os := hm.os
  rw [hisz] at hc'
  refine wpAny_pure (wpAny_pure (h h' tk' c' hS' hc' fun b o e => ?_))
  have hb0 : b < s.heap.objs.size := Heap.lt_size e
  refine hm.heap b o (fun z => ?_) (Heap.get?_push_of_some _ (keep b o e))
  rw [hz] at z
  simp only [List.mem_cons, List.not_mem_nil, or_false] at z
  exact z.elim (Nat.ne_of_lt hb0) (Nat.ne_of_lt (Nat.lt_succ_of_lt hb0))
/-- set(l) -/
theorem set_of_list {l : Addr} {items : Array Value} {ns : List Int} {Q : Value → Shared → Prop} (hh : A.handled = none) (hl : s.heap.IsList l items) (hit : IntsAre items.toList ns) (hb : ns.length + 1 < scanBound)
    (h : ∀ (h' : Heap) (tk c : Nat), SetR w h' s.heap.objs.size (fun j => decide (j ∈ ns)) c → c ≤ ns.length → (∀ b o, s.heap.get? b = some o → h'.get? b = some o) → Q (.ref s.heap.objs.size) { s with heap := h', toks := tk }) :
    wpAny (model P w) A (call (.type "set") [.ref l]) Q E s := by
  obtain ⟨c, tl, hmro⟩ := F.called_set.mro
  have a1 := F.called_set.made
  have a2 := F.called_set.sub
  have a3 := F.called_set.notType
  have a4 := F.called_set.canCreate
  have a5 := F.typeCall_set_1 (.ref l)
  refine wpAny_call (codeAny_of_tree ?_)
  show wpAny _ _ (callAny (.type "set") _) _ _ _
  refine wpAny_pure ⟨Code.quiet_builtin _ (by decide +kernel), codeAny_builtin F.entry_type_call ?_⟩
  rw [Around.under_plain (weight_type_call_type "set" [.ref l] []) rfl]
  repeat (any_goals (first | assumption | wp_step))
  refine codeAny_mono (code_set_led1 (.ref l) (E := E) (Q₁ := fun obj s₁ => obj = .ref s.heap.objs.size ∧ s₁ = { s with heap := s.heap.push (nset w) }) ⟨rfl, rfl⟩) fun r s₁ hr => ?_
  cases r with
  | error e => exact hr
  | ok fl =>
    cases fl with
    | ret obj =>
      obtain ⟨rfl, rfl⟩ := hr
      have hS : (s.heap.push (nset w)).get? s.heap.objs.size = some (nset w) := Heap.get?_push_size _ rfl
      have hT : Shared.TypeIs { s with heap := s.heap.push (nset w) } (.ref s.heap.objs.size) "set" := ⟨_, hS, rfl⟩
      have b1 := F.called_set.init.lookup
      have b2 := F.called_set.init.bind (.ref s.heap.objs.size)
      repeat (any_goals (first | assumption | wp_step))
      refine codeAny_mono (codeAny_call_builtin (R := wants (fun r s₂ => r = .none ∧ ∃ h' tk c, s₂ = { s with heap := h', toks := tk } ∧ SetR w h' s.heap.objs.size (fun j => decide (j ∈ ns)) c ∧ c ≤ ns.length ∧ ∀ b o, s.heap.get? b = some o → h'.get? b = some o) E)
        F.called_set.init.plain F.entry_set_init (check_set_init_1 hT (fill_set (by simp [hh]) hl hit hb fun h' tk c r1 r2 r3 => ⟨rfl, h', tk, c, rfl, r1, r2, r3⟩))) fun r₂ s₂ hr₂ => ?_
      cases r₂ with
      | error e => exact hr₂
      | ok fl₂ =>
        cases fl₂ with
        | ret r =>
          obtain ⟨rfl, h', tk, c, rfl, r1, r2, r3⟩ := hr₂
          repeat (any_goals (first | assumption | wp_step))
          exact h _ _ _ r1 r2 r3
        | _ => exact hr₂.elim
    | _ => exact hr.elim
end
section
variable {P : Program} {w : World} {A : Around} {E : Value → Shared → Prop} {s : Shared} {a : Addr}
/-- sorted(a), a a set of ints -/
theorem sorted_setA {S : Int → Bool} {n : Nat} {Q : Value → Shared → Prop} (R : SetR w s.heap a S n) (hh : A.handled = none)
    (hQ : ∀ (h' : Heap) (tk : Nat) (g : Array GenState) p (out : List Value) (c : Nat) (ns : List Int), (∀ b o, s.heap.get? b = some o → h'.get? b = some o) → g = s.gens → s.heap.objs.size ≤ p →
      h'.get? p = some (seqObj "list" out.toArray c) → IntsAre out ns → ns.Pairwise (· < ·) → (∀ k, k ∈ ns ↔ S k = true) → ns.length ≤ sizeLine → ∀ d, Q (.ref p) { s with heap := h', toks := tk, gens := g, drawn := d }) :
    wpAny (model P w) A (call (.builtin "sorted") [.ref a]) Q E s := by
  obtain ⟨o, es, ep, t, ho, hex, hd, g, nd, hm, hb, hf, hn, hr, hl⟩ := R
  have hbs : es.size ≤ sizeLine := by rw [sizeLine_eq]; unfold scanBound at hb; omega
  refine call_function_entry kind_sorted plain_sorted entry_sorted (args_sorted1 _) ?_
  unfold Builtin.«sorted»
  refine wpAny_bind (m := checkCount "sorted" 1 1 _) (wpAny_pure ?_)
  refine wpAny_bind (collect_set (A := A.in1) hh ⟨o, ho, hex.1, hd⟩ hf hb hr hl fun s1 vs k1 hz g1 o1 pm => ?_)
  have hvl : vs.length = es.size := by rw [pm.length_eq, List.length_map, Array.length_toList]
  have hv : ∀ v ∈ vs, ∃ i t, v = Value.int i t := fun v hv => by
    obtain ⟨e, he, q⟩ := List.mem_map.mp (pm.mem_iff.mp hv)
    obtain ⟨k, tk, h1, _⟩ := g e he
    exact ⟨k, tk, by rw [← q]; exact h1⟩
  have hI := SrtO.ints_iv hv
  have pk : (vs.map SrtO.iv).Perm (es.toList.map keyOf) := by
    refine (pm.map SrtO.iv).trans (.of_eq ?_)
    rw [List.map_map]
    refine List.map_congr_left fun e he => ?_
    obtain ⟨k, tk, h1, h2⟩ := g e he
    show SrtO.iv e.2 = keyOf e
    rw [key_vInt, h1]; rfl
  refine wpAny_bind (wpAny_newList ?_ (by rw [hvl]; exact hbs))
  have hob : (s1.heap.push { cls := .type "list", data := .seq vs.toArray }).get? s1.heap.objs.size = some (seqObj "list" vs.toArray 0) := Heap.get?_push_size _ rfl
  refine wpAny_bind (wpAny_holding (wpAny_mono (Q := fun _ s' => Q (.ref s1.heap.objs.size) s') ?_ (fun _ s' x => wpAny_pure ⟨_, rfl, x⟩) fun _ _ e => e))
  refine wpAny_call_entry PyProof.Rows.slot_list_sort ⟨_, hob, rfl⟩ PyProof.Rows.entry_list_sort
    (SrtO.list_sort_ord SrtO.swo_int hob (by rw [hvl]; exact hbs) (fun h2 => SrtO.ints_sortable hI h2) fun out h1 h2 => ⟨.none, rfl, ?_⟩) (PyProof.Rows.args_list_sort _)
  obtain ⟨r1, r2, r3⟩ := SrtO.ints_out hI h1 h2
  obtain ⟨c, hc⟩ := PyProof.Rows.sortedHeap_at (vs := vs) (out := out.toArray) hob
  have pn := r2.trans pk
  have lt : (out.map SrtO.iv).Pairwise (· < ·) := lt_of_le_nodup _ r3 (pn.nodup_iff.mpr nd)
  have keep : ∀ b u, s.heap.get? b = some u → (sortedHeap (s1.heap.push { cls := .type "list", data := .seq vs.toArray }) s1.heap.objs.size vs out.toArray).get? b = some u := fun b u e => by
    have q := k1 b u e
    have hlt := Heap.lt_size q
    rw [PyProof.Rows.sortedHeap_old (Nat.ne_of_lt hlt) (by rw [Heap.size_push]; exact Nat.lt_succ_of_lt hlt)]
    exact Heap.get?_push_of_some _ q
  have fin := hQ _ s1.toks s1.gens s1.heap.objs.size out c _ keep g1 hz hc r1 lt (fun k => by rw [pn.mem_iff, ← hm k]) (by rw [pn.length_eq, List.length_map, Array.length_toList]; exact hbs) s1.drawn
  obtain ⟨hp1, gg, dd, tt, oo⟩ := s1
  obtain rfl : oo = s.os := o1
  exact fin
end
section
variable {X : Cx} {a : Expr} {ta : TE} {p p2 q pos : Pos}
def rSsI (K : PySem.W.Frag) : V → Hp → VK → Prop := fun x H Q => ∃ (l : Addr) (ns : List Int), x = .ref l ∧ SqL K H l (ns.map V.int) ∧ ns.length ≤ 4000 ∧
  ∀ p, H p = none → Q (.ref p) (upd H p (.lst ((sortI (dedup ns)).map V.int)))
def tSsI (K : PySem.W.Frag) (ta : TE) : TE := fun σ H Q => ta σ H fun x H1 => rSsI K x H1 Q
theorem dedup_mem {ns : List Int} : ∀ k, k ∈ dedup ns ↔ k ∈ ns := by
  induction ns with
  | nil => intro k; exact Iff.rfl
  | cons n ns ih =>
    intro k
    rw [dedup, List.mem_cons, List.mem_cons, List.mem_filter, ih]
    constructor
    · rintro (h | ⟨h, _⟩)
      · exact .inl h
      · exact .inr h
    · rintro (h | h)
      · exact .inl h
      · by_cases e : k = n
        · exact .inl e
        · exact .inr ⟨h, by simp [e]⟩
theorem dedup_nodup : ∀ ns : List Int, (dedup ns).Nodup
  | [] => List.nodup_nil
  | n :: ns => by
    rw [dedup, List.nodup_cons]
    exact ⟨by simp [List.mem_filter], (dedup_nodup ns).filter _⟩
theorem sortI_dedup {ns ms : List Int} (h : ms.Pairwise (· < ·)) (hm : ∀ k, k ∈ ms ↔ k ∈ ns) : ms = sortI (dedup ns) := by
  refine sortI_uniq ?_ (h.imp fun h => Int.le_of_lt h)
  rw [List.perm_ext_iff_of_nodup (h.imp fun h => Int.ne_of_lt h) (dedup_nodup ns)]
  intro k
  rw [hm, dedup_mem]
theorem pe_sortedSet (hc : X.calm = true) (ha : PE X a ta) (hg : Gl X "sorted") (hm : X.mg "sorted" = none) (hg2 : Gl X "set") (hm2 : X.mg "set" = none)
    (na : starEach [a] X.env = (false, eval a X.env) :: starEach [] X.env := by rfl) : PE X (.Call (.Name "sorted" p) [.Call (.Name "set" p2) [a] [] q] [] pos) (tSsI X.K ta) := by
  refine ⟨fun pins s σ H Q I h => ?_⟩
  refine wpAny_Call_Name_kw (ld_blt I hg hm (u := .builtin "sorted") (by first | rfl | decide +kernel) ?_ (by first | decide +kernel | decide) (by first | decide +kernel | decide))
  refine PyProof.Rows.callWith_builtin1 (PyProof.Rows.args_cons ?_ rfl) rfl rfl
  refine wpAny_Call_Name_kw (ld_blt I hg2 hm2 PyProof.Rows.boot_set ?_ (by first | decide +kernel | decide) (by first | decide +kernel | decide))
  refine PyProof.Rows.callWith_type1 (PyProof.Rows.args_cons (thn (ha.run pins s σ H _ I h) fun v s1 ⟨x, H1, I1, r1, q1⟩ => PyProof.Rows.args_nil ?_) na) na rfl
  obtain ⟨l, ns, rfl, hq, hl, q1⟩ := q1
  cases r1
  obtain ⟨its, r, pl, hz⟩ := I1.list hq
  have hhd := I1.ok.hd hc
  refine set_of_list hhd pl.isList (by simpa using ints_of_vals r) (by unfold scanBound; omega) fun h' tk c R hcn k1 => PyProof.Rows.args_nil ?_
  refine sorted_setA R hhd fun h2 tk2 g p out c2 ms k2 eg hp hget hi hlt hmem hlen d => ?_
  subst eg
  have keep : ∀ b o, s1.heap.get? b = some o → h2.get? b = some o := fun b o e => k2 b o (k1 b o e)
  have hle : s1.heap.objs.size ≤ p := Nat.le_trans (Nat.le_of_lt (by
    obtain ⟨o, _, _, _, ho, _⟩ := R
    exact Heap.lt_size ho)) hp
  have hn : H1 p = none := I1.hok.fresh hle
  rw [← sortI_dedup hlt fun k => by rw [hmem k, decide_eq_true_eq]] at q1
  have J : L2.Inv X pins σ (upd H1 p (.lst (ms.map V.int))) { s1 with heap := h2, gens := s1.gens, drawn := d, toks := tk2 } :=
    I1.call (ch := []) (Un.laid keep hle hn) (I1.hok.laid keep hle ⟨by rw [List.length_map]; exact hlen, out, c2, vals_of_ints hi, hget⟩) I1.bare (fun _ z => nomatch z)
  exact ⟨.ref p, _, J, rfl, q1 p hn⟩
end
end Pv
/-! Pv: sorted(x.items()), sorted(set(x)) by the evaluator. -/
namespace Pv
open PySem PySem.Spec PyProof.Rows L2
section
variable {K : PySem.W.Frag} {Γ : Gm} {H : Hp} {F : AP} {fx : List Addr} {r t : RV} {x : V}
theorem keys_inl : ∀ {ks : List Key} {a : List Int}, ints? (ks.map keyD) = some a → ks = a.map Sum.inl
  | [], a, h => by cases h; rfl
  | .inr s :: ks, a, h => nomatch h
  | .inl i :: ks, a, h => by
    have h2 : (ints? (ks.map keyD)).map (i :: ·) = some a := h
    cases z : ints? (ks.map keyD) with
    | none => rw [z] at h2; cases h2
    | some b => rw [z] at h2; cases h2; rw [keys_inl z]; rfl
theorem zip_kv : ∀ {a b : List Int}, (a.map (Sum.inl : Int → Key)).zip (b.map V.int) = (a.zip b).map kvP
  | [], _ => rfl
  | _ :: _, [] => rfl
  | i :: a, j :: b => by
    show (Sum.inl i, V.int j) :: (a.map Sum.inl).zip (b.map V.int) = kvP (i, j) :: (a.zip b).map kvP
    rw [zip_kv]
theorem sitems_ok (iF : ∀ a, F a → ∃ o, H a = some o) (hr : RepR K Γ H F r x fx) (hf : unF .sitems r = some t) (Q : VK) (hq : ∀ z H', OpRes K Γ H F fx t z H' → Q z H') : rItS x H Q := by
  have q := hr.any
  unfold unF at hf
  dsimp only at hf
  split at hf
  · rename_i ks ds e
    rw [e] at q
    obtain ⟨d, xs, rfl, _, hd, hl, hv⟩ := q
    split at hf
    · rename_i a b e1 e2
      cases hf
      have hk := keys_inl e1
      have hx := hv.ints e2
      rw [hk, hx, zip_kv] at hd
      refine ⟨d, a.zip b, rfl, hd, fun H' p ts kp hp hts hpn hpl hpr => hq _ _ ⟨fun c => F c ∨ c ∈ ts, [p], fun _ h => .inl h, fun c h => h.imp id fun h => .inr (hts c h), kp, ?_, by simp, fun c h => ?_, fun c h => ?_⟩⟩
      · show RepM K Γ true H' _ (.lst (((sortP (a.zip b)).map pairD).map M.fz)) (.ref p) [p]
        refine ⟨p, _, [], rfl, rfl, hpl, RepMs.of_fz (rep_pairs ?_ fun i v hi => ?_)⟩
        · rw [List.length_map]; exact Paired.length hpr
        · rw [List.getElem?_map] at hi
          cases z : ts[i]? with
          | none => rw [z] at hi; cases hi
          | some t0 =>
            rw [z] at hi; cases hi
            obtain ⟨y, y1, y2⟩ := LiI.paired_get hpr z
            exact ⟨t0, y, y1, rfl, y2, .inr (List.mem_of_getElem? z)⟩
      · rw [List.mem_singleton.mp h]
        refine ⟨fun z => z.elim (fun z => ?_) hpn, .inl hp⟩
        obtain ⟨o, q⟩ := iF p z; rw [hp] at q; cases q
      · rcases h with h | h
        · obtain ⟨o, q⟩ := iF c h; exact ⟨o, kp c o q⟩
        · obtain ⟨j, hj⟩ := List.mem_iff_getElem?.mp h
          obtain ⟨y, _, y2⟩ := LiI.paired_get hpr hj
          exact ⟨_, y2⟩
    · cases hf
  · cases hf
theorem sset_ok (iF : ∀ a, F a → ∃ o, H a = some o) (iR : ∀ a ∈ fx, ∃ o, H a = some o) (hr : RepR K Γ H F r x fx) (hf : unF .sset r = some t) (Q : VK) (hq : ∀ z H', OpRes K Γ H F fx t z H' → Q z H') : rSsI K x H Q := by
  unfold unF at hf
  dsimp only at hf
  split at hf
  · rename_i ds e
    obtain ⟨l, ws, rfl, hl, hw⟩ := lstAny hr e
    split at hf
    · rename_i ns e1
      split at hf
      · rename_i hc
        cases hf
        refine ⟨l, ns, rfl, ?_, of_decide_eq_true hc, fun p hp => hq _ _ (op_new iF iR hp (RepDs.of_ints _))⟩
        rw [← hw.ints e1]; exact SqL.of hl
      · cases hf
    · cases hf
  · cases hf
end
section
variable {X : Cx} {Γ : Gm} {U : WX} {W : Wd} {ea : Expr} {a : E} {p p2 q apos cpos pos : Pos}
theorem un_eq {u : Un} : evE W (.un u a) = fun e => (evE W a e).bind fun r e => Out.of e (unF u r) := funext fun e => by rw [evE]
theorem se_sitems (hc : X.calm = true) (ha : SE X Γ U W ea a) (hg : Gl X "sorted") (hm : X.mg "sorted" = none) (hbase : attributeBase ea "items" X.env (eval ea X.env) = eval ea X.env := by rfl) (hline : (apos.endLine == cpos.line) = true := by rfl)
    (hse : starEach [Expr.Call (.Attribute ea "items" apos) [] [] cpos] X.env = [(false, eval (Expr.Call (.Attribute ea "items" apos) [] [] cpos) X.env)] := by rfl) :
    SE X Γ U W (.Call (.Name "sorted" p) [.Call (.Attribute ea "items" apos) [] [] cpos] [] pos) (.un .sitems a) :=
  PE.imp (pe_sortedItems hc ha hg hm hbase hline hse) fun σ H Q q => rd_op1 (f := unF .sitems) (ro := rItS) (by rw [un_eq, pureE] at q; exact q) fun r t x H F fx iF iR dF nd hr hf Q hq => sitems_ok iF hr hf Q hq
theorem se_sset (hc : X.calm = true) (ha : SE X Γ U W ea a) (hg : Gl X "sorted") (hm : X.mg "sorted" = none) (hg2 : Gl X "set") (hm2 : X.mg "set" = none)
    (na : starEach [ea] X.env = (false, eval ea X.env) :: starEach [] X.env := by rfl) : SE X Γ U W (.Call (.Name "sorted" p) [.Call (.Name "set" p2) [ea] [] q] [] pos) (.un .sset a) :=
  PE.imp (pe_sortedSet hc ha hg hm hg2 hm2 na) fun σ H Q q => rd_op1 (f := unF .sset) (ro := rSsI X.K) (by rw [un_eq, pureE] at q; exact q) fun r t x H F fx iF iR dF nd hr hf Q hq => sset_ok iF iR hr hf Q hq
end
end Pv
/-! Pv: isinstance of own classes, list.extend, clear, pop; list(range(..)); defaults. -/
namespace Pv
open PySem PySem.Spec PyProof.Rows L2
theorem isiK_cls {K : PySem.W.Frag} {Γ : Gm} {c : Nat} (h : IsiC K (Γ.cls c)) (f : ∀ t, t ∈ (["NoneType", "bool", "int", "str", "list", "tuple", "dict"] : List String) → PySem.W.kitOne K (.type t) (.ref (Γ.cls c)) = some false) : IsiK K Γ (.cls c) (.ref (Γ.cls c)) := by
  intro d k e
  cases d with
  | obj k' fs vs =>
    have e' : (if c = k' then some true else none) = some k := e
    by_cases hc : c = k'
    · rw [if_pos hc] at e'
      cases e'
      subst hc
      refine ⟨_, rfl, fun c' h' => by cases h'; exact h, ?_⟩
      unfold PySem.W.kitOne
      rw [if_pos (beq_self_eq_true _)]
    · rw [if_neg hc] at e'; cases e'
  | set _ => cases e
  | fn _ => cases e
  | non => cases e; exact ⟨_, rfl, fun _ h => (nomatch h), f _ (by decide)⟩
  | bl _ => cases e; exact ⟨_, rfl, fun _ h => (nomatch h), f _ (by decide)⟩
  | int _ => cases e; exact ⟨_, rfl, fun _ h => (nomatch h), f _ (by decide)⟩
  | str _ => cases e; exact ⟨_, rfl, fun _ h => (nomatch h), f _ (by decide)⟩
  | lst _ => cases e; exact ⟨_, rfl, fun _ h => (nomatch h), f _ (by decide)⟩
  | tup _ => cases e; exact ⟨_, rfl, fun _ h => (nomatch h), f _ (by decide)⟩
  | dct _ _ => cases e; exact ⟨_, rfl, fun _ h => (nomatch h), f _ (by decide)⟩
  | scr _ => cases e; exact ⟨_, rfl, fun _ h => (nomatch h), f _ (by decide)⟩
theorem kit_no {K : PySem.W.Frag} {C : Addr} {T : String} (h1 : PySem.W.isClsIn K C = true) (h2 : PySem.W.typeIn K (.ref C) = some (.type "type")) (h3 : PySem.W.subIn K (.type T) (.ref C) = some false) : PySem.W.kitOne K (.type T) (.ref C) = some false := by
  unfold PySem.W.kitOne
  rw [if_neg (by simp)]
  show (if ((PySem.W.clsIn K C).isSome && PySem.W.typeIn K (.ref C) == some (.type "type")) = true then PySem.W.subIn K (.type T) (.ref C) else none) = _
  have h1' : (PySem.W.clsIn K C).isSome = true := h1
  rw [h1', h2, h3]
  rfl
section
variable {X : Cx} {Γ : Gm} {U : WX} {L : Nat → Bool} {W : Wd} {ea eb ec : Expr} {a b c : E} {exs : List Expr} {es : List E} {pos p p2 q2 : Pos}
theorem se_extend {i : Nat} {x : Str} {apos xp : Pos} (hN : X.N[i]? = some x) (hv : Vis X.env.scope x) (hb : SE X Γ U W eb b)
    (hd : (x == ("__debug__" : Str)) = false := by decide) (hcd : (x == ("__classdict__" : Str)) = false := by decide) (hbase : attributeBase (.Name x xp) "extend" X.env (eval (.Name x xp) X.env) = eval (.Name x xp) X.env := by rfl)
    (hfew : ((backTo pos (starEach [eb] X.env)).all (fun x => !x.1) && (backToKw pos (keywordEach [] X.env)).all (fun x => x.1.isSome) && decide (([eb] : List Expr).length + ([] : List Keyword).length + (if ([] : List Keyword).isEmpty then 0 else 1) < 30)) = true := by rfl)
    (hline : (apos.endLine == pos.line) = true := by rfl) (hs : starEach [eb] X.env = (false, eval eb X.env) :: starEach [] X.env := by rfl) (hplain : (backTo pos (starEach [] X.env)).any (·.1) = false := by rfl) :
    SE X Γ U W (.Call (.Attribute (.Name x xp) "extend" apos) [eb] [] pos) (.mut .extend (.var i) [b]) :=
  PE.imp (pe_bm PySem.F.plainAttrs_list PySem.F.slot_list_extend PySem.F.type_list_extend mt_extend (pe_var hN hv hd hcd) (sa_cons hb sa_nil hs) hbase hfew hline hs hplain) fun σ H Q q => rd_mutV q
theorem se_clear {i : Nat} {x : Str} {apos xp : Pos} (hN : X.N[i]? = some x) (hv : Vis X.env.scope x)
    (hd : (x == ("__debug__" : Str)) = false := by decide) (hcd : (x == ("__classdict__" : Str)) = false := by decide) (hbase : attributeBase (.Name x xp) "clear" X.env (eval (.Name x xp) X.env) = eval (.Name x xp) X.env := by rfl) (hline : (apos.endLine == pos.line) = true := by rfl) :
    SE X Γ U W (.Call (.Attribute (.Name x xp) "clear" apos) [] [] pos) (.mut .clear (.var i) []) :=
  PE.imp (pe_bm0 PySem.F.plainAttrs_list PySem.F.slot_list_clear PySem.F.type_list_clear mt_clear (pe_var hN hv hd hcd) hbase hline) fun σ H Q q => by
    obtain ⟨v, hv, h1, h2⟩ := rd_mutV q
    exact ⟨v, hv, h1, rdL_nil h2⟩
theorem se_pop0 {i : Nat} {x : Str} {apos xp : Pos} (hN : X.N[i]? = some x) (hv : Vis X.env.scope x)
    (hd : (x == ("__debug__" : Str)) = false := by decide) (hcd : (x == ("__classdict__" : Str)) = false := by decide) (hbase : attributeBase (.Name x xp) "pop" X.env (eval (.Name x xp) X.env) = eval (.Name x xp) X.env := by rfl) (hline : (apos.endLine == pos.line) = true := by rfl) :
    SE X Γ U W (.Call (.Attribute (.Name x xp) "pop" apos) [] [] pos) (.mut .pop0 (.var i) []) :=
  PE.imp (pe_bm0 PySem.F.plainAttrs_list PySem.F.slot_list_pop PySem.F.type_list_pop mt_pop (pe_var hN hv hd hcd) hbase hline) fun σ H Q q => by
    obtain ⟨v, hv, h1, h2⟩ := rd_mutV q
    exact ⟨v, hv, h1, rdL_nil h2⟩
theorem rgV_eq {a b : Int} : rgV a b = (rangeI a (b - a).toNat).map V.int := by unfold rgV rangeI; rw [List.map_map]; rfl
theorem rangeI_len {a : Int} {n : Nat} : (rangeI a n).length = n := by unfold rangeI; rw [List.length_map, List.length_range]
theorem lr_ok {K : PySem.W.Frag} {rs : List RV} {r : RV} {H : Hp} {F : AP} {fr : List Addr} {a b : Int} (iF : ∀ a, F a → ∃ o, H a = some o) (iR : ∀ a ∈ fr, ∃ o, H a = some o) (ha : ints62 a = true) (hb : ints62 b = true)
    (hr : (if lenOk (rangeI a (b - a).toNat).length = true then some (RV.nl ((rangeI a (b - a).toNat).map .int)) else none) = some r) : RgOk a b ∧ ∀ q, H q = none → OpRes K Γ H F fr r (.ref q) (upd H q (.lst (rgV a b))) := by
  by_cases hl : lenOk (rangeI a (b - a).toNat).length = true
  · rw [if_pos hl] at hr
    cases hr
    have h1 := lenOk_iff hl
    rw [rangeI_len, sizeLine_val] at h1
    refine ⟨⟨(ints62_iff ha).1, (ints62_iff ha).2, (ints62_iff hb).1, (ints62_iff hb).2, h1⟩, fun q hq => ?_⟩
    rw [rgV_eq]
    exact op_new iF iR hq (RepDs.of_ints _)
  · rw [if_neg hl] at hr; cases hr
theorem se_lrange1 (hc : X.calm = true) (hg : Gl X "list") (hm : X.mg "list" = none) (hg2 : Gl X "range") (hm2 : X.mg "range" = none) (ha : SE X Γ U W ea a)
    (na : starEach [ea] X.env = (false, eval ea X.env) :: starEach [] X.env := by rfl) (nb : starEach [.Call (.Name "range" p2) [ea] [] q2] X.env = (false, eval (.Call (.Name "range" p2) [ea] [] q2) X.env) :: starEach [] X.env := by rfl) :
    SE X Γ U W (.Call (.Name "list" p) [.Call (.Name "range" p2) [ea] [] q2] [] pos) (.bi .lrange1 [a]) :=
  PE.imp (pe_listRg hc hg hm (prg_1 hg2 hm2 ha na) nb) fun σ H Q q => by
    have q1 := rd_fin (f := biF .lrange1) (os := evEs W [a]) (pu := pureEs [a]) (ro := fun vs H Q => ∃ x, vs = [x] ∧ ∃ n, x = .int n ∧ RgOk 0 n ∧ ∀ q, H q = none → Q (.ref q) (upd H q (.lst (rgV 0 n)))) (by rw [show evE W (.bi .lrange1 [a]) = fun e => (evEs W [a] e).bind fun rs e => Out.of e (biF .lrange1 rs) from funext fun e => by rw [evE]] at q; exact q) fun rs r vs H F fr iF iR dF nd hr hf Q hq => ?_
    · exact (rdL_cons q1).mono fun x H1 h => by
        obtain ⟨x', e, h2⟩ := rdL_nil h
        cases e
        exact h2
    · cases rs with
      | nil => cases hf
      | cons s rs =>
        cases rs with
        | cons _ _ => cases hf
        | nil =>
          have hf' : ((range? [s.d]).bind fun ns => if lenOk ns.length = true then some (RV.nl (ns.map .int)) else none) = some r := hf
          cases hz : range? [s.d] with
          | none => rw [hz] at hf'; cases hf'
          | some ns =>
            rw [hz] at hf'
            have hf2 : (if lenOk ns.length = true then some (RV.nl (ns.map .int)) else none) = some r := hf'
            obtain ⟨n, e1, e2, rfl⟩ := range1 hz rfl
            obtain ⟨x, rfl, q1⟩ := hr.one
            have e3 : s.d = .int n := by simpa using e1
            rw [show n.toNat = (n - 0).toNat by rw [Int.sub_zero]] at hf2
            obtain ⟨o1, o2⟩ := lr_ok (K := X.K) (Γ := Γ) (rs := []) iF iR (show ints62 0 = true by decide) e2 hf2
            exact ⟨x, rfl, n, q1.int e3, o1, fun q hq' => hq _ _ (o2 q hq')⟩
theorem se_lrange2 (hc : X.calm = true) (hg : Gl X "list") (hm : X.mg "list" = none) (hg2 : Gl X "range") (hm2 : X.mg "range" = none) (ha : SE X Γ U W ea a) (hb : SE X Γ U W eb b)
    (na : starEach [ea, eb] X.env = (false, eval ea X.env) :: starEach [eb] X.env := by rfl) (na2 : starEach [eb] X.env = (false, eval eb X.env) :: starEach [] X.env := by rfl) (hpl : (backTo q2 (starEach [eb] X.env)).any (·.1) = false := by rfl)
    (nb : starEach [.Call (.Name "range" p2) [ea, eb] [] q2] X.env = (false, eval (.Call (.Name "range" p2) [ea, eb] [] q2) X.env) :: starEach [] X.env := by rfl) :
    SE X Γ U W (.Call (.Name "list" p) [.Call (.Name "range" p2) [ea, eb] [] q2] [] pos) (.bi .lrange2 [a, b]) :=
  PE.imp (pe_listRg hc hg hm (prg_2 hg2 hm2 ha hb na na2 hpl) nb) fun σ H Q q => by
    have q1 := rd_fin (f := biF .lrange2) (os := evEs W [a, b]) (pu := pureEs [a, b]) (ro := fun vs H Q => ∃ x y, vs = [x, y] ∧ ∃ i j, x = .int i ∧ y = .int j ∧ RgOk i j ∧ ∀ q, H q = none → Q (.ref q) (upd H q (.lst (rgV i j)))) (by rw [show evE W (.bi .lrange2 [a, b]) = fun e => (evEs W [a, b] e).bind fun rs e => Out.of e (biF .lrange2 rs) from funext fun e => by rw [evE]] at q; exact q) fun rs r vs H F fr iF iR dF nd hr hf Q hq => ?_
    · exact (rdL_cons q1).mono fun x H1 h => (rdL_cons h).mono fun y H2 h => by
        obtain ⟨x', y', e, h2⟩ := rdL_nil h
        cases e
        exact h2
    · cases rs with
      | nil => cases hf
      | cons s rs =>
        cases rs with
        | nil => cases hf
        | cons t rs =>
          cases rs with
          | cons _ _ => cases hf
          | nil =>
            have hf' : ((range? [s.d, t.d]).bind fun ns => if lenOk ns.length = true then some (RV.nl (ns.map .int)) else none) = some r := hf
            cases hz : range? [s.d, t.d] with
            | none => rw [hz] at hf'; cases hf'
            | some ns =>
              rw [hz] at hf'
              have hf2 : (if lenOk ns.length = true then some (RV.nl (ns.map .int)) else none) = some r := hf'
              obtain ⟨i, j, e1, e2, e3, rfl⟩ := range2 hz rfl
              obtain ⟨x, y, f1, f2, rfl, _, q1, q2⟩ := hr.two
              have e4 : s.d = .int i ∧ t.d = .int j := by simpa using e1
              obtain ⟨o1, o2⟩ := lr_ok (K := X.K) (Γ := Γ) (rs := []) iF iR e2 e3 hf2
              exact ⟨x, y, rfl, i, j, q1.int e4.1, q2.int e4.2, o1, fun q hq' => hq _ _ (o2 q hq')⟩
end
/-! ### defaults -/
def gat {α : Type} (i : Nat) (l : List α) : List α := (l[i]?).toList
theorem Vals.gat {vs : List V} {us : List Value} (h : Vals vs us) (i : Nat) : Vals (Pv.gat i vs) (Pv.gat i us) := by
  unfold Pv.gat
  cases e : vs[i]? with
  | none =>
    have : us[i]? = none := by rw [List.getElem?_eq_none_iff] at e ⊢; rw [← h.length]; exact e
    rw [this]; exact .nil
  | some v =>
    obtain ⟨u, hu, r⟩ := h.get e
    rw [hu]; exact .cons r .nil
end Pv
/-! Pv: == and != by an own __eq__. -/
namespace Pv
open PySem PySem.Spec PyProof.Rows L2
/-- a class with an own __eq__ and no __ne__ -/
structure NeC (K : PySem.W.Frag) (C f : Addr) : Prop where
  ex : ∃ (nm q : Str) (N : Addr) (bs : List Value) (hdct : Bool) (sn : List Str) (sub : List Value) (ab : Bool) (col : Option Bool) (dd : Option Addr) (k0 k1 k2 k3 k5 : Option Value) (newId : String),
    K.lookup C = some (excClassObj nm q C N bs [.type "object"] hdct sn sub ab col dd k0 k1 k2 k3 k5 newId) ∧ PySem.W.nsOkIn K N = true ∧ PySem.W.nsIn K N "__ne__" = some none ∧ PySem.W.nsIn K N "__eq__" = some (some (.ref f))
  tl : PySem.W.subIn K (.type "list") (.ref C) = some false
  tt : PySem.W.subIn K (.type "tuple") (.ref C) = some false
theorem ns_some_of {K : PySem.W.Frag} {h : Heap} {N : Addr} {mg : Str → Option Value} {n : Str} {v : Value} (X : K.In h) (G : h.Ns N mg) (e : PySem.W.nsIn K N n = some (some v)) : mg n = some v := by
  obtain ⟨o, es, ep, ho, hd, _, hf⟩ := G
  unfold PySem.W.nsIn at e
  split at e
  · rename_i c d es' n' sl q
    have := X _ _ q
    rw [ho] at this
    cases this
    cases hd
    split at e
    · rename_i en he
      cases e
      rw [← hf]
      unfold nsFind findBy
      rw [← Array.find?_toList, he]
      rfl
    · split at e <;> cases e
  · cases e
theorem NeC.own {K : PySem.W.Frag} {C f x : Addr} {h : Heap} {o : Obj} (N : NeC K C f) (X : K.In h) (hf : PySem.W.isFn K (.ref f) = true) (hx : h.get? x = some o) (hc : o.cls = .ref C) : h.OwnEqNoNe x C f "object" [.type "object"] := by
  obtain ⟨nm, q, Na, bs, hdct, sn, sub, ab, col, dd, k0, k1, k2, k3, k5, newId, h1, h2, h3, h4⟩ := N.ex
  have e1 : (K.lookup f).map (·.cls) = some (.type "function") := beq_iff_eq.mp hf
  cases e2 : K.lookup f with
  | none => rw [e2] at e1; cases e1
  | some of =>
    rw [e2] at e1
    have hn : h.Ns Na (h.nsMap Na) := .of_isNs (PySem.W.isNs_of_in X h2)
    exact ⟨o, of, nm, q, Na, bs, hdct, sn, sub, ab, col, dd, k0, k1, k2, k3, k5, newId, h.nsMap Na, _, hx, hc, X _ _ h1, hn, ns_some_of X hn h4, X _ _ e2, Option.some.inj e1, PySem.F.cmp_object.mro, PySem.F.cmp_object.eq.lookup, PySem.W.ns_none_of X hn h3⟩
theorem looks_type {M : Model} {h : Heap} {b : Addr} {ob : Obj} (e : h.get? b = some ob) : PySem.W.Looks M h (typeOf (.ref b)) ob.cls := (PySem.W.Looks.ld e).andThen .now
section
variable {prog : Program} {w : World} {A : Around} {E : Value → Shared → Prop} {K : PySem.W.Frag} {h : Heap} {g : Array GenState} {d : Drawn} {t : Nat} {os : OsState} {C x y f : Addr}
theorem ne_any {Q : Value → Shared → Prop} {ox oy : Obj} (N : h.OwnEqNoNe x C f "object" [.type "object"]) (X : K.In h) (hx : h.get? x = some ox) (hc : ox.cls = .ref C) (hy : h.get? y = some oy) (hn : PySem.W.notFirst K C oy.cls = true) (hu : A.units + 1 < cLine)
    (hcall : wpAny (model prog w) A.in1 (call (.ref f) [.ref x, .ref y]) (fun v s' => ∃ b, v = .bool b ∧ Q (.bool (!b)) s') E ⟨h, g, d, t, os⟩) :
    wpAny (model prog w) A (compareOp .NotEq (.ref x) (.ref y)) Q E ⟨h, g, d, t, os⟩ := by
  unfold compareOp
  show wpAny (model prog w) A (richCompare .NotEq (.ref x) (.ref y)) Q E ⟨h, g, d, t, os⟩
  have one : wpAny (model prog w) A (tryCompare (.ref x) "__ne__" (.ref y)) (fun r s' => ∃ v, r = some v ∧ Q v s') E ⟨h, g, d, t, os⟩ :=
    tryCompare_ne_ownEq PySem.F.cmp_object N hu (wpAny_mono hcall (fun v s' ⟨b, e, q⟩ => ⟨b, e, _, rfl, q⟩) fun _ _ e => e)
  unfold richCompare
  simp only [oneThing_ref]
  refine wpAny_holding (wpAny_bind (wpAny_cRoomFor (Nat.lt_of_succ_lt hu) ?_))
  refine wpAny_bind ((looks_type hx).here (wpAny_bind ((looks_type hy).here ?_)))
  rw [hc]
  split
  · rename_i q
    have e : PySem.W.subIn K oy.cls (.ref C) = some false := by
      rcases Bool.or_eq_true_iff.mp hn with e | e
      · rw [beq_iff_eq.mp e] at q; simp at q
      · exact beq_iff_eq.mp e
    refine wpAny_bind ((PySem.W.looks_subIn X e).here ?_)
    simp only [Bool.false_eq_true, if_false]
    refine wpAny_bind (wpAny_mono one (fun r s' z => ?_) fun _ _ e => e)
    obtain ⟨v, rfl, hq⟩ := z
    exact wpAny_pure hq
  · refine wpAny_bind (wpAny_pure ?_)
    simp only [Bool.false_eq_true, if_false]
    refine wpAny_bind (wpAny_mono one (fun r s' z => ?_) fun _ _ e => e)
    obtain ⟨v, rfl, hq⟩ := z
    exact wpAny_pure hq
end
/-- what the layer asks -/
def roEqo (K : PySem.W.Frag) (Γ : Gm) (C : Calls) (neg : Bool) (c f : Nat) : R2 := fun x y H Q => (∃ a dx fs, x = .ref a ∧ H a = some (.ins (Γ.cls c) dx fs)) ∧
  (∃ b, y = .ref b ∧ ((∃ dx fs, H b = some (.ins (Γ.cls c) dx fs)) ∨ (∃ xs, H b = some (.lst xs)) ∨ ∃ xs, SqT K H b xs)) ∧ spI K Γ C f [x, y] H (fun v H' => ∃ k, v = .bl k ∧ Q (.bl (if neg then !k else k)) H') (fun _ _ _ => False)
section
variable {X : Cx} {Γ : Gm} {U : WX} {W : Wd} {ea eb : Expr} {a b : E} {pos : Pos} {n c f : Nat} {fd : FuncData} {ps : List Str}
theorem roEqo_ok {neg : Bool} (M : MtAt X Γ W c f "__eq__" n fd ps) (N : NeC X.K (Γ.cls c) (Γ.fn f)) (hb : Binds X.K fd ps []) (hr : Room (n + 1) X.A) : OpR X (compareOp (if neg then .NotEq else .Eq)) (roEqo X.K Γ W.C neg c f) := by
  intro pins s σ H x y u v Q I rx ry ⟨⟨a, dx, fs, e1, ha⟩, ⟨b, e2, hbb⟩, hsp⟩
  subst e1 e2
  cases rx
  cases ry
  obtain ⟨mA, J, _⟩ := ins_get I.hok ha
  obtain ⟨od, J, _⟩ := J.look
  obtain ⟨m, hF⟩ := I.fr
  -- what stands at b
  obtain ⟨ob, hob, hnf⟩ : ∃ ob, s.heap.get? b = some ob ∧ PySem.W.notFirst X.K (Γ.cls c) ob.cls = true := by
    rcases hbb with ⟨dy, gs, h⟩ | ⟨xs, h⟩ | ⟨xs, h⟩
    · obtain ⟨mB, J', _⟩ := ins_get I.hok h
      obtain ⟨od', J', _⟩ := J'.look
      exact ⟨_, J'.at_, by rw [J'.cls]; simp [PySem.W.notFirst]⟩
    · obtain ⟨z, its, k, r, e⟩ := I.hok b _ h
      exact ⟨_, e, by show (_ || _) = true; rw [show PySem.W.subIn X.K (.type "list") (.ref (Γ.cls c)) = some false from N.tl]; simp⟩
    · obtain ⟨its, r, e, z⟩ := I.tuple h
      obtain ⟨⟨cls, ddd, data, sl⟩, ho, hc, n2, hd⟩ := id e
      simp only at hc hd
      exact ⟨_, ho, by subst hc; show (_ || _) = true; rw [show PySem.W.subIn X.K (.type "tuple") (.ref (Γ.cls c)) = some false from N.tt]; simp⟩
  have r2 : Vals [V.ref a, V.ref b] [Value.ref a, Value.ref b] := .cons rfl (.cons rfl .nil)
  -- the call, somewhere below
  have run : ∀ A : Around, Room n A → A.frames = X.A.frames → ∀ R : Value → Shared → Prop, (∀ k s', (∃ H', L2.Inv X pins σ H' s' ∧ Q (.bl (if neg then !k else k)) H') → R (.bool k) s') → wpAny (model X.prog X.w) A (call (.ref (Γ.fn f)) [.ref a, .ref b]) R X.xe s := by
    intro A hA hfr R hR
    have e0 : Env0 X.prog X.w X.K X.mg X.base A X.stack s H := by
      have e := I.env0
      exact ⟨by rw [hfr]; exact e.frames, e.mod, e.bs, e.bsz, e.funs, e.frf, e.hok, e.bare⟩
    have hl := M.ok.len _ _ _ _ hsp
    refine wpAny_call (codeAny_mono (M.ok.run A X.stack s H ⟨[.ref a, .ref b], []⟩ [.ref a, .ref b] [.ref a, .ref b] _ _ hA e0 (by
      have := hb s [.ref a, .ref b] I.kIn (by simpa using hl)
      simpa using this) r2 hsp) fun r s' hq => ?_)
    cases r with
    | error e =>
      obtain ⟨_, _, _, _, _, _, _, _, _, _, _, _, z⟩ := hq
      exact z.elim
    | ok fl =>
      cases fl with
      | ret w =>
        obtain ⟨z, H', I', rz, k, ez, qz⟩ := I.after hq
        subst ez
        cases rz
        exact hR k s' ⟨H', I', qz⟩
      | next => exact False.elim hq
      | brk => exact False.elim hq
      | cont => exact False.elim hq
  cases neg with
  | false =>
    show wpAny (model X.prog X.w) X.A (richCompare .Eq (.ref a) (.ref b)) (EP X pins σ Q) X.xe s
    refine PySem.W.cmp_K (op := .Eq) hr.units0 hF I.ok.mod.kin J (looks_type hob) hnf M.mt.at_ M.mt.fn (run X.A (hr.mono (Nat.le_succ _)) rfl _ fun k s' ⟨H', I', q⟩ => ?_)
    exact ⟨.bl k, H', I', rfl, q⟩
  | true =>
    obtain ⟨hp, gg, dd, tk, os⟩ := s
    refine ne_any (K := X.K) (N.own I.kIn M.mt.fn J.at_ J.cls) I.kIn J.at_ J.cls hob hnf (Room.u1 hr) (run X.A.in1 hr.in1 rfl _ fun k s' ⟨H', I', q⟩ => ?_)
    exact ⟨k, rfl, .bl (!k), H', I', rfl, q⟩
theorem eqoF_ok {neg : Bool} : ∀ r s t x y H F fx fy, (∀ a, F a → ∃ o, H a = some o) → (∀ a ∈ fx ++ fy, ∃ o, H a = some o) → (∀ a ∈ fx ++ fy, ¬ F a) → (fx ++ fy).Nodup → RepR X.K Γ H F r x fx → RepR X.K Γ H F s y fy →
    eqoF W.C neg c f r s = some t → ∀ Q, (∀ z H', OpRes X.K Γ H F (fx ++ fy) t z H' → Q z H') → roEqo X.K Γ W.C neg c f x y H Q := by
  intro r s t x y H F fx fy iF iR dF nd hr hs hf Q hq
  unfold eqoF at hf
  split at hf
  · rename_i k fs vs d hm hn
    obtain ⟨h1, e1⟩ := hr.fzd hm
    obtain ⟨h2, e2⟩ := hs.fzd hn
    subst e1 e2
    split at hf
    · rename_i hk
      rw [Bool.and_eq_true] at hk
      obtain rfl := of_decide_eq_true hk.1
      split at hf
      · rename_i bb outs hC
        cases hf
        refine ⟨?_, ?_, F, [.fz (.obj k fs vs), .fz d], [], ⟨x, [y], [], [], rfl, rfl, ⟨rfl, h1⟩, y, [], [], [], rfl, rfl, ⟨rfl, h2⟩, rfl, rfl⟩, List.nodup_nil, fun _ h => (nomatch h), iF, ?_⟩
        · obtain ⟨a, dx, xs, rfl, _, ha, _⟩ := h1
          exact ⟨a, dx, _, rfl, ha⟩
        · cases d with
          | obj k' gs ws =>
            obtain ⟨a, dx, xs, rfl, _, ha, _⟩ := h2
            obtain rfl : k' = k := of_decide_eq_true hk.2
            exact ⟨a, rfl, .inl ⟨dx, _, ha⟩⟩
          | lst ds => obtain ⟨a, xs, rfl, _, ha, _⟩ := h2; exact ⟨a, rfl, .inr (.inl ⟨_, ha⟩)⟩
          | tup ds => obtain ⟨a, xs, rfl, ha, _⟩ := h2; exact ⟨a, rfl, .inr (.inr ⟨_, ha.sq⟩)⟩
          | _ => cases hk.2
        · rw [hC]
          rintro v H' ⟨F', fo, fr, st, ho, hv, nd', dF', iF'⟩
          obtain ⟨_, ev⟩ := hv
          obtain rfl : v = .bl bb := ev
          exact ⟨bb, rfl, hq _ _ ⟨F', [], st.sub, fun a h => (st.new a h).imp id fun z => z.elim (fun z => nomatch z) .inr, fun a o h => st.frame a o h (fun z => nomatch z), ⟨rfl, rfl⟩, List.nodup_nil, fun _ h => (nomatch h), iF'⟩⟩
      · cases hf
    · cases hf
  · cases hf
theorem rd_eqo {neg : Bool} {σ : L2.St} {H : Hp} {Q : VK} (q : rdE X.K Γ U (evE W (.eqo neg c f a b)) (pureE (.eqo neg c f a b)) σ H Q) :
    rdE X.K Γ U (evE W a) (pureE a) σ H fun x H1 => rdE X.K Γ U (evE W b) (pureE b) σ H1 fun y H2 => roEqo X.K Γ W.C neg c f x y H2 Q :=
  rd_op2 (by rw [show evE W (.eqo neg c f a b) = fun e => (evE W a e).bind fun r e => if (r.loose && !pureE b) = true then Out.stuck else (evE W b e).bind fun s e => Out.of e (eqoF W.C neg c f r s) from funext fun e => by rw [evE]] at q; exact q) eqoF_ok
theorem se_eqo (M : MtAt X Γ W c f "__eq__" n fd ps) (N : NeC X.K (Γ.cls c) (Γ.fn f)) (hbi : Binds X.K fd ps []) (hr : Room (n + 1) X.A) (ha : SE X Γ U W ea a) (hb : SE X Γ U W eb b) : SE X Γ U W (.Compare ea [.Eq] [eb] pos) (.eqo false c f a b) :=
  PE.imp (pe_cmpR (op := .Eq) (roEqo_ok (neg := false) M N hbi hr) ha hb (nomark _)) fun σ H Q q => rd_eqo q
theorem se_neo (M : MtAt X Γ W c f "__eq__" n fd ps) (N : NeC X.K (Γ.cls c) (Γ.fn f)) (hbi : Binds X.K fd ps []) (hr : Room (n + 1) X.A) (ha : SE X Γ U W ea a) (hb : SE X Γ U W eb b) : SE X Γ U W (.Compare ea [.NotEq] [eb] pos) (.eqo true c f a b) :=
  PE.imp (pe_cmpR (op := .NotEq) (roEqo_ok (neg := true) M N hbi hr) ha hb (nomark _)) fun σ H Q q => rd_eqo q
end
end Pv
namespace Pv
open PySem PySem.Spec PyProof.Rows L2
section
variable {X : Cx} {Γ : Gm} {U : WX} {W : Wd} {ea eb : Expr} {a b : E} {pos : Pos} {n c f : Nat} {fd : FuncData} {ps : List Str}
theorem bl_eqo {neg : Bool} {env : Env} : BlO (evE W (.eqo neg c f a b) env) := by
  rw [evE]
  refine .bind fun r e => ?_
  split
  · exact .stuck
  · refine .bind fun s e => ?_
    intro r' e' h
    unfold Out.of at h
    split at h
    · rename_i v hv
      cases h
      unfold eqoF at hv
      split at hv
      · split at hv
        · split at hv
          · cases hv; exact ⟨_, rfl⟩
          · cases hv
        · cases hv
      · cases hv
    · cases h
theorem st_eqo (M : MtAt X Γ W c f "__eq__" n fd ps) (N : NeC X.K (Γ.cls c) (Γ.fn f)) (hbi : Binds X.K fd ps []) (hr : Room (n + 1) X.A) (ha : SE X Γ U W ea a) (hb : SE X Γ U W eb b) : ST X Γ U W (.Compare ea [.Eq] [eb] pos) (.eqo false c f a b) :=
  PT.imp (pt_cmpR (op := .Eq) (roEqo_ok (neg := false) M N hbi hr) ha hb (nomark _)) fun σ H Q q => rd_eqo (rd_valB q fun env => bl_eqo)
theorem st_neo (M : MtAt X Γ W c f "__eq__" n fd ps) (N : NeC X.K (Γ.cls c) (Γ.fn f)) (hbi : Binds X.K fd ps []) (hr : Room (n + 1) X.A) (ha : SE X Γ U W ea a) (hb : SE X Γ U W eb b) : ST X Γ U W (.Compare ea [.NotEq] [eb] pos) (.eqo true c f a b) :=
  PT.imp (pt_cmpR (op := .NotEq) (roEqo_ok (neg := true) M N hbi hr) ha hb (nomark _)) fun σ H Q q => rd_eqo (rd_valB q fun env => bl_eqo)
end
end Pv
/-! Pv: the evaluator by weakest preconditions: equations that a simplifier walks by.
Every continuation is a constant that waits for its last arguments, so that nothing behind a stop is looked at. -/
namespace Pv
open PySem L2

abbrev XE := Nat → List D → Env → Prop
abbrev QE := RV → Env → Prop
abbrev QF := Fl → Env → Prop
abbrev QO := M → List (Option M) → Prop
abbrev XO := Nat → List D → List (Option M) → Prop
def wp {α : Type} (o : Out α) (Q : α → Env → Prop) (X : XE) : Prop :=
  match o with
  | .ok a e => Q a e
  | .exc c ds e => X c ds e
  | .stuck => False
def wO {α : Type} (o : Option α) (Q : α → Prop) : Prop :=
  match o with
  | some a => Q a
  | none => False
def wC (r : CRes) (Q : QO) (X : XO) : Prop :=
  match r with
  | .ok m o => Q m o
  | .exc c ds o => X c ds o
  | .stuck => False
def wSl (s : Sl) (Q : M → Bool → Prop) : Prop :=
  match s with
  | .ok m w => Q m w
  | .no => False
def wI (d : D) (Q : Int → Prop) : Prop :=
  match d with
  | .int i => Q i
  | _ => False
def wG (c : Bool) (p : Prop) : Prop := c = true ∧ p
def wIf (c : Bool) (p q : Unit → Prop) : Prop := (c = true → p ()) ∧ (c = false → q ())
def E.isVar : E → Bool
  | .var _ => true
  | _ => false
def fzD : M → D
  | .fz d => d
  | _ => .non
def enumD (ds : List D) : List D := ds.zipIdx.map fun (d, i) => .tup [.int i, d]
def fold? (v : Bool) (d : D) : Option Bool := if v && !d.isBl then none else d.truth

section
variable (W : Wd)
def wE (a : E) (e : Env) (Q : QE) (X : XE) : Prop := wp (evE W a e) Q X
def wEs (a : List E) (e : Env) (Q : List RV → Env → Prop) (X : XE) : Prop := wp (evEs W a e) Q X
def wB (k v : Bool) (a : List E) (e : Env) (Q : QE) (X : XE) : Prop := wp (evB W k v a e) Q X
def wTs (a : List E) (e : Env) (Q : Bool → Env → Prop) (X : XE) : Prop := wp (evTs W a e) Q X
def wA (a : E) (e : Env) (Q : Arg → Env → Prop) (X : XE) : Prop := wp (evA W a e) Q X
def wAs (a : List E) (e : Env) (Q : List Arg → Env → Prop) (X : XE) : Prop := wp (evAs W a e) Q X
def wPl (a : E) (e : Env) (Q : Nat × List Step → Env → Prop) (X : XE) : Prop := wp (evP W a e) Q X
def wIt (a : It) (e : Env) (Q : List D × List Nat → Env → Prop) (X : XE) : Prop := wp (evIt W a e) Q X
def wTg (t : Tg) (m : M) (e : Env) (Q : Env → Prop) (X : XE) : Prop := wp (tgset W t m e) (fun _ e => Q e) X
def wTgs (t : List Tg) (m : List M) (e : Env) (Q : Env → Prop) (X : XE) : Prop := wp (tgsets W t m e) (fun _ e => Q e) X
def wS (s : S) (e : Env) (Q : QF) (X : XE) : Prop := wp (evS W s e) Q X
def wSs (s : List S) (e : Env) (Q : QF) (X : XE) : Prop := wp (evSs W s e) Q X
def wF (t : T) (b : List S) (ds : List D) (e : Env) (Q : QF) (X : XE) : Prop := wp (loopF (tset t) (evSs W b) ds e) Q X
def wW (c : E) (b : List S) (n : Nat) (e : Env) (Q : QF) (X : XE) : Prop := wp (loopW (fun e => (evE W c e).bind fun r e => Out.of e r.d.truth) (evSs W b) n e) Q X
def wLC (vs : List Nat) (t : T) (ifs : List E) (el : E) (ds : List D) (acc : List M) (e : Env) (Q : List M → Env → Prop) (X : XE) : Prop :=
  wp (loopC (fun d e => if vs.all (plainAt e) then tset t d (wipeE vs e) else none) (fun e => (evTs W ifs e).nox) (fun e => (evE W el e).nox) ds acc e) Q X
def wCl (f : Nat) (ms : List M) (Q : QO) (X : XO) : Prop := wC (W.C f ms) Q X

/-! continuations -/
def kAt (Q : QE) (e : Env) (v : RV) : Prop := Q v e
def kOf (Q : QE) (e : Env) (d : D) : Prop := Q ⟨.fz d, false⟩ e
def kBl (Q : QE) (e : Env) (k : Bool) : Prop := Q ⟨.fz (.bl k), false⟩ e
def kBc (k : Bool) (Q : QE) (e : Env) (_ : Unit) : Prop := Q ⟨.fz (.bl k), false⟩ e
def kVar (Q : QE) (e : Env) (m : M) (_ : Bool) : Prop := Q ⟨m, true⟩ e
def kMv (i : Nat) (Q : QE) (e : Env) (m : M) (w : Bool) : Prop := wG w (Q ⟨m, false⟩ (e.set i .no))
def kNeg2 (Q : QE) (e : Env) (i : Int) : Prop := Q ⟨.fz (.int (-i)), false⟩ e
def kNeg (Q : QE) (r : RV) (e : Env) : Prop := wI r.d (kNeg2 Q e)
def kNot2 (Q : QE) (e : Env) (b : Bool) : Prop := Q ⟨.fz (.bl (!b)), false⟩ e
def kNot (Q : QE) (r : RV) (e : Env) : Prop := wO r.d.truth (kNot2 Q e)
def kBin2 (o : Op2) (r : RV) (Q : QE) (s : RV) (e : Env) : Prop := wO (bin2 o r s) (kAt Q e)
def kBin (o : Op2) (b : E) (Q : QE) (X : XE) (r : RV) (e : Env) : Prop := wG (!(r.loose && !pureE b)) (wE W b e (kBin2 o r Q) X)
def kCmp2 (o : Cm) (r : RV) (Q : QE) (s : RV) (e : Env) : Prop := wO (cmp2 o r.d s.d) (kBl Q e)
def kCmp (o : Cm) (b : E) (Q : QE) (X : XE) (r : RV) (e : Env) : Prop := wG (!(r.loose && !pureE b)) (wE W b e (kCmp2 o r Q) X)
def kCh8 (p : Cm) (j : Int) (Q : QE) (e : Env) (l : Int) : Prop := wO (cmp2 p (.int j) (.int l)) (kBl Q e)
def kCh7 (p : Cm) (j : Int) (Q : QE) (t : RV) (e : Env) : Prop := wI t.d (kCh8 p j Q e)
def kCh6 (p : Cm) (c : E) (Q : QE) (X : XE) (j : Int) (e : Env) (_ : Unit) : Prop := wE W c e (kCh7 p j Q) X
def kCh5 (p : Cm) (c : E) (Q : QE) (X : XE) (j : Int) (e : Env) (k : Bool) : Prop := wIf k (kCh6 W p c Q X j e) (kBc false Q e)
def kCh4 (o p : Cm) (c : E) (Q : QE) (X : XE) (i : Int) (e : Env) (j : Int) : Prop := wO (cmp2 o (.int i) (.int j)) (kCh5 W p c Q X j e)
def kCh3 (o p : Cm) (c : E) (Q : QE) (X : XE) (i : Int) (s : RV) (e : Env) : Prop := wI s.d (kCh4 W o p c Q X i e)
def kCh2 (o p : Cm) (b c : E) (Q : QE) (X : XE) (e : Env) (i : Int) : Prop := wE W b e (kCh3 W o p c Q X i) X
def kCh1 (o p : Cm) (b c : E) (Q : QE) (X : XE) (r : RV) (e : Env) : Prop := wI r.d (kCh2 W o p b c Q X e)
def kB3 (k v : Bool) (b : E) (es : List E) (Q : QE) (X : XE) (e : Env) (_ : Unit) : Prop := wB W k v (b :: es) e Q X
def kB2 (k v : Bool) (b : E) (es : List E) (Q : QE) (X : XE) (e : Env) (c : Bool) : Prop := wIf (c == k) (kB3 W k v b es Q X e) (kBc (!k) Q e)
def kB (k v : Bool) (b : E) (es : List E) (Q : QE) (X : XE) (r : RV) (e : Env) : Prop := wO (fold? v r.d) (kB2 W k v b es Q X e)
def kE (a : E) (e : Env) (Q : QE) (X : XE) (_ : Unit) : Prop := wE W a e Q X
def kIte2 (a b : E) (Q : QE) (X : XE) (e : Env) (k : Bool) : Prop := wIf k (kE W a e Q X) (kE W b e Q X)
def kIte (a b : E) (Q : QE) (X : XE) (r : RV) (e : Env) : Prop := wO r.d.truth (kIte2 W a b Q X e)
def kEs2 (r : RV) (Q : List RV → Env → Prop) (rs : List RV) (e : Env) : Prop := Q (r :: rs) e
def kEs (es : List E) (Q : List RV → Env → Prop) (X : XE) (r : RV) (e : Env) : Prop := wG (!(r.loose && !pureEs es)) (wEs W es e (kEs2 r Q) X)
def kTup (Q : QE) (rs : List RV) (e : Env) : Prop := wG (!(rs.any RV.loose)) (wG (lenOk rs.length) (Q ⟨.fz (.tup (rs.map RV.d)), false⟩ e))
def kTupm (Q : QE) (rs : List RV) (e : Env) : Prop := wG (!(rs.any RV.loose)) (wG (lenOk rs.length) (Q ⟨.tup (rs.map RV.m), false⟩ e))
def kTupv (Q : QE) (rs : List RV) (e : Env) : Prop := wG (lenOk rs.length) (Q ⟨.tup (rs.map RV.m), true⟩ e)
def kEqo2 (neg : Bool) (c f : Nat) (r : RV) (Q : QE) (s : RV) (e : Env) : Prop := wO (eqoF W.C neg c f r s) (kAt Q e)
def kEqo (neg : Bool) (c f : Nat) (b : E) (Q : QE) (X : XE) (r : RV) (e : Env) : Prop := wG (!(r.loose && !pureE b)) (wE W b e (kEqo2 W neg c f r Q) X)
def kLst (Q : QE) (rs : List RV) (e : Env) : Prop := wG (!(rs.any RV.loose)) (wG (lenOk rs.length) (Q ⟨.lst (rs.map RV.m), false⟩ e))
def kSub2 (r : RV) (Q : QE) (s : RV) (e : Env) : Prop := wO (subR r s.d) (kAt Q e)
def kSub (i : E) (Q : QE) (X : XE) (r : RV) (e : Env) : Prop := wG (!(r.loose && !pureE i)) (wE W i e (kSub2 r Q) X)
def kSlc (k : Nat) (Q : QE) (rs : List RV) (e : Env) : Prop := wO (slcF k rs) (kAt Q e)
def kS35 (r : RV) (i : Int) (Q : QE) (e : Env) (j : Int) : Prop := wO (cutR r (some i) (some j)) (kAt Q e)
def kS34 (r : RV) (i : Int) (Q : QE) (t : RV) (e : Env) : Prop := wI t.d (kS35 r i Q e)
def kS33 (r : RV) (c : E) (Q : QE) (X : XE) (e : Env) (i : Int) : Prop := wE W c e (kS34 r i Q) X
def kS32 (r : RV) (c : E) (Q : QE) (X : XE) (s : RV) (e : Env) : Prop := wI s.d (kS33 W r c Q X e)
def kS31 (b c : E) (Q : QE) (X : XE) (r : RV) (e : Env) : Prop := wG (!(r.loose && !(pureE b && pureE c))) (wE W b e (kS32 W r c Q X) X)
def kRev (Q : QE) (r : RV) (e : Env) : Prop := wO (revR r) (kAt Q e)
def kFr (Q : QE) (r : RV) (e : Env) : Prop := wG (!r.loose) (Q ⟨.fz r.d, false⟩ e)
def kUnp (u : Un) (Q : QE) (r : RV) (e : Env) : Prop := wO (unF u r) (kAt Q e)
def kAttr (f : Str) (Q : QE) (r : RV) (e : Env) : Prop := wO (attrR r f) (kAt Q e)
def kBi (b : Bi) (Q : QE) (rs : List RV) (e : Env) : Prop := wO (biF b rs) (kAt Q e)
def kBm2 (b : Bm) (r : RV) (Q : QE) (rs : List RV) (e : Env) : Prop := wO (bmF b r rs) (kAt Q e)
def kBm (b : Bm) (es : List E) (Q : QE) (X : XE) (r : RV) (e : Env) : Prop := wG (!(r.loose && !pureEs es)) (wG (bmTy b r.d) (wEs W es e (kBm2 b r Q) X))
def kPr (Q : QE) (q : RV × Env) : Prop := Q q.1 q.2
def kMut2 (b : Mu) (p : Nat × List Step) (Q : QE) (rs : List RV) (e : Env) : Prop := wO (e.mod p.1 (M.mod (muF b rs) p.2)) (kPr Q)
def kMut (b : Mu) (es : List E) (Q : QE) (X : XE) (p : Nat × List Step) (e : Env) : Prop := wG (lstAt e p.1 p.2 && (p.2.isEmpty || pureEs es)) (wEs W es e (kMut2 b p Q) X)
def kRes (Q : QE) (bs : List Arg) (e : Env) (m : M) (outs : List (Option M)) : Prop := Q ⟨m, false⟩ (giveA bs outs e)
def kExc (X : XE) (bs : List Arg) (e : Env) (c : Nat) (ds : List D) (outs : List (Option M)) : Prop := X c ds (giveA bs outs e)
def kCall3 (f : Nat) (Q : QE) (X : XE) (bs : List Arg) (p : List M × Env) : Prop := wCl W f p.1 (kRes Q bs p.2) (kExc X bs p.2)
def kCall2 (f : Nat) (Q : QE) (X : XE) (e : Env) (bs : List Arg) : Prop := wO (takeA bs e) (kCall3 W f Q X bs)
def kCall (f : Nat) (pm : List Pm) (Q : QE) (X : XE) (as : List Arg) (e : Env) : Prop := wO (pick as (dflA W.cs) pm) (kCall2 W f Q X e)
def kLc2 (vs : List Nat) (e : Env) (sh : List Nat) (Q : QE) (acc : List M) (e' : Env) : Prop := wG (vs.all (plainAt e') && vs.all (plainAt e)) (Q ⟨.lst acc, false⟩ (unshut sh (backE e vs (wipeE vs e'))))
def kLc (vs : List Nat) (t : T) (ifs : List E) (el : E) (Q : QE) (X : XE) (p : List D × List Nat) (e : Env) : Prop := wLC W vs t ifs el p.1 [] e (kLc2 vs e p.2 Q) X
def kQF (Q : Bool → Env → Prop) (e : Env) (_ : Unit) : Prop := Q false e
def kTs3 (es : List E) (Q : Bool → Env → Prop) (X : XE) (e : Env) (_ : Unit) : Prop := wTs W es e Q X
def kTs2 (es : List E) (Q : Bool → Env → Prop) (X : XE) (e : Env) (b : Bool) : Prop := wIf b (kTs3 W es Q X e) (kQF Q e)
def kTs (es : List E) (Q : Bool → Env → Prop) (X : XE) (r : RV) (e : Env) : Prop := wO r.d.truth (kTs2 W es Q X e)
def kAv2 (i : Nat) (Q : Arg → Env → Prop) (e : Env) (w : Bool) (_ : Unit) : Prop := wG w (Q (.bor i) e)
def kAv3 (m : M) (Q : Arg → Env → Prop) (e : Env) (_ : Unit) : Prop := Q (.val m) e
def kAv (i : Nat) (Q : Arg → Env → Prop) (e : Env) (m : M) (w : Bool) : Prop := wIf m.isNode (kAv2 i Q e w) (kAv3 m Q e)
def kAo2 (Q : Arg → Env → Prop) (e : Env) (m : M) : Prop := Q (.val m) e
def kAo (Q : Arg → Env → Prop) (r : RV) (e : Env) : Prop := wO r.sto (kAo2 Q e)
def kAs2 (r : Arg) (Q : List Arg → Env → Prop) (rs : List Arg) (e : Env) : Prop := Q (r :: rs) e
def kAs (es : List E) (Q : List Arg → Env → Prop) (X : XE) (r : Arg) (e : Env) : Prop := wAs W es e (kAs2 r Q) X
def kPa (f : Str) (Q : Nat × List Step → Env → Prop) (p : Nat × List Step) (e : Env) : Prop := wG (pathOk e p.1 (p.2 ++ [.fld f])) (Q (p.1, p.2 ++ [.fld f]) e)
def kPs2 (p : Nat × List Step) (Q : Nat × List Step → Env → Prop) (r : RV) (e : Env) : Prop := wG (pathOk e p.1 (p.2 ++ [.key r.d])) (Q (p.1, p.2 ++ [.key r.d]) e)
def kPs (k : E) (Q : Nat × List Step → Env → Prop) (X : XE) (p : Nat × List Step) (e : Env) : Prop := wG (pureE k) (wE W k e (kPs2 p Q) X)
def kSrc2 (ds : List D) (Q : List D × List Nat → Env → Prop) (p : List Nat × Env) : Prop := Q (ds, p.1) p.2
def kSrc (a : E) (r : RV) (e : Env) (Q : List D × List Nat → Env → Prop) (ds : List D) : Prop := wO (shut a r e) (kSrc2 ds Q)
def wSrc (all : Bool) (a : E) (r : RV) (e : Env) (Q : List D × List Nat → Env → Prop) : Prop := wO (if all then r.seq? else r.lst?) (kSrc a r e Q)
def kIl (a : E) (Q : List D × List Nat → Env → Prop) (r : RV) (e : Env) : Prop := wSrc true a r e Q
def kIr2 (Q : List D × List Nat → Env → Prop) (e : Env) (ns : List Int) : Prop := Q (ns.map .int, []) e
def kIr (Q : List D × List Nat → Env → Prop) (rs : List RV) (e : Env) : Prop := wO (range? (rs.map RV.d)) (kIr2 Q e)
def kIe2 (Q : List D × List Nat → Env → Prop) (p : List D × List Nat) (e : Env) : Prop := Q (enumD p.1, p.2) e
def kIe (a : E) (Q : List D × List Nat → Env → Prop) (r : RV) (e : Env) : Prop := wSrc false a r e (kIe2 Q)
def kNx (Q : QF) (e : Env) : Prop := Q .nx e
def kSx (Q : QF) (_ : RV) (e : Env) : Prop := Q .nx e
def kAsg2 (t : Tg) (Q : QF) (X : XE) (e : Env) (m : M) : Prop := wTg W t m e (kNx Q) X
def kAsg (t : Tg) (Q : QF) (X : XE) (r : RV) (e : Env) : Prop := wO r.sto (kAsg2 W t Q X e)
def kPar (is : List Nat) (Q : QF) (rs : List RV) (e : Env) : Prop := wO (setPar is rs e) (kNx Q)
def kAug4 (i : Nat) (Q : QF) (e : Env) (z : Int) : Prop := wO (e.put i (.fz (.int z))) (kNx Q)
def kAug3 (i : Nat) (o : Op2) (x : Int) (Q : QF) (e : Env) (y : Int) : Prop := wO (arith o x y) (kAug4 i Q e)
def kAug2 (i : Nat) (o : Op2) (x : Int) (Q : QF) (r : RV) (e : Env) : Prop := wI r.d (kAug3 i o x Q e)
def kAug1 (i : Nat) (o : Op2) (a : E) (Q : QF) (X : XE) (e : Env) (x : Int) : Prop := wE W a e (kAug2 i o x Q) X
def kAug (i : Nat) (o : Op2) (a : E) (Q : QF) (X : XE) (e : Env) (m : M) (_ : Bool) : Prop := wI (fzD m) (kAug1 W i o a Q X e)
def kRet2 (Q : QF) (e : Env) (m : M) : Prop := Q (.rt m) e
def kRet (Q : QF) (r : RV) (e : Env) : Prop := wO r.sto (kRet2 Q e)
def kSs (a : List S) (e : Env) (Q : QF) (X : XE) (_ : Unit) : Prop := wSs W a e Q X
def kIf2 (a b : List S) (Q : QF) (X : XE) (e : Env) (k : Bool) : Prop := wIf k (kSs W a e Q X) (kSs W b e Q X)
def kIf (a b : List S) (Q : QF) (X : XE) (r : RV) (e : Env) : Prop := wO r.d.truth (kIf2 W a b Q X e)
def kUn (sh : List Nat) (Q : QF) (f : Fl) (e : Env) : Prop := Q f (unshut sh e)
def kUx (sh : List Nat) (X : XE) (c : Nat) (ds : List D) (e : Env) : Prop := X c ds (unshut sh e)
def kFor (t : T) (b : List S) (Q : QF) (X : XE) (p : List D × List Nat) (e : Env) : Prop := wF W t b p.1 e (kUn p.2 Q) (kUx p.2 X)
def kFrz (i : Nat) (Q : QF) (e : Env) (m : M) (w : Bool) : Prop := wG w (Q .nx (e.set i (.ok (.fz m.toD) true)))
def kSeq (ss : List S) (Q : QF) (X : XE) (f : Fl) (e : Env) : Prop :=
  match f with
  | .nx => wSs W ss e Q X
  | f => Q f e
def kF2 (t : T) (b : List S) (ds : List D) (Q : QF) (X : XE) (f : Fl) (e : Env) : Prop :=
  match f with
  | .nx => wF W t b ds e Q X
  | .ct => wF W t b ds e Q X
  | .bk => Q .nx e
  | .rt m => Q (.rt m) e
def kF (t : T) (b : List S) (ds : List D) (Q : QF) (X : XE) (e : Env) : Prop := wSs W b e (kF2 W t b ds Q X) X
def kW4 (c : E) (b : List S) (n : Nat) (Q : QF) (X : XE) (f : Fl) (e : Env) : Prop :=
  match f with
  | .nx => wW W c b n e Q X
  | .ct => wW W c b n e Q X
  | .bk => Q .nx e
  | .rt m => Q (.rt m) e
def kNxU (Q : QF) (e : Env) (_ : Unit) : Prop := Q .nx e
def kW3 (c : E) (b : List S) (n : Nat) (Q : QF) (X : XE) (e : Env) (_ : Unit) : Prop := wSs W b e (kW4 W c b n Q X) X
def kW2 (c : E) (b : List S) (n : Nat) (Q : QF) (X : XE) (e : Env) (k : Bool) : Prop := wIf k (kW3 W c b n Q X e) (kNxU Q e)
def kW (c : E) (b : List S) (n : Nat) (Q : QF) (X : XE) (r : RV) (e : Env) : Prop := wO r.d.truth (kW2 W c b n Q X e)
def kTg3 {α : Type} (Q : Env → Prop) (z : α × Env) : Prop := Q z.2
def kTg2 (q : Nat × List Step) (m : M) (Q : Env → Prop) (r : RV) (e : Env) : Prop := wO (e.mod q.1 (M.mod (setSub r.d m) q.2)) (kTg3 Q)
def kTg (k : E) (m : M) (Q : Env → Prop) (X : XE) (q : Nat × List Step) (e : Env) : Prop := wG (!(!q.2.isEmpty && !pureE k)) (wE W k e (kTg2 q m Q) X)
def kTgF (f : Str) (m : M) (Q : Env → Prop) (q : Nat × List Step) (e : Env) : Prop := wO (e.mod q.1 (M.mod (setFld f m) q.2)) (kTg3 Q)
def kTgs (ts : List Tg) (ds : List M) (Q : Env → Prop) (X : XE) (e : Env) : Prop := wTgs W ts ds e Q X
def kLC4 (vs : List Nat) (t : T) (ifs : List E) (el : E) (ds : List D) (acc : List M) (Q : List M → Env → Prop) (X : XE) (e : Env) (m : M) : Prop := wG (decide (acc.length < 16777216)) (wLC W vs t ifs el ds (acc ++ [m]) e Q X)
def kLC3 (vs : List Nat) (t : T) (ifs : List E) (el : E) (ds : List D) (acc : List M) (Q : List M → Env → Prop) (X : XE) (r : RV) (e : Env) : Prop := wO r.sto (kLC4 W vs t ifs el ds acc Q X e)
def noX : XE := fun _ _ _ => False
def kLC2 (vs : List Nat) (t : T) (ifs : List E) (el : E) (ds : List D) (acc : List M) (Q : List M → Env → Prop) (X : XE) (e : Env) (_ : Unit) : Prop := wE W el e (kLC3 W vs t ifs el ds acc Q X) noX
def kLC2' (vs : List Nat) (t : T) (ifs : List E) (el : E) (ds : List D) (acc : List M) (Q : List M → Env → Prop) (X : XE) (e : Env) (_ : Unit) : Prop := wLC W vs t ifs el ds acc e Q X
def kLC1 (vs : List Nat) (t : T) (ifs : List E) (el : E) (ds : List D) (acc : List M) (Q : List M → Env → Prop) (X : XE) (k : Bool) (e : Env) : Prop := wIf k (kLC2 W vs t ifs el ds acc Q X e) (kLC2' W vs t ifs el ds acc Q X e)
def kLC (vs : List Nat) (t : T) (ifs : List E) (el : E) (ds : List D) (acc : List M) (Q : List M → Env → Prop) (X : XE) (e : Env) : Prop := wTs W ifs e (kLC1 W vs t ifs el ds acc Q X) noX
end

section
variable {W : Wd} {α β : Type} {Q : QE} {X : XE} {e : Env}
theorem wp_bind {o : Out α} {f : α → Env → Out β} {Q : β → Env → Prop} : wp (o.bind f) Q X = wp o (fun a e => wp (f a e) Q X) X := by cases o <;> rfl
theorem wp_of {o : Option α} {Q : α → Env → Prop} : wp (Out.of e o) Q X = wO o fun a => Q a e := by cases o <;> rfl
theorem wp_ite {b : Bool} {a : Out α} {Q : α → Env → Prop} : wp (if b = true then .stuck else a) Q X = wG (!b) (wp a Q X) := by
  cases b
  · exact propext ⟨fun h => ⟨rfl, h⟩, fun h => h.2⟩
  · exact propext ⟨fun h => h.elim, fun h => nomatch h.1⟩
theorem wp_ite' {b : Bool} {a : Out α} {Q : α → Env → Prop} : wp (if b = true then a else .stuck) Q X = wG b (wp a Q X) := by
  cases b
  · exact propext ⟨fun h => h.elim, fun h => nomatch h.1⟩
  · exact propext ⟨fun h => ⟨rfl, h⟩, fun h => h.2⟩
theorem wp_if {b : Bool} {a c : Out α} {Q : α → Env → Prop} : wp (if b = true then a else c) Q X = wIf b (fun _ => wp a Q X) (fun _ => wp c Q X) := by
  cases b
  · exact propext ⟨fun h => ⟨fun h => (nomatch h), fun _ => h⟩, fun h => h.2 rfl⟩
  · exact propext ⟨fun h => ⟨fun _ => h, fun h => nomatch h⟩, fun h => h.1 rfl⟩
theorem wO_some {a : α} {Q : α → Prop} : wO (some a) Q = Q a := rfl
theorem wO_none {Q : α → Prop} : wO none Q = False := rfl
theorem wO_map {o : Option α} {f : α → β} {Q : β → Prop} : wO (o.map f) Q = wO o fun a => Q (f a) := by cases o <;> rfl
theorem wO_bind {o : Option α} {f : α → Option β} {Q : β → Prop} : wO (o.bind f) Q = wO o fun a => wO (f a) Q := by cases o <;> rfl
theorem wO_ite {b : Bool} {a : Option α} {Q : α → Prop} : wO (if b = true then a else none) Q = wG b (wO a Q) := by
  cases b
  · exact propext ⟨fun h => h.elim, fun h => nomatch h.1⟩
  · exact propext ⟨fun h => ⟨rfl, h⟩, fun h => h.2⟩
theorem wG_true {p : Prop} : wG true p = p := propext ⟨fun h => h.2, fun h => ⟨rfl, h⟩⟩
theorem wG_dec {c p : Prop} [Decidable c] : wG (decide c) p = (c ∧ p) := by unfold wG; rw [decide_eq_true_eq]
theorem wG_mk {c : Bool} {p : Prop} (h : c = true) (g : p) : wG c p := ⟨h, g⟩
theorem wIf_true {p q : Unit → Prop} : wIf true p q = p () := propext ⟨fun h => h.1 rfl, fun h => ⟨fun _ => h, fun h => nomatch h⟩⟩
theorem wIf_false {p q : Unit → Prop} : wIf false p q = q () := propext ⟨fun h => h.2 rfl, fun h => ⟨fun h => (nomatch h), fun _ => h⟩⟩
theorem wIf_not {b : Bool} {p q : Unit → Prop} : wIf (!b) p q = wIf b q p := by cases b <;> simp [wIf]
theorem wIf_dec {c : Prop} [Decidable c] {p q : Unit → Prop} (h1 : c → p ()) (h2 : ¬ c → q ()) : wIf (decide c) p q := ⟨fun h => h1 (of_decide_eq_true h), fun h => h2 (of_decide_eq_false h)⟩
theorem wIf_yes {c : Prop} [Decidable c] {p q : Unit → Prop} (h : c) (g : p ()) : wIf (decide c) p q := wIf_dec (fun _ => g) (fun n => absurd h n)
theorem wIf_nay {c : Prop} [Decidable c] {p q : Unit → Prop} (h : ¬ c) (g : q ()) : wIf (decide c) p q := wIf_dec (fun n => absurd n h) (fun _ => g)
theorem wIf_by {c : Bool} {p q : Unit → Prop} (h1 : c = true → p ()) (h2 : c = false → q ()) : wIf c p q := ⟨h1, h2⟩
theorem wSl_ok {m : M} {w : Bool} {Q : M → Bool → Prop} : wSl (.ok m w) Q = Q m w := rfl
theorem wI_int {i : Int} {Q : Int → Prop} : wI (.int i) Q = Q i := rfl

/-! expressions -/
theorem wE_var {i : Nat} : wE W (.var i) e Q X = wSl (e.at i) (kVar Q e) := by
  unfold wE; rw [evE]; cases e.at i <;> rfl
theorem wE_mv {i : Nat} : wE W (.mv i) e Q X = wSl (e.at i) (kMv i Q e) := by
  unfold wE; rw [evE]
  rcases e.at i with _ | ⟨m, w⟩
  · rfl
  · cases w
    · exact propext ⟨fun h => h.elim, fun h => nomatch h.1⟩
    · exact propext ⟨fun h => ⟨rfl, h⟩, fun h => h.2⟩
theorem wE_cst {d : D} : wE W (.cst d) e Q X = Q ⟨.fz d, false⟩ e := by unfold wE; rw [evE]; rfl
theorem wE_glb {n : Nat} : wE W (.glb n) e Q X = wO (W.cs[n]?) (kOf Q e) := by unfold wE; rw [evE, wp_of, wO_map]; rfl
theorem wE_neg {a : E} : wE W (.neg a) e Q X = wE W a e (kNeg Q) X := by
  unfold wE; rw [evE, wp_bind]; congr 1; funext r e; unfold kNeg; cases r.d <;> rfl
theorem wE_not {a : E} : wE W (.not a) e Q X = wE W a e (kNot Q) X := by
  unfold wE; rw [evE, wp_bind, wp_bind]; congr 1; funext r e; rw [wp_of]; rfl
theorem wE_bin {o : Op2} {a b : E} : wE W (.bin o a b) e Q X = wE W a e (kBin W o b Q X) X := by
  unfold wE; rw [evE, wp_bind]; congr 1; funext r e; unfold kBin wE; rw [wp_ite, wp_bind]; congr 2; funext s e; rw [wp_of]; rfl
theorem wE_cmp {o : Cm} {a b : E} : wE W (.cmp o a b) e Q X = wE W a e (kCmp W o b Q X) X := by
  unfold wE; rw [evE, wp_bind]; congr 1; funext r e; unfold kCmp wE; rw [wp_ite, wp_bind]; congr 2; funext s e; rw [wp_of, wO_map]; rfl
theorem wE_chain {o p : Cm} {a b c : E} : wE W (.chain o p a b c) e Q X = wE W a e (kCh1 W o p b c Q X) X := by
  unfold wE; rw [evE, wp_bind]; congr 1; funext r e
  unfold kCh1
  cases r.d <;> try rfl
  rename_i i
  show wp ((evE W b e).bind _) Q X = wp (evE W b e) (kCh3 W o p c Q X i) X
  rw [wp_bind]; congr 1; funext s e
  unfold kCh3
  cases s.d <;> try rfl
  rename_i j
  show wp (match cmp2 o (.int i) (.int j) with | some true => _ | some false => _ | none => _) Q X = wO (cmp2 o (.int i) (.int j)) (kCh5 W p c Q X j e)
  cases cmp2 o (.int i) (.int j) with
  | none => rfl
  | some k => cases k with
    | false => rw [wO_some]; unfold kCh5; rw [wIf_false]; rfl
    | true =>
      rw [wO_some]; unfold kCh5; rw [wIf_true]
      show wp ((evE W c e).bind _) Q X = wp (evE W c e) (kCh7 p j Q) X
      rw [wp_bind]; congr 1; funext t e
      unfold kCh7
      cases t.d <;> try rfl
      rename_i l
      show wp (Out.of e ((cmp2 p (.int j) (.int l)).map _)) Q X = _
      rw [wp_of, wO_map]; rfl
theorem wE_boo {k v : Bool} {es : List E} : wE W (.boo k v es) e Q X = wB W k v es e Q X := by unfold wE wB; rw [evE]
theorem wB_one {k v : Bool} {a : E} : wB W k v [a] e Q X = wE W a e Q X := by unfold wE wB; rw [evB]
theorem wB_cons {k v : Bool} {a b : E} {es : List E} : wB W k v (a :: b :: es) e Q X = wE W a e (kB W k v b es Q X) X := by
  unfold wE; rw [wB, evB, wp_bind, wp_bind]
  · congr 1; funext r e; rw [wp_of]; unfold kB; congr 1; funext c
    unfold kB2 kB3 kBc
    cases c <;> cases k <;> (simp only [wp, reduceIte, beq_self_eq_true, wIf_true, wIf_false, beq_true, beq_false, Bool.not_true, Bool.not_false, Bool.false_eq_true, Bool.true_eq_false] <;> rfl)
  · intro h; cases h
theorem wE_ite {c a b : E} : wE W (.ite c a b) e Q X = wE W c e (kIte W a b Q X) X := by
  unfold wE; rw [evE, wp_bind, wp_bind]; congr 1; funext r e; rw [wp_of]; unfold kIte; congr 1; funext k; rw [wp_if]; rfl
theorem wEs_nil {Q : List RV → Env → Prop} : wEs W [] e Q X = Q [] e := by unfold wEs; rw [evEs]; rfl
theorem wEs_cons {a : E} {es : List E} {Q : List RV → Env → Prop} : wEs W (a :: es) e Q X = wE W a e (kEs W es Q X) X := by
  unfold wEs wE; rw [evEs, wp_bind]; congr 1; funext r e; rw [wp_ite, wp_bind]; rfl
theorem wE_tup {es : List E} : wE W (.tup es) e Q X = wEs W es e (kTup Q) X := by
  unfold wE wEs; rw [evE, wp_bind]; congr 1; funext r e; rw [wp_ite, wp_ite']; rfl
theorem wE_tupm {es : List E} : wE W (.tupm es) e Q X = wEs W es e (kTupm Q) X := by
  unfold wE wEs; rw [evE, wp_bind]; congr 1; funext r e; rw [wp_ite, wp_ite']; rfl
theorem wE_tupv {es : List E} : wE W (.tupv es) e Q X = wEs W es e (kTupv Q) X := by
  unfold wE wEs; rw [evE, wp_bind]; congr 1; funext r e; rw [wp_ite']; rfl
theorem wE_eqo {neg : Bool} {c f : Nat} {a b : E} : wE W (.eqo neg c f a b) e Q X = wE W a e (kEqo W neg c f b Q X) X := by
  unfold wE; rw [evE, wp_bind]; congr 1; funext r e; unfold kEqo wE; rw [wp_ite, wp_bind]; congr 2; funext s e; rw [wp_of]; rfl
theorem wE_lst {es : List E} : wE W (.lst es) e Q X = wEs W es e (kLst Q) X := by
  unfold wE wEs; rw [evE, wp_bind]; congr 1; funext r e; rw [wp_ite, wp_ite']; rfl
theorem wE_dict0 : wE W (.dict [] []) e Q X = Q ⟨.dct [] [], false⟩ e := by unfold wE; rw [evE]; rfl
theorem wE_sub {a i : E} : wE W (.sub a i) e Q X = wE W a e (kSub W i Q X) X := by
  unfold wE; rw [evE, wp_bind]; congr 1; funext r e; unfold kSub wE; rw [wp_ite, wp_bind]; congr 2; funext s e; rw [wp_of]; rfl
theorem wE_slc {k : Nat} {es : List E} : wE W (.slc k es) e Q X = wEs W es e (kSlc k Q) X := by
  unfold wE wEs; rw [evE, wp_bind]; congr 1; funext r e; rw [wp_of]; rfl
theorem wE_slc3 {a b c : E} : wE W (.slc3 a b c) e Q X = wE W a e (kS31 W b c Q X) X := by
  unfold wE; rw [evE, wp_bind]; congr 1; funext r e; unfold kS31 wE; rw [wp_ite, wp_bind]; congr 2; funext s e
  unfold kS32
  cases s.d <;> try rfl
  rename_i i
  show wp ((evE W c e).bind _) Q X = wp (evE W c e) (kS34 r i Q) X
  rw [wp_bind]; congr 1; funext t e
  unfold kS34
  cases t.d <;> try rfl
  rename_i j
  show wp (Out.of e _) Q X = _
  rw [wp_of]; rfl
theorem wE_rev {a : E} : wE W (.rev a) e Q X = wE W a e (kRev Q) X := by
  unfold wE; rw [evE, wp_bind]; congr 1; funext r e; rw [wp_of]; rfl
theorem wE_frz {a : E} : wE W (.frz a) e Q X = wE W a e (kFr Q) X := by
  unfold wE; rw [evE, wp_bind]; congr 1; funext r e; rw [wp_ite]; rfl
theorem wE_un {u : Un} {a : E} : wE W (.un u a) e Q X = wE W a e (kUnp u Q) X := by
  unfold wE; rw [evE, wp_bind]; congr 1; funext r e; rw [wp_of]; rfl
theorem wE_attr {a : E} {f : Str} : wE W (.attr a f) e Q X = wE W a e (kAttr f Q) X := by
  unfold wE; rw [evE, wp_bind]; congr 1; funext r e; rw [wp_of]; rfl
theorem wE_bi {b : Bi} {es : List E} : wE W (.bi b es) e Q X = wEs W es e (kBi b Q) X := by
  unfold wE wEs; rw [evE, wp_bind]; congr 1; funext r e; rw [wp_of]; rfl
theorem wE_bm {b : Bm} {o : E} {es : List E} : wE W (.bm b o es) e Q X = wE W o e (kBm W b es Q X) X := by
  unfold wE; rw [evE, wp_bind]; congr 1; funext r e; unfold kBm wEs; rw [wp_ite, wp_ite', wp_bind]; congr 3; funext s e; rw [wp_of]; rfl
theorem wE_mut {b : Mu} {o : E} {es : List E} : wE W (.mut b o es) e Q X = wPl W o e (kMut W b es Q X) X := by
  unfold wE wPl; rw [evE, wp_bind]; congr 1; funext p e; unfold kMut wEs; rw [wp_ite', wp_bind]; congr 2; funext rs e
  unfold kMut2
  cases e.mod p.1 (M.mod (muF b rs) p.2) <;> rfl
theorem callA_eq {C : Calls} {cs : List D} {f : Nat} {as : List Arg} {pm : List Pm} {Q : M → Env → Prop} : wp (callA C cs f as pm e) Q X = wO (pick as (dflA cs) pm) fun bs => wO (takeA bs e) fun p => wC (C f p.1) (fun m outs => Q m (giveA bs outs p.2)) (fun c ds outs => X c ds (giveA bs outs p.2)) := by
  unfold callA
  cases pick as (dflA cs) pm with
  | none => rfl
  | some bs =>
    show wp (match takeA bs e with | none => _ | some (ms, e1) => _) Q X = wO (takeA bs e) _
    cases takeA bs e with
    | none => rfl
    | some p =>
      obtain ⟨ms, e1⟩ := p
      show wp (match C f ms with | .ok m outs => _ | .exc c ds outs => _ | .stuck => _) Q X = wC (C f ms) _ _
      cases C f ms <;> rfl
theorem wE_call {f : Nat} {es : List E} {ks : List Str} {pm : List Pm} : wE W (.call f es ks pm) e Q X = wAs W es e (kCall W f pm Q X) X := by
  unfold wE wAs; rw [evE, wp_bind]; congr 1; funext as e; rw [wp_bind, callA_eq]; rfl
theorem wE_lc {vs : List Nat} {t : T} {it : It} {ifs : List E} {el : E} : wE W (.lc vs t it ifs el) e Q X = wIt W it e (kLc W vs t ifs el Q X) X := by
  unfold wE wIt; rw [evE, wp_bind]; congr 1; funext p e; unfold kLc wLC; rw [wp_bind]; congr 1; funext acc e'; rw [wp_ite']; rfl
theorem wTs_nil {Q : Bool → Env → Prop} : wTs W [] e Q X = Q true e := by unfold wTs; rw [evTs]; rfl
theorem wTs_cons {a : E} {es : List E} {Q : Bool → Env → Prop} : wTs W (a :: es) e Q X = wE W a e (kTs W es Q X) X := by
  unfold wTs wE; rw [evTs, wp_bind, wp_bind]; congr 1; funext r e; rw [wp_of]; unfold kTs; congr 1; funext b; rw [wp_if]; rfl
theorem wA_var {i : Nat} {Q : Arg → Env → Prop} : wA W (.var i) e Q X = wSl (e.at i) (kAv i Q e) := by
  unfold wA; rw [evA]
  rcases e.at i with _ | ⟨m, w⟩
  · rfl
  · show wp (if m.isNode then (if w then _ else _) else _) Q X = _
    rw [wp_if, wp_ite']; rfl
theorem wA_of {a : E} {Q : Arg → Env → Prop} (h : a.isVar = false) : wA W a e Q X = wE W a e (kAo Q) X := by
  unfold wA wE
  rw [evA]
  · rw [wp_bind]; congr 1; funext r e; unfold kAo; cases r.sto <;> rfl
  · intro i hi; subst hi; cases h
theorem wA_mv {i : Nat} {Qa : Arg → Env → Prop} : wA W (.mv i) e Qa X = wE W (.mv i) e (kAo Qa) X := wA_of rfl
theorem wA_cst {i : D} {Qa : Arg → Env → Prop} : wA W (.cst i) e Qa X = wE W (.cst i) e (kAo Qa) X := wA_of rfl
theorem wA_glb {i : Nat} {Qa : Arg → Env → Prop} : wA W (.glb i) e Qa X = wE W (.glb i) e (kAo Qa) X := wA_of rfl
theorem wA_neg {a : E} {Qa : Arg → Env → Prop} : wA W (.neg a) e Qa X = wE W (.neg a) e (kAo Qa) X := wA_of rfl
theorem wA_not {a : E} {Qa : Arg → Env → Prop} : wA W (.not a) e Qa X = wE W (.not a) e (kAo Qa) X := wA_of rfl
theorem wA_bin {o : Op2} {a b : E} {Qa : Arg → Env → Prop} : wA W (.bin o a b) e Qa X = wE W (.bin o a b) e (kAo Qa) X := wA_of rfl
theorem wA_cmp {o : Cm} {a b : E} {Qa : Arg → Env → Prop} : wA W (.cmp o a b) e Qa X = wE W (.cmp o a b) e (kAo Qa) X := wA_of rfl
theorem wA_chain {o p : Cm} {a b c : E} {Qa : Arg → Env → Prop} : wA W (.chain o p a b c) e Qa X = wE W (.chain o p a b c) e (kAo Qa) X := wA_of rfl
theorem wA_boo {x y : Bool} {a : List E} {Qa : Arg → Env → Prop} : wA W (.boo x y a) e Qa X = wE W (.boo x y a) e (kAo Qa) X := wA_of rfl
theorem wA_ite {a b c : E} {Qa : Arg → Env → Prop} : wA W (.ite a b c) e Qa X = wE W (.ite a b c) e (kAo Qa) X := wA_of rfl
theorem wA_tup {a : List E} {Qa : Arg → Env → Prop} : wA W (.tup a) e Qa X = wE W (.tup a) e (kAo Qa) X := wA_of rfl
theorem wA_tupm {a : List E} {Qa : Arg → Env → Prop} : wA W (.tupm a) e Qa X = wE W (.tupm a) e (kAo Qa) X := wA_of rfl
theorem wA_tupv {a : List E} {Qa : Arg → Env → Prop} : wA W (.tupv a) e Qa X = wE W (.tupv a) e (kAo Qa) X := wA_of rfl
theorem wA_eqo {neg : Bool} {c f : Nat} {a b : E} {Qa : Arg → Env → Prop} : wA W (.eqo neg c f a b) e Qa X = wE W (.eqo neg c f a b) e (kAo Qa) X := wA_of rfl
theorem wA_lst {a : List E} {Qa : Arg → Env → Prop} : wA W (.lst a) e Qa X = wE W (.lst a) e (kAo Qa) X := wA_of rfl
theorem wA_dict {a b : List E} {Qa : Arg → Env → Prop} : wA W (.dict a b) e Qa X = wE W (.dict a b) e (kAo Qa) X := wA_of rfl
theorem wA_sub {a b : E} {Qa : Arg → Env → Prop} : wA W (.sub a b) e Qa X = wE W (.sub a b) e (kAo Qa) X := wA_of rfl
theorem wA_slc {k : Nat} {a : List E} {Qa : Arg → Env → Prop} : wA W (.slc k a) e Qa X = wE W (.slc k a) e (kAo Qa) X := wA_of rfl
theorem wA_slc3 {a b c : E} {Qa : Arg → Env → Prop} : wA W (.slc3 a b c) e Qa X = wE W (.slc3 a b c) e (kAo Qa) X := wA_of rfl
theorem wA_rev {a : E} {Qa : Arg → Env → Prop} : wA W (.rev a) e Qa X = wE W (.rev a) e (kAo Qa) X := wA_of rfl
theorem wA_attr {a : E} {f : Str} {Qa : Arg → Env → Prop} : wA W (.attr a f) e Qa X = wE W (.attr a f) e (kAo Qa) X := wA_of rfl
theorem wA_call {f : Nat} {a : List E} {k : List Str} {p : List Pm} {Qa : Arg → Env → Prop} : wA W (.call f a k p) e Qa X = wE W (.call f a k p) e (kAo Qa) X := wA_of rfl
theorem wA_meth {c f : Nat} {m : Str} {o : E} {a : List E} {p : List Pm} {Qa : Arg → Env → Prop} : wA W (.meth c f m o a p) e Qa X = wE W (.meth c f m o a p) e (kAo Qa) X := wA_of rfl
theorem wA_new {c f : Nat} {a : List E} {p : List Pm} {Qa : Arg → Env → Prop} : wA W (.new c f a p) e Qa X = wE W (.new c f a p) e (kAo Qa) X := wA_of rfl
theorem wA_bi {b : Bi} {a : List E} {Qa : Arg → Env → Prop} : wA W (.bi b a) e Qa X = wE W (.bi b a) e (kAo Qa) X := wA_of rfl
theorem wA_bm {b : Bm} {o : E} {a : List E} {Qa : Arg → Env → Prop} : wA W (.bm b o a) e Qa X = wE W (.bm b o a) e (kAo Qa) X := wA_of rfl
theorem wA_mut {b : Mu} {o : E} {a : List E} {Qa : Arg → Env → Prop} : wA W (.mut b o a) e Qa X = wE W (.mut b o a) e (kAo Qa) X := wA_of rfl
theorem wA_lc {v : List Nat} {t : T} {i : It} {a : List E} {el : E} {Qa : Arg → Env → Prop} : wA W (.lc v t i a el) e Qa X = wE W (.lc v t i a el) e (kAo Qa) X := wA_of rfl
theorem wA_un {u : Un} {a : E} {Qa : Arg → Env → Prop} : wA W (.un u a) e Qa X = wE W (.un u a) e (kAo Qa) X := wA_of rfl
theorem wA_frz {a : E} {Qa : Arg → Env → Prop} : wA W (.frz a) e Qa X = wE W (.frz a) e (kAo Qa) X := wA_of rfl
theorem wAs_nil {Q : List Arg → Env → Prop} : wAs W [] e Q X = Q [] e := by unfold wAs; rw [evAs]; rfl
theorem wAs_cons {a : E} {es : List E} {Q : List Arg → Env → Prop} : wAs W (a :: es) e Q X = wA W a e (kAs W es Q X) X := by
  unfold wAs wA; rw [evAs, wp_bind]; congr 1; funext r e; rw [wp_bind]; rfl
theorem wPl_var {i : Nat} {Q : Nat × List Step → Env → Prop} : wPl W (.var i) e Q X = wG (pathOk e i []) (Q (i, []) e) := by
  unfold wPl; rw [evP, wp_ite']; rfl
theorem wPl_attr {a : E} {f : Str} {Q : Nat × List Step → Env → Prop} : wPl W (.attr a f) e Q X = wPl W a e (kPa f Q) X := by
  unfold wPl; rw [evP, wp_bind]; congr 1; funext p e
  show wp (if pathOk e p.1 (p.2 ++ [.fld f]) = true then _ else _) Q X = _
  rw [wp_ite']; rfl
theorem wPl_sub {a k : E} {Q : Nat × List Step → Env → Prop} : wPl W (.sub a k) e Q X = wPl W a e (kPs W k Q X) X := by
  unfold wPl; rw [evP, wp_bind]; congr 1; funext p e; unfold kPs wE
  show wp (if pureE k = true then (evE W k e).bind _ else _) Q X = _
  rw [wp_ite', wp_bind]; congr 2; funext r e
  show wp (if pathOk e p.1 (p.2 ++ [.key r.d]) = true then _ else _) Q X = _
  rw [wp_ite']; rfl

/-! what is walked -/
theorem wSrc_eq {k : Bool} {a : E} {r : RV} {Q : List D × List Nat → Env → Prop} : wp (srcF k a r e) Q X = wSrc k a r e Q := by
  unfold srcF wSrc
  cases (if k = true then r.seq? else r.lst?) with
  | none => rfl
  | some ds =>
    rw [wO_some]; unfold kSrc
    cases shut a r e with
    | none => rfl
    | some p => rfl
theorem wIt_list {a : E} {Q : List D × List Nat → Env → Prop} : wIt W (.list a) e Q X = wE W a e (kIl a Q) X := by
  unfold wIt wE; rw [evIt, wp_bind]; congr 1; funext r e; rw [wSrc_eq]; rfl
theorem wIt_range {es : List E} {Q : List D × List Nat → Env → Prop} : wIt W (.range es) e Q X = wEs W es e (kIr Q) X := by
  unfold wIt wEs; rw [evIt, wp_bind]; congr 1; funext rs e; unfold kIr; cases range? (rs.map RV.d) <;> rfl
theorem wIt_enum {a : E} {Q : List D × List Nat → Env → Prop} : wIt W (.enum a) e Q X = wE W a e (kIe a Q) X := by
  unfold wIt wE; rw [evIt, wp_bind, wp_bind]; congr 1; funext r e; rw [wSrc_eq]; rfl

/-! statements -/
section
variable {Q : QF}
theorem wTg_nm {i : Nat} {m : M} {Q : Env → Prop} : wTg W (.nm i) m e Q X = wO (e.put i m) Q := by
  unfold wTg; rw [tgset]; cases e.put i m <;> rfl
theorem wTg_tup {ts : List Tg} {ds : List D} {Q : Env → Prop} : wTg W (.tup ts) (.fz (.tup ds)) e Q X = wG (decide (ds.length = ts.length)) (wTgs W ts (ds.map .fz) e Q X) := by
  unfold wTg wTgs; rw [tgset]
  by_cases h : ds.length = ts.length
  · rw [if_pos h, decide_eq_true h, wG_true]
  · rw [if_neg h, decide_eq_false h]; exact propext ⟨fun h => h.elim, fun h => nomatch h.1⟩
theorem wTg_tupm {ts : List Tg} {ms : List M} {Q : Env → Prop} : wTg W (.tup ts) (.tup ms) e Q X = wG (decide (ms.length = ts.length)) (wTgs W ts ms e Q X) := by
  unfold wTg wTgs; rw [tgset]
  by_cases h : ms.length = ts.length
  · rw [if_pos h, decide_eq_true h, wG_true]
  · rw [if_neg h, decide_eq_false h]; exact propext ⟨fun h => h.elim, fun h => nomatch h.1⟩
theorem wTgs_nil {Q : Env → Prop} : wTgs W [] [] e Q X = Q e := by unfold wTgs; rw [tgsets]; rfl
theorem wTgs_cons {t : Tg} {ts : List Tg} {d : M} {ds : List M} {Q : Env → Prop} : wTgs W (t :: ts) (d :: ds) e Q X = wTg W t d e (kTgs W ts ds Q X) X := by
  unfold wTgs wTg; rw [tgsets, wp_bind]; rfl
theorem wTg_sub {p k : E} {m : M} {Q : Env → Prop} : wTg W (.sub p k) m e Q X = wPl W p e (kTg W k m Q X) X := by
  unfold wTg wPl; rw [tgset, wp_bind]; congr 1; funext q e; unfold kTg wE
  show wp (if (!q.2.isEmpty && !pureE k) = true then _ else (evE W k e).bind _) _ X = _
  rw [wp_ite, wp_bind]; congr 2; funext r e
  unfold kTg2
  show wp (match e.mod q.1 (M.mod (setSub r.d m) q.2) with | some (_, e') => _ | none => _) _ X = _
  cases e.mod q.1 (M.mod (setSub r.d m) q.2) <;> rfl
theorem wTg_fld {p : E} {f : Str} {m : M} {Q : Env → Prop} : wTg W (.fld p f) m e Q X = wPl W p e (kTgF f m Q) X := by
  unfold wTg wPl; rw [tgset, wp_bind]; congr 1; funext q e; unfold kTgF
  show wp (match e.mod q.1 (M.mod (setFld f m) q.2) with | some (_, e') => _ | none => _) _ X = _
  cases e.mod q.1 (M.mod (setFld f m) q.2) <;> rfl
theorem wSs_nil : wSs W [] e Q X = Q .nx e := by unfold wSs; rw [evSs]; rfl
theorem wSs_cons {s : S} {ss : List S} : wSs W (s :: ss) e Q X = wS W s e (kSeq W ss Q X) X := by
  unfold wSs wS; rw [evSs]
  rcases evS W s e with ⟨f, e1⟩ | _ | _
  · cases f <;> rfl
  · rfl
  · rfl
theorem kSeq_nx {ss : List S} : kSeq W ss Q X .nx e = wSs W ss e Q X := rfl
theorem kSeq_rt {ss : List S} {m : M} : kSeq W ss Q X (.rt m) e = Q (.rt m) e := rfl
theorem kSeq_bk {ss : List S} : kSeq W ss Q X .bk e = Q .bk e := rfl
theorem kSeq_ct {ss : List S} : kSeq W ss Q X .ct e = Q .ct e := rfl
theorem wS_expr {a : E} : wS W (.expr a) e Q X = wE W a e (kSx Q) X := by unfold wS wE; rw [evS, wp_bind]; rfl
theorem wS_asg {t : Tg} {a : E} : wS W (.asg t a) e Q X = wE W a e (kAsg W t Q X) X := by
  unfold wS wE; rw [evS, wp_bind]; congr 1; funext r e; unfold kAsg
  cases r.sto with
  | none => rfl
  | some m => show wp ((tgset W t m e).bind _) Q X = wp _ _ _; rw [wp_bind]; rfl
theorem wS_par {is : List Nat} {es : List E} : wS W (.par is es) e Q X = wEs W es e (kPar is Q) X := by
  unfold wS wEs; rw [evS, wp_bind]; congr 1; funext rs e; unfold kPar; cases setPar is rs e <;> rfl
theorem wS_aug {i : Nat} {o : Op2} {a : E} : wS W (.aug i o a) e Q X = wSl (e.at i) (kAug W i o a Q X e) := by
  unfold wS; rw [evS]
  rcases e.at i with _ | ⟨m, w⟩
  · rfl
  · cases m with
    | fz d =>
      cases d <;> try rfl
      rename_i x
      show wp ((evE W a e).bind _) Q X = wp (evE W a e) (kAug2 i o x Q) X
      rw [wp_bind]; congr 1; funext r e
      unfold kAug2
      cases r.d <;> try rfl
      rename_i y
      show wp (match arith o x y with | some z => _ | none => _) Q X = wO (arith o x y) _
      cases arith o x y with
      | none => rfl
      | some z =>
        show wp (match e.put i _ with | some e' => _ | none => _) Q X = wO (e.put i _) _
        cases e.put i _ <;> rfl
    | _ => rfl
theorem wS_retN : wS W (.ret none) e Q X = Q (.rt (.fz .non)) e := by unfold wS; rw [evS]; rfl
theorem wS_ret {a : E} : wS W (.ret (some a)) e Q X = wE W a e (kRet Q) X := by
  unfold wS wE; rw [evS, wp_bind]; congr 1; funext r e; unfold kRet; cases r.sto <;> rfl
theorem wS_iff {c : E} {a b : List S} : wS W (.iff c a b) e Q X = wE W c e (kIf W a b Q X) X := by
  unfold wS wE; rw [evS, wp_bind, wp_bind]; congr 1; funext r e; rw [wp_of]; unfold kIf; congr 1; funext k; rw [wp_if]; rfl
theorem wS_for {t : T} {it : It} {b : List S} : wS W (.forr t it b) e Q X = wIt W it e (kFor W t b Q X) X := by
  unfold wS wIt; rw [evS, wp_bind]; congr 1; funext p e
  show wp (openO p.2 (loopF (tset t) (evSs W b) p.1 e)) Q X = wp (loopF (tset t) (evSs W b) p.1 e) _ _
  cases loopF (tset t) (evSs W b) p.1 e <;> rfl
theorem wS_while {c : E} {b : List S} : wS W (.whil c b) e Q X = wW W c b WF e Q X := by unfold wS wW; rw [evS]
theorem wS_pass : wS W .pass e Q X = Q .nx e := by unfold wS; rw [evS]; rfl
theorem wS_brk : wS W .brk e Q X = Q .bk e := by unfold wS; rw [evS]; rfl
theorem wS_cont : wS W .cont e Q X = Q .ct e := by unfold wS; rw [evS]; rfl
theorem wS_never : wS W .never e Q X = False := by unfold wS; rw [evS]; rfl
theorem wS_frz {i : Nat} : wS W (.frz i) e Q X = wSl (e.at i) (kFrz i Q e) := by
  unfold wS; rw [evS]
  rcases e.at i with _ | ⟨m, w⟩
  · rfl
  · cases w
    · exact propext ⟨fun h => h.elim, fun h => nomatch h.1⟩
    · exact propext ⟨fun h => ⟨rfl, h⟩, fun h => h.2⟩
theorem wF_nil {t : T} {b : List S} : wF W t b [] e Q X = Q .nx e := rfl
theorem wF_cons {t : T} {b : List S} {d : D} {ds : List D} : wF W t b (d :: ds) e Q X = wO (tset t d e) (kF W t b ds Q X) := by
  unfold wF; rw [loopF]
  cases tset t d e with
  | none => rfl
  | some e1 =>
    show wp (match evSs W b e1 with | .ok .nx e2 => _ | .ok .ct e2 => _ | .ok .bk e2 => _ | .ok (.rt m) e2 => _ | .exc c es e2 => _ | .stuck => _) Q X = wp (evSs W b e1) _ X
    rcases evSs W b e1 with ⟨f, e2⟩ | _ | _
    · cases f <;> rfl
    · rfl
    · rfl
theorem kF2_nx {t : T} {b : List S} {ds : List D} : kF2 W t b ds Q X .nx e = wF W t b ds e Q X := rfl
theorem kF2_ct {t : T} {b : List S} {ds : List D} : kF2 W t b ds Q X .ct e = wF W t b ds e Q X := rfl
theorem kF2_bk {t : T} {b : List S} {ds : List D} : kF2 W t b ds Q X .bk e = Q .nx e := rfl
theorem kF2_rt {t : T} {b : List S} {ds : List D} {m : M} : kF2 W t b ds Q X (.rt m) e = Q (.rt m) e := rfl
theorem wW_succ {c : E} {b : List S} {n : Nat} : wW W c b (n + 1) e Q X = wE W c e (kW W c b n Q X) X := by
  unfold wW wE; rw [loopW, wp_bind, wp_bind]; congr 1; funext r e; rw [wp_of]; unfold kW; congr 1; funext k; rw [wp_if]; unfold kW2; congr 1
  unfold kW3 wSs
  funext u
  rcases evSs W b e with ⟨f, e2⟩ | _ | _
  · cases f <;> rfl
  · rfl
  · rfl
theorem kW4_nx {c : E} {b : List S} {n : Nat} : kW4 W c b n Q X .nx e = wW W c b n e Q X := rfl
theorem kW4_ct {c : E} {b : List S} {n : Nat} : kW4 W c b n Q X .ct e = wW W c b n e Q X := rfl
theorem kW4_bk {c : E} {b : List S} {n : Nat} : kW4 W c b n Q X .bk e = Q .nx e := rfl
theorem kW4_rt {c : E} {b : List S} {n : Nat} {m : M} : kW4 W c b n Q X (.rt m) e = Q (.rt m) e := rfl
end
theorem wLC_nil {vs : List Nat} {t : T} {ifs : List E} {el : E} {acc : List M} {Q : List M → Env → Prop} : wLC W vs t ifs el [] acc e Q X = Q acc e := rfl
theorem wp_nox {α : Type} {o : Out α} {Q : α → Env → Prop} : wp o.nox Q X = wp o Q noX := by cases o <;> rfl
theorem wLC_cons {vs : List Nat} {t : T} {ifs : List E} {el : E} {d : D} {ds : List D} {acc : List M} {Q : List M → Env → Prop} : wLC W vs t ifs el (d :: ds) acc e Q X =
    wG (vs.all (plainAt e)) (wO (tset t d (wipeE vs e)) (kLC W vs t ifs el ds acc Q X)) := by
  unfold wLC; rw [loopC]
  by_cases hp : vs.all (plainAt e) = true
  · rw [if_pos hp, hp, wG_true]
    cases tset t d (wipeE vs e) with
    | none => rfl
    | some e1 =>
      show wp (((evTs W ifs e1).nox).bind _) Q X = wp (evTs W ifs e1) (kLC1 W vs t ifs el ds acc Q X) noX
      rw [wp_bind]
      have hh : ∀ (o : Out Bool) (f : Bool → Env → Prop), wp o.nox f X = wp o f noX := fun o f => wp_nox
      rw [hh]; congr 1; funext k e2; rw [wp_if]; unfold kLC1 kLC2 kLC2' wE; congr 1
      funext u
      have h2 : ∀ (o : Out RV) (f : RV → Env → Prop), wp o.nox f X = wp o f noX := fun o f => wp_nox
      rw [wp_bind, h2]; congr 1; funext r e3
      unfold kLC3
      cases r.sto with
      | none => rfl
      | some m => exact wp_ite'
  · rw [if_neg hp]; exact propext ⟨fun h => h.elim, fun h => absurd h.1 hp⟩
end
end Pv
/-! Pv: what the operations give, for the simplifier; calls by depth. -/
namespace Pv
open PySem L2

section
variable {al : Bool} {e : Env} {α : Type}
theorem d_fz {d : D} : RV.d ⟨.fz d, al⟩ = d := by unfold RV.d; rw [M.toD]
theorem toD_fz {d : D} : M.toD (.fz d) = d := by rw [M.toD]
theorem tDs_fz {ds : List D} : M.toDs (ds.map .fz) = ds := by
  induction ds with
  | nil => rw [List.map_nil, M.toDs]
  | cons d ds ih => rw [List.map_cons, M.toDs, ih, M.toD]
theorem toDs_nil : M.toDs [] = [] := by rw [M.toDs]
theorem toDs_cons {m : M} {ms : List M} : M.toDs (m :: ms) = m.toD :: M.toDs ms := by rw [M.toDs]
theorem toDs_app {a b : List M} : M.toDs (a ++ b) = M.toDs a ++ M.toDs b := by
  induction a with
  | nil => rw [M.toDs]; rfl
  | cons m a ih => rw [List.cons_append, M.toDs, M.toDs, ih]; rfl
theorem toD_lst {ms : List M} : M.toD (.lst ms) = .lst (M.toDs ms) := by rw [M.toD]
theorem d_lst {ms : List M} : RV.d ⟨.lst ms, al⟩ = .lst (M.toDs ms) := by unfold RV.d; rw [M.toD]
theorem fzs_fz {ds : List D} : fzs? (ds.map .fz) = some ds := by
  induction ds with
  | nil => rfl
  | cons d ds ih => rw [List.map_cons, fzs?, ih]; rfl
theorem node_fz {d : D} : M.isNode (.fz d) = false := rfl
theorem node_lst {ms : List M} : M.isNode (.lst ms) = true := rfl
theorem node_dct {ks : List Key} {ms : List M} : M.isNode (.dct ks ms) = true := rfl
theorem node_obj {c : Nat} {fs : List Str} {ms : List M} : M.isNode (.obj c fs ms) = true := rfl
theorem loose_fz {d : D} : RV.loose ⟨.fz d, al⟩ = false := by cases al <;> rfl
theorem loose_f {m : M} : RV.loose ⟨m, false⟩ = false := rfl
theorem loose_lst {ms : List M} : RV.loose ⟨.lst ms, true⟩ = true := rfl
theorem loose_dct {ks : List Key} {ms : List M} : RV.loose ⟨.dct ks ms, true⟩ = true := rfl
theorem d_dct {ks : List Key} {ms : List M} : RV.d ⟨.dct ks ms, al⟩ = .dct ks (M.toDs ms) := by unfold RV.d; rw [M.toD]
theorem set_lst {ms : List M} {i : Int} {m : M} : setSub (.int i) m (.lst ms) = (ixN ms.length i).map fun j => (.lst (ms.set j m), ()) := rfl
theorem sto_fz {d : D} : RV.sto ⟨.fz d, al⟩ = some (.fz d) := by cases al <;> rfl
theorem sto_f {m : M} : RV.sto ⟨m, false⟩ = some m := rfl
theorem d_tupM {ms : List M} : RV.d ⟨.tup ms, al⟩ = .tup (M.toDs ms) := by unfold RV.d; rw [M.toD]
theorem toD_tup {ms : List M} : M.toD (.tup ms) = .tup (M.toDs ms) := by rw [M.toD]
theorem lstq_fz {ds : List D} : RV.lst? ⟨.fz (.lst ds), al⟩ = some ds := rfl
theorem lstq_f {ms : List M} : RV.lst? ⟨.lst ms, false⟩ = some (M.toDs ms) := rfl
theorem lstq_t {ds : List D} : RV.lst? ⟨.lst (ds.map .fz), true⟩ = some ds := by show fzs? _ = _; rw [fzs_fz]
theorem seqq_fz {ds : List D} : RV.seq? ⟨.fz (.lst ds), al⟩ = some ds := rfl
theorem seqq_tup {ds : List D} : RV.seq? ⟨.fz (.tup ds), al⟩ = some ds := rfl
theorem seqq_f {ms : List M} : RV.seq? ⟨.lst ms, false⟩ = some (M.toDs ms) := rfl
theorem seqq_t {ds : List D} : RV.seq? ⟨.lst (ds.map .fz), true⟩ = some ds := by unfold RV.seq?; rw [lstq_t]
theorem seqq_scr {ns : List Int} : RV.seq? ⟨.fz (.scr ns), al⟩ = some (ns.map .int) := rfl
theorem m_mk {m : M} : RV.m ⟨m, al⟩ = m := rfl
theorem al_mk {m : M} : RV.al ⟨m, al⟩ = al := rfl
theorem shut_fz {a : E} {d : D} : shut a ⟨.fz d, al⟩ e = some ([], e) := by unfold shut; rw [loose_fz]; rfl
theorem shut_f {a : E} {m : M} : shut a ⟨m, false⟩ e = some ([], e) := rfl
def slShut (i : Nat) (e : Env) : Sl → Option (List Nat × Env)
  | .ok m true => some ([i], e.set i (.ok m false))
  | .ok _ false => some ([], e)
  | .no => none
theorem shut_t {i : Nat} {ms : List M} : shut (.var i) ⟨.lst ms, true⟩ e = slShut i e (e.at i) := by
  show (match e.at i with | .ok m true => _ | .ok _ false => _ | .no => _) = _
  rcases e.at i with _ | ⟨m, w⟩
  · rfl
  · cases w <;> rfl
theorem slShut_t {i : Nat} {m : M} : slShut i e (.ok m true) = some ([i], e.set i (.ok m false)) := rfl
theorem slShut_f {i : Nat} {m : M} : slShut i e (.ok m false) = some ([], e) := rfl
theorem at0 {s : Sl} {e : Env} : Env.at (s :: e) 0 = s := rfl
theorem atS {s : Sl} {e : Env} {n : Nat} : Env.at (s :: e) (n + 1) = Env.at e n := rfl
theorem put_eq {i : Nat} {m : M} : e.put i m = (match e.at i with | .ok _ false => none | _ => some (e.set i (.ok m true))) := rfl
def slPut (i : Nat) (m : M) (e : Env) : Sl → Option Env
  | .ok _ false => none
  | _ => some (e.set i (.ok m true))
theorem put_sl {i : Nat} {m : M} : e.put i m = slPut i m e (e.at i) := by
  unfold Env.put
  rcases e.at i with _ | ⟨m, w⟩
  · rfl
  · cases w <;> rfl
theorem slPut_no {i : Nat} {m : M} : slPut i m e .no = some (e.set i (.ok m true)) := rfl
theorem slPut_ok {i : Nat} {m m' : M} : slPut i m e (.ok m' true) = some (e.set i (.ok m true)) := rfl
theorem at_set {i : Nat} {s : Sl} (h : i < e.length) : Env.at (e.set i s) i = s := by
  unfold Env.at; simp [List.getD_eq_getElem?_getD, List.getElem?_set, h]

/-! numbers -/
def mulOk (i j : Int) : Bool := small64 i || small64 j || decide (i.natAbs.log2 + j.natAbs.log2 < 1000000)
def divOk (j : Int) : Bool := decide (0 < j) && (decide (j < 1073741824) || decide (j.natAbs.log2 < 9000))
def shlOk (i j : Int) : Bool := decide (0 ≤ j) && (decide (j ≤ 1000000) && small64 i || decide ((Builtin.Int.intBits i : Int) + j ≤ 2 ^ 27))
variable {a b : Bool} {i j : Int} {Q : RV → Prop}
theorem bin_int {o : Op2} : wO (bin2 o ⟨.fz (.int i), a⟩ ⟨.fz (.int j), b⟩) Q = wO (arith o i j) fun k => Q ⟨.fz (.int k), false⟩ := by
  unfold bin2; rw [d_fz, d_fz]
  show wO ((arith o i j).map _) Q = _
  rw [wO_map]
variable {q : Int → Prop}
theorem ar_add : wO (arith .add i j) q = q (i + j) := rfl
theorem ar_sub : wO (arith .sub i j) q = q (i - j) := rfl
theorem ar_mul : wO (arith .mul i j) q = wG (mulOk i j) (q (i * j)) := by unfold arith mulOk; rw [wO_ite]; rfl
theorem ar_fdiv : wO (arith .fdiv i j) q = wG (divOk j) (q (i / j)) := by unfold arith divOk; rw [wO_ite]; rfl
theorem ar_mod : wO (arith .mod i j) q = wG (decide (0 < j)) (q (i % j)) := by unfold arith; rw [wO_ite]; rfl
theorem ar_pow : wO (arith .pow i j) q = wG (decide (0 ≤ j) && decide (j ≤ 1000000) && small64 i) (q (i ^ j.toNat)) := by unfold arith; rw [wO_ite]; rfl
theorem ar_shl : wO (arith .shl i j) q = wG (shlOk i j) (q (i * 2 ^ j.toNat)) := by unfold arith shlOk; rw [wO_ite]; rfl
theorem ar_shr : wO (arith .shr i j) q = wG (decide (0 ≤ j)) (q (i / 2 ^ j.toNat)) := by unfold arith; rw [wO_ite]; rfl
theorem ar_band : wO (arith .band i j) q = q (Builtin.bitAnd i j) := rfl
theorem ar_bor : wO (arith .bor i j) q = q (Builtin.bitOr i j) := rfl
/-- lists -/
theorem bin_addL {xs ys : List D} {r s : RV} (h : r.lst? = some xs) (h' : s.lst? = some ys) (n : ∀ k, s.d ≠ .int k) : wO (bin2 .add r s) Q = wG (lenOk (xs.length + ys.length)) (Q (.nl (xs ++ ys))) := by
  have e : bin2 .add r s = (match Op2.add, r.lst?, s.lst? with
    | .add, some xs, some ys => if lenOk (xs.length + ys.length) then some (.nl (xs ++ ys)) else none
    | _, _, _ => none) := by
    unfold bin2
    split
    · rename_i hs; exact absurd hs (n _)
    · rename_i hs _; exact absurd hs (n _)
    · rfl
  rw [e, h, h']
  exact wO_ite
theorem nl_eq {ds : List D} : RV.nl ds = ⟨.lst (ds.map .fz), false⟩ := rfl
theorem bin_mulL {xs : List D} {r : RV} (h : r.lst? = some xs) (n : ∀ k, r.d ≠ .int k) : wO (bin2 .mul r ⟨.fz (.int j), b⟩) Q = wG (decide (j < 2 ^ 63) && decide (-(2 ^ 63) ≤ j) && lenOk (xs.length * j.toNat)) (Q (.nl (List.replicate j.toNat xs).flatten)) := by
  have e : bin2 .mul r ⟨.fz (.int j), b⟩ = (match Op2.mul, r.lst? with
    | .mul, some xs => if decide (j < 2 ^ 63) && decide (-(2 ^ 63) ≤ j) && lenOk (xs.length * j.toNat) then some (.nl (List.replicate j.toNat xs).flatten) else none
    | _, _ => none) := by
    unfold bin2
    rw [d_fz]
    split
    · rename_i hs _; exact absurd hs (n _)
    · rename_i hs _; cases hs; rfl
    · rename_i h1 h2; first | exact (h1 j rfl).elim | exact (h2 j rfl).elim | exact absurd rfl (h1 j)
  rw [e, h]
  exact wO_ite
theorem bin_addLL {xs ys : List M} : wO (bin2 .add ⟨.lst xs, false⟩ ⟨.lst ys, false⟩) Q = wG (lenOk ((M.toDs xs).length + (M.toDs ys).length)) (Q ⟨.lst ((M.toDs xs ++ M.toDs ys).map .fz), false⟩) := by
  rw [bin_addL (xs := M.toDs xs) (ys := M.toDs ys) rfl rfl (fun k => by rw [d_lst]; exact fun h => nomatch h)]
theorem bin_mulLI {xs : List M} : wO (bin2 .mul ⟨.lst xs, false⟩ ⟨.fz (.int j), b⟩) Q = wG (decide (j < 2 ^ 63) && decide (-(2 ^ 63) ≤ j) && lenOk ((M.toDs xs).length * j.toNat)) (Q ⟨.lst ((List.replicate j.toNat (M.toDs xs)).flatten.map .fz), false⟩) := by
  rw [bin_mulL (xs := M.toDs xs) rfl (fun k => by rw [d_lst]; exact fun h => nomatch h)]
theorem bin_addFF {xs ys : List D} : wO (bin2 .add ⟨.fz (.lst xs), a⟩ ⟨.fz (.lst ys), b⟩) Q = wG (lenOk (xs.length + ys.length)) (Q ⟨.lst ((xs ++ ys).map .fz), false⟩) := by
  rw [bin_addL (xs := xs) (ys := ys) rfl rfl (fun k => by rw [d_fz]; exact fun h => nomatch h)]
theorem bin_addLF {xs : List M} {ys : List D} : wO (bin2 .add ⟨.lst xs, false⟩ ⟨.fz (.lst ys), b⟩) Q = wG (lenOk ((M.toDs xs).length + ys.length)) (Q ⟨.lst ((M.toDs xs ++ ys).map .fz), false⟩) := by
  rw [bin_addL (xs := M.toDs xs) (ys := ys) rfl rfl (fun k => by rw [d_fz]; exact fun h => nomatch h)]
theorem bin_addFL {xs : List D} {ys : List M} : wO (bin2 .add ⟨.fz (.lst xs), a⟩ ⟨.lst ys, false⟩) Q = wG (lenOk (xs.length + (M.toDs ys).length)) (Q ⟨.lst ((xs ++ M.toDs ys).map .fz), false⟩) := by
  rw [bin_addL (xs := xs) (ys := M.toDs ys) rfl rfl (fun k => by rw [d_lst]; exact fun h => nomatch h)]

/-! comparisons -/
variable {p : Bool → Prop}
theorem cm_lt : wO (cmp2 .lt (.int i) (.int j)) p = p (decide (i < j)) := rfl
theorem cm_le : wO (cmp2 .le (.int i) (.int j)) p = p (decide (i ≤ j)) := rfl
theorem cm_gt : wO (cmp2 .gt (.int i) (.int j)) p = p (decide (j < i)) := rfl
theorem cm_ge : wO (cmp2 .ge (.int i) (.int j)) p = p (decide (j ≤ i)) := rfl
theorem cm_eqI : wO (cmp2 .eq (.int i) (.int j)) p = p (decide (i = j)) := by
  show p (eqD (.int i) (.int j)) = _
  rw [eqD]; rfl
theorem cm_neI : wO (cmp2 .ne (.int i) (.int j)) p = p (!decide (i = j)) := by
  show p (!eqD (.int i) (.int j)) = _
  rw [eqD]; rfl
theorem cm_eq {x y : D} : wO (cmp2 .eq x y) p = wG (shp 40 x && shp 40 y) (p (eqD x y)) := by unfold cmp2; exact wO_ite
theorem cm_ne {x y : D} : wO (cmp2 .ne x y) p = wG (shp 40 x && shp 40 y) (p (!eqD x y)) := by unfold cmp2; exact wO_ite
theorem cm_is {x : D} : wO (cmp2 .is x .non) p = p x.none? := rfl
theorem cm_isn {x : D} : wO (cmp2 .isn x .non) p = p (!x.none?) := rfl
theorem tr_bl {b : Bool} : D.truth (.bl b) = some b := rfl
theorem tr_int : D.truth (.int i) = some (i != 0) := rfl
theorem tr_lst {xs : List D} : D.truth (.lst xs) = some (!xs.isEmpty) := rfl
theorem fold_bl {v b : Bool} : fold? v (.bl b) = some b := by cases v <;> rfl
theorem fold_f {d : D} : fold? false d = d.truth := rfl

/-! built-ins -/
theorem bi_len {r : RV} : wO (biF .len [r]) Q = wO (lenD r.d) fun n => Q ⟨.fz (.int n), false⟩ := by
  show wO (Option.map (fun n => RV.of (.int n)) (do let a ← lenD r.d; pure (↑a : Int))) Q = _
  cases lenD r.d <;> rfl
theorem len_lst {xs : List D} : lenD (.lst xs) = some xs.length := rfl
theorem len_tup {xs : List D} : lenD (.tup xs) = some xs.length := rfl
theorem len_dct {ks : List Key} {xs : List D} : lenD (.dct ks xs) = some ks.length := rfl
theorem len_scr {xs : List Int} : lenD (.scr xs) = some xs.length := rfl
theorem ints_map {ns : List Int} : ints? (ns.map .int) = some ns := by
  induction ns with
  | nil => rfl
  | cons n ns ih => rw [List.map_cons, ints?, ih]; rfl
theorem bls_map {ns : List Bool} : bls? (ns.map .bl) = some ns := by
  induction ns with
  | nil => rfl
  | cons n ns ih => rw [List.map_cons, bls?, ih]; rfl
theorem pairs_map {ps : List (Int × Int)} : pairs? (ps.map pairD) = some ps := by
  induction ps with
  | nil => rfl
  | cons p ps ih => rw [List.map_cons, pairs?, ih]; rfl
theorem bi_sum {r : RV} {ns : List Int} (h : r.d = .lst (ns.map .int)) : wO (biF .sum [r]) Q = Q ⟨.fz (.int ns.sum), false⟩ := by
  show wO (match r.d with | .lst ds => _ | _ => none) Q = _
  rw [h]; show wO ((ints? _).map _) Q = _; rw [ints_map]; rfl
theorem bi_all {r : RV} {ns : List Bool} (h : r.d = .lst (ns.map .bl)) : wO (biF .all [r]) Q = Q ⟨.fz (.bl (ns.all id)), false⟩ := by
  show wO (match r.d with | .lst ds => _ | _ => none) Q = _
  rw [h]; show wO ((bls? _).map _) Q = _; rw [bls_map]; rfl
theorem bi_any {r : RV} {ns : List Bool} (h : r.d = .lst (ns.map .bl)) : wO (biF .any [r]) Q = Q ⟨.fz (.bl (ns.any id)), false⟩ := by
  show wO (match r.d with | .lst ds => _ | _ => none) Q = _
  rw [h]; show wO ((bls? _).map _) Q = _; rw [bls_map]; rfl
theorem bi_max2 : wO (biF .max2 [⟨.fz (.int i), a⟩, ⟨.fz (.int j), b⟩]) Q = Q ⟨.fz (.int (if j > i then j else i)), false⟩ := rfl
theorem bi_min2 : wO (biF .min2 [⟨.fz (.int i), a⟩, ⟨.fz (.int j), b⟩]) Q = Q ⟨.fz (.int (if j < i then j else i)), false⟩ := rfl
theorem bi_abs : wO (biF .abs [⟨.fz (.int i), a⟩]) Q = Q ⟨.fz (.int (if i < 0 then -i else i)), false⟩ := rfl
theorem bi_intI : wO (biF .int [⟨.fz (.int i), a⟩]) Q = Q ⟨.fz (.int i), false⟩ := rfl
theorem bi_intB {c : Bool} : wO (biF .int [⟨.fz (.bl c), a⟩]) Q = Q ⟨.fz (.int (if c then 1 else 0)), false⟩ := rfl
theorem bi_isi {t : Ty} {r : RV} : wO (biF (.isi t) [r]) Q = wO (isTy t r.d) fun k => Q ⟨.fz (.bl k), false⟩ := by show wO (Option.map _ _) Q = _; rw [wO_map]
theorem bi_list {r : RV} : wO (biF .list [r]) Q = wO r.seq? fun ds => wG (lenOk ds.length) (Q ⟨.lst (ds.map .fz), false⟩) := by
  show wO (match r.seq? with | some ds => _ | none => none) Q = _
  cases r.seq? with
  | none => rfl
  | some ds => exact wO_ite
theorem bi_tuple {r : RV} : wO (biF .tuple [r]) Q = wO r.lst? fun ds => wG (lenOk ds.length) (Q ⟨.fz (.tup ds), false⟩) := by
  show wO (match r.lst? with | some ds => _ | none => none) Q = _
  cases r.lst? with
  | none => rfl
  | some ds => exact wO_ite

theorem un_sset {ns : List Int} {r : RV} (h : r.d = .lst (ns.map .int)) : wO (unF .sset r) Q = wG (decide (ns.length ≤ 4000)) (Q ⟨.lst (((sortI (dedup ns)).map D.int).map M.fz), false⟩) := by
  unfold unF; dsimp only; rw [h]
  show wO (match ints? (ns.map .int) with | some ns => _ | none => none) Q = _
  rw [ints_map]
  exact wO_ite
theorem un_sitems {ps : List (Int × Int)} {r : RV} (h : r.d = .dct (ps.map fun p => Sum.inl p.1) (ps.map fun p => .int p.2)) : wO (unF .sitems r) Q = Q ⟨.lst (((sortP ps).map pairD).map M.fz), false⟩ := by
  have e1 : ints? ((ps.map fun p => (Sum.inl p.1 : Key)).map keyD) = some (ps.map (·.1)) := by
    rw [List.map_map, show (keyD ∘ fun (p : Int × Int) => (Sum.inl p.1 : Key)) = (D.int ∘ (·.1)) from rfl, ← List.map_map]; exact ints_map
  have e2 : ints? (ps.map fun p => D.int p.2) = some (ps.map (·.2)) := by
    rw [show (fun (p : Int × Int) => D.int p.2) = (D.int ∘ (·.2)) from rfl, ← List.map_map]; exact ints_map
  unfold unF; dsimp only; rw [h]
  show wO (match ints? ((ps.map fun p => (Sum.inl p.1 : Key)).map keyD), ints? (ps.map fun p => D.int p.2) with | some a, some b => some (RV.nl ((sortP (a.zip b)).map pairD)) | _, _ => none) Q = _
  rw [e1, e2]
  show Q (RV.nl ((sortP ((ps.map (·.1)).zip (ps.map (·.2)))).map pairD)) = _
  have : (ps.map (·.1)).zip (ps.map (·.2)) = ps := by
    clear h e1 e2
    induction ps with
    | nil => rfl
    | cons p ps ih => rw [List.map_cons, List.map_cons, List.zip_cons_cons, ih]
  rw [this]
/-! items -/
theorem ixN_nat {n : Nat} {i : Int} (h0 : 0 ≤ i) (h1 : i < n) : ixN n i = some i.toNat := by unfold ixN; rw [if_pos h0, if_pos h1]
theorem atI_nat {xs : List α} {i : Int} (h0 : 0 ≤ i) (h1 : i < xs.length) : atI xs i = some (xs[i.toNat]'(by omega)) := by
  unfold atI; rw [ixN_nat h0 h1]; show xs[i.toNat]? = _; rw [List.getElem?_eq_getElem]
theorem atI_some {xs : List α} {i : Int} {x : α} (h0 : 0 ≤ i) (h1 : xs[i.toNat]? = some x) : atI xs i = some x := by
  have := (List.getElem?_eq_some_iff.mp h1).1
  unfold atI; rw [ixN_nat h0 (by omega)]; exact h1
theorem atI_cast {xs : List α} {k : Nat} (h : k < xs.length) : atI xs (k : Int) = some xs[k] := by
  rw [atI_nat (by omega) (by omega)]; rfl
theorem atI_0 {x : α} {xs : List α} : atI (x :: xs) 0 = some x := atI_some (by omega) rfl
theorem atI_1 {x y : α} {xs : List α} : atI (x :: y :: xs) 1 = some y := atI_some (by omega) rfl
theorem atI_2 {x y z : α} {xs : List α} : atI (x :: y :: z :: xs) 2 = some z := atI_some (by omega) rfl
theorem sub_lst {xs : List D} : subR ⟨.fz (.lst xs), al⟩ (.int i) = (atI xs i).map fun d => ⟨.fz d, false⟩ := rfl
theorem sub_tup {xs : List D} : subR ⟨.fz (.tup xs), al⟩ (.int i) = (atI xs i).map fun d => ⟨.fz d, false⟩ := rfl
theorem sub_scr {xs : List Int} : subR ⟨.fz (.scr xs), al⟩ (.int i) = (atI xs i).map fun d => ⟨.fz (.int d), false⟩ := rfl
theorem sub_M {xs : List M} : subR ⟨.lst xs, al⟩ (.int i) = (atI xs i).map fun m => ⟨m, al⟩ := rfl
theorem wO_mapAt {α : Type} {xs : List α} {f : α → RV} {Q : QE} {e : Env} : wO ((atI xs i).map f) (kAt Q e) = wO (atI xs i) fun a => Q (f a) e := wO_map
theorem rng1 {n : Int} : range? [.int n] = if ints62 n then some (rangeI 0 n.toNat) else none := rfl
theorem rng3 {n m : Int} : range? [.int n, .int m, .int (-1)] = if ints62 n && ints62 m then some (rangeD n (n - m).toNat) else none := by
  show (if (ints62 n && ints62 m && decide ((-1 : Int) = -1)) = true then _ else _) = _
  rw [show decide ((-1 : Int) = -1) = true from rfl, Bool.and_true]
theorem rng2 {n m : Int} : range? [.int n, .int m] = if ints62 n && ints62 m then some (rangeI n (m - n).toNat) else none := rfl
end

/-! calls -/
section
variable (TT : List Fd) (cl : List ClsI) (cs : List D)
def Cl (k f : Nat) (ms : List M) (Q : QO) (X : XO) : Prop := wC (callN TT cl cs k f ms) Q X
abbrev Wk (k : Nat) : Wd := ⟨callN TT cl cs k, cl, cs⟩
variable {TT cl cs}
theorem wk_cs {k : Nat} : (Wk TT cl cs k).cs = cs := rfl
theorem wCl_w {k f : Nat} {ms : List M} {Q : QO} {X : XO} : wCl (Wk TT cl cs k) f ms Q X = Cl TT cl cs k f ms Q X := rfl
theorem wCl_k {k f : Nat} {ms : List M} {Q : QO} {X : XO} : wCl ⟨callN TT cl cs k, cl, cs⟩ f ms Q X = Cl TT cl cs k f ms Q X := rfl
def kEnd (io : List Bool) (Q : QO) (f : Fl) (e : Env) : Prop :=
  match f with
  | .rt m => Q m (outsOf io e)
  | .nx => Q (.fz .non) (outsOf io e)
  | _ => False
def kEndX (io : List Bool) (X : XO) (c : Nat) (ds : List D) (e : Env) : Prop := X c ds (outsOf io e)
theorem kEnd_rt {io : List Bool} {Q : QO} {m : M} {e : Env} : kEnd io Q (.rt m) e = Q m (outsOf io e) := rfl
theorem kEnd_nx {io : List Bool} {Q : QO} {e : Env} : kEnd io Q .nx e = Q (.fz .non) (outsOf io e) := rfl
theorem Cl_succ {k f : Nat} {fd : Fd} {ms : List M} {Q : QO} {X : XO} (h : TT[f]? = some fd) (hl : ms.length = fd.np)
    (g : wSs (Wk TT cl cs k) fd.body (ms.map (Sl.ok · true) ++ List.replicate (fd.n - fd.np) .no) (kEnd fd.inout Q) (kEndX fd.inout X)) : Cl TT cl cs (k + 1) f ms Q X := by
  unfold Cl; rw [callN]
  show wC (match TT[f]? with | none => _ | some fd => _) Q X
  rw [h]
  show wC (if ms.length = fd.np then _ else _) Q X
  rw [if_pos hl]
  unfold wSs at g
  rcases h2 : evSs (Wk TT cl cs k) fd.body (ms.map (Sl.ok · true) ++ List.replicate (fd.n - fd.np) .no) with ⟨fl, e⟩ | ⟨c, ds, e⟩ | _
  · rw [show evSs ⟨callN TT cl cs k, cl, cs⟩ fd.body (ms.map (Sl.ok · true) ++ List.replicate (fd.n - fd.np) .no) = _ from h2]
    rw [h2] at g
    cases fl with
    | nx => exact g
    | rt m => exact g
    | bk => exact g.elim
    | ct => exact g.elim
  · rw [show evSs ⟨callN TT cl cs k, cl, cs⟩ fd.body (ms.map (Sl.ok · true) ++ List.replicate (fd.n - fd.np) .no) = _ from h2]
    rw [h2] at g; exact g
  · rw [h2] at g; exact g.elim
/-- a call by what it gives -/
theorem Cl_mono {k f : Nat} {ms : List M} {Q Q' : QO} {X X' : XO} (h : Cl TT cl cs k f ms Q X) (hQ : ∀ m o, Q m o → Q' m o) (hX : ∀ c d o, X c d o → X' c d o) : Cl TT cl cs k f ms Q' X' := by
  unfold Cl wC at h ⊢
  cases h2 : callN TT cl cs k f ms with
  | ok m o => rw [h2] at h; exact hQ m o h
  | exc c d o => rw [h2] at h; exact hX c d o h
  | stuck => rw [h2] at h; exact h.elim
end
end Pv
/-! Pv: loops by invariants. -/
namespace Pv
open PySem L2

section
variable {W : Wd} {α : Type} {X : XE} {Q : QF}
def kLoop (I : Env → Prop) (Q : QF) (f : Fl) (e : Env) : Prop :=
  match f with
  | .nx => I e
  | .ct => I e
  | .bk => Q .nx e
  | .rt m => Q (.rt m) e
theorem kLoop_nx {I : Env → Prop} {e : Env} : kLoop I Q .nx e = I e := rfl
theorem kLoop_ct {I : Env → Prop} {e : Env} : kLoop I Q .ct e = I e := rfl
theorem kLoop_bk {I : Env → Prop} {e : Env} : kLoop I Q .bk e = Q .nx e := rfl
theorem kLoop_rt {I : Env → Prop} {e : Env} {m : M} : kLoop I Q (.rt m) e = Q (.rt m) e := rfl
def kStep (W : Wd) (b : List S) (I : Env → Prop) (Q : QF) (X : XE) (e : Env) : Prop := wSs W b e (kLoop I Q) X
theorem wSs_mono {b : List S} {e : Env} {Q Q' : QF} (h : wSs W b e Q X) (i : ∀ f e, Q f e → Q' f e) : wSs W b e Q' X := by
  unfold wSs wp at h ⊢
  cases h2 : evSs W b e <;> simp only [h2] at h ⊢ <;> first | exact i _ _ h | exact h
theorem wO_mono {o : Option α} {Q Q' : α → Prop} (h : wO o Q) (i : ∀ a, Q a → Q' a) : wO o Q' := by
  unfold wO at h ⊢
  cases o with
  | none => exact h
  | some a => exact i a h
/-- a for: what holds with the items that are left -/
theorem wF_inv {t : T} {b : List S} (I : List D → Env → Prop) {ds : List D} {e : Env} (h0 : I ds e)
    (hstep : ∀ d ds e, I (d :: ds) e → wO (tset t d e) (kStep W b (I ds) Q X)) (hend : ∀ e, I [] e → Q .nx e) : wF W t b ds e Q X := by
  induction ds generalizing e with
  | nil => exact hend e h0
  | cons d ds ih =>
    rw [wF_cons]
    refine wO_mono (hstep d ds e h0) fun e1 h1 => ?_
    refine wSs_mono h1 fun f e2 h2 => ?_
    cases f with
    | nx => exact ih h2
    | ct => exact ih h2
    | bk => exact h2
    | rt m => exact h2
/-- .. by the number of turns -/
theorem wF_ix {t : T} {b : List S} {ds : List D} (I : Nat → Env → Prop) {e : Env} (h0 : I 0 e)
    (hstep : ∀ j (h : j < ds.length) e, I j e → wO (tset t ds[j] e) (kStep W b (I (j + 1)) Q X)) (hend : ∀ e, I ds.length e → Q .nx e) : wF W t b ds e Q X := by
  refine wF_inv (I := fun r e => ∃ j, r = ds.drop j ∧ j ≤ ds.length ∧ I j e) ⟨0, rfl, by omega, h0⟩ ?_ ?_
  · rintro d r e ⟨j, hj, hl, hi⟩
    have hlt : j < ds.length := by
      rcases Nat.lt_or_ge j ds.length with h | h
      · exact h
      · rw [List.drop_eq_nil_of_le h] at hj; cases hj
    rw [List.drop_eq_getElem_cons hlt] at hj
    cases hj
    refine wO_mono (hstep j hlt e hi) fun e1 h1 => wSs_mono h1 fun f e2 h2 => ?_
    cases f with
    | nx => exact ⟨j + 1, rfl, hlt, h2⟩
    | ct => exact ⟨j + 1, rfl, hlt, h2⟩
    | bk => exact h2
    | rt m => exact h2
  · rintro e ⟨j, hj, hl, hi⟩
    have : ds.length ≤ j := by
      rcases Nat.lt_or_ge j ds.length with h | h
      · rw [List.drop_eq_getElem_cons h] at hj; cases hj
      · exact h
    have : j = ds.length := by omega
    subst this
    exact hend e hi
/-- .. over items of a kind -/
theorem wF_map {t : T} {b : List S} (f : α → D) (I : List α → Env → Prop) {xs : List α} {e : Env} (h0 : I xs e)
    (hstep : ∀ x xs e, I (x :: xs) e → wO (tset t (f x) e) (kStep W b (I xs) Q X)) (hend : ∀ e, I [] e → Q .nx e) : wF W t b (xs.map f) e Q X := by
  refine wF_inv (I := fun r e => ∃ ys, r = ys.map f ∧ I ys e) ⟨xs, rfl, h0⟩ ?_ ?_
  · rintro d r e ⟨ys, hy, hi⟩
    cases ys with
    | nil => cases hy
    | cons y ys =>
      cases hy
      refine wO_mono (hstep y ys e hi) fun e1 h1 => wSs_mono h1 fun f e2 h2 => ?_
      cases f with
      | nx => exact ⟨ys, rfl, h2⟩
      | ct => exact ⟨ys, rfl, h2⟩
      | bk => exact h2
      | rt m => exact h2
  · rintro e ⟨ys, hy, hi⟩
    cases ys with
    | nil => exact hend e hi
    | cons y ys => cases hy
theorem WF_eq : WF = 4294967296 := by unfold WF; rfl
def kBody (W : Wd) (b : List S) (I : Nat → Env → Prop) (m : Nat) (Q : QF) (X : XE) (e : Env) (_ : Unit) : Prop := wSs W b e (kLoop (fun e => ∃ m', m' < m ∧ I m' e) Q) X
def kCond2 (W : Wd) (b : List S) (I : Nat → Env → Prop) (m : Nat) (Q : QF) (X : XE) (e : Env) (k : Bool) : Prop := wIf k (kBody W b I m Q X e) (kNxU Q e)
def kCond (W : Wd) (b : List S) (I : Nat → Env → Prop) (m : Nat) (Q : QF) (X : XE) (r : RV) (e : Env) : Prop := wO r.d.truth (kCond2 W b I m Q X e)
theorem wE_mono {a : E} {e : Env} {Q Q' : QE} (h : wE W a e Q X) (i : ∀ f e, Q f e → Q' f e) : wE W a e Q' X := by
  unfold wE wp at h ⊢
  cases h2 : evE W a e <;> simp only [h2] at h ⊢ <;> first | exact i _ _ h | exact h
theorem wIf_mono {c : Bool} {p q p' q' : Unit → Prop} (h : wIf c p q) (i : p () → p' ()) (j : q () → q' ()) : wIf c p' q' := ⟨fun k => i (h.1 k), fun k => j (h.2 k)⟩
/-- a while by a measure -/
theorem wW_inv {c : E} {b : List S} (I : Nat → Env → Prop) {m : Nat} {e : Env} (h0 : I m e) (hm : m < WF)
    (hstep : ∀ m e, I m e → wE W c e (kCond W b I m Q X) X) : wW W c b WF e Q X := by
  have key : ∀ n m e, m < n → I m e → wW W c b n e Q X := by
    intro n
    induction n with
    | zero => intro m e h; omega
    | succ n ih =>
      intro m e h hi
      rw [wW_succ]
      refine wE_mono (hstep m e hi) fun r e1 h1 => ?_
      refine wO_mono h1 fun k h2 => ?_
      refine wIf_mono h2 (fun h3 => ?_) id
      refine wSs_mono h3 fun f e2 h4 => ?_
      cases f with
      | nx => obtain ⟨m', l, h5⟩ := h4; exact ih m' e2 (by omega) h5
      | ct => obtain ⟨m', l, h5⟩ := h4; exact ih m' e2 (by omega) h5
      | bk => exact h4
      | rt m => exact h4
  exact key WF m e hm h0
end
section
variable {W : Wd} {α : Type} {X : XE} {Q : QE}
theorem backE_wipe {e : Env} : ∀ vs : List Nat, backE e vs (wipeE vs e) = e := by
  intro vs
  have len : ∀ (vs : List Nat) (e' : Env), (wipeE vs e').length = e'.length := by
    intro vs; induction vs with
    | nil => intro e'; rfl
    | cons v vs ih => intro e'; show ((wipeE vs e').set v .no).length = _; rw [List.length_set, ih]
  have lenb : ∀ (vs : List Nat) (e' : Env), (backE e vs e').length = e'.length := by
    intro vs; induction vs with
    | nil => intro e'; rfl
    | cons v vs ih => intro e'; show ((backE e vs e').set v _).length = _; rw [List.length_set, ih]
  have wi : ∀ (vs : List Nat) (i : Nat), i ∉ vs → (wipeE vs e)[i]? = e[i]? := by
    intro vs; induction vs with
    | nil => intro i _; rfl
    | cons v vs ih =>
      intro i h
      show ((wipeE vs e).set v .no)[i]? = _
      rw [List.mem_cons, not_or] at h
      rw [List.getElem?_set_ne (Ne.symm h.1), ih i h.2]
  have bi : ∀ (vs : List Nat) (e' : Env), e'.length = e.length → ∀ i, (backE e vs e')[i]? = if i ∈ vs then e[i]? else e'[i]? := by
    intro vs; induction vs with
    | nil => intro e' _ i; simp [backE]
    | cons v vs ih =>
      intro e' hl i
      show ((backE e vs e').set v (e.at v))[i]? = _
      by_cases hv : v = i
      · subst hv
        rw [List.getElem?_set_self', if_pos (List.mem_cons_self ..)]
        rcases Nat.lt_or_ge v e.length with h | h
        · have h2 : v < (backE e vs e').length := by rw [lenb, hl]; exact h
          rw [List.getElem?_eq_getElem h2, List.getElem?_eq_getElem h]
          simp [Env.at, List.getD_eq_getElem?_getD, h]
        · have h2 : (backE e vs e').length ≤ v := by rw [lenb, hl]; exact h
          rw [List.getElem?_eq_none h2, List.getElem?_eq_none h]; rfl
      · rw [List.getElem?_set_ne hv, ih e' hl i]
        simp [List.mem_cons, Ne.symm hv]
  apply List.ext_getElem?
  intro i
  rw [bi vs _ (len vs e) i]
  split
  · rfl
  · rename_i h; exact wi vs i h
def kMapEnd (vs : List Nat) (e0 : Env) (m : M) (r : RV) (e : Env) : Prop := r.sto = some m ∧ vs.all (plainAt e) = true ∧ wipeE vs e = e0
def kMap (W : Wd) (vs : List Nat) (el : E) (e0 : Env) (m : M) (e1 : Env) : Prop := wE W el e1 (kMapEnd vs e0 m) noX
/-- a comprehension whose items have values and change nothing -/
theorem wLC_map {vs : List Nat} {t : T} {el : E} {e : Env} {sh : List Nat} (f : α → D) (g : α → M) {xs : List α} (hl : xs.length ≤ 16777216) (hp : vs.all (plainAt e) = true)
    (h : ∀ x ∈ xs, wO (tset t (f x) (wipeE vs e)) (kMap W vs el (wipeE vs e) (g x)))
    (hQ : Q ⟨.lst (xs.map g), false⟩ (unshut sh e)) : wLC W vs t [] el (xs.map f) [] e (kLc2 vs e sh Q) X := by
  have key : ∀ (ys zs : List α) (e' : Env), zs ++ ys = xs → vs.all (plainAt e') = true → wipeE vs e' = wipeE vs e → wLC W vs t [] el (ys.map f) (zs.map g) e' (kLc2 vs e sh Q) X := by
    intro ys
    induction ys with
    | nil =>
      intro zs e' hz hp' hw
      rw [List.map_nil, wLC_nil]
      unfold kLc2 wG
      rw [hw, backE_wipe, hp, hp']
      rw [List.append_nil] at hz; subst hz
      exact ⟨rfl, hQ⟩
    | cons y ys ih =>
      intro zs e' hz hp' hw
      rw [List.map_cons, wLC_cons, hp', wG_true, hw]
      have hy : y ∈ xs := by rw [← hz]; simp
      refine wO_mono (h y hy) fun e1 h1 => ?_
      unfold kLC; rw [wTs_nil]; unfold kLC1; rw [wIf_true]; unfold kLC2
      refine wE_mono h1 fun r e2 h2 => ?_
      obtain ⟨hs, hp2, hw2⟩ := h2
      unfold kLC3; rw [hs, wO_some]; unfold kLC4
      refine ⟨decide_eq_true ?_, ?_⟩
      · have := congrArg List.length hz
        rw [List.length_append, List.length_cons] at this
        rw [List.length_map]; omega
      · have := ih (zs ++ [y]) e2 (by rw [← hz]; simp) hp2 hw2
        rwa [List.map_append] at this
  exact key xs [] e rfl hp rfl
def kMapT (W : Wd) (ifs : List E) (el : E) (vs : List Nat) (e0 : Env) (m : Option M) (k : Bool) (e1 : Env) : Prop :=
  if k then wE W el e1 (fun r e => r.sto = m ∧ m.isSome = true ∧ vs.all (plainAt e) = true ∧ wipeE vs e = e0) noX else m = none ∧ vs.all (plainAt e1) = true ∧ wipeE vs e1 = e0
def kFil (W : Wd) (ifs : List E) (vs : List Nat) (el : E) (e0 : Env) (m : Option M) (e1 : Env) : Prop := wTs W ifs e1 (kMapT W ifs el vs e0 m) noX
theorem wTs_mono {a : List E} {e : Env} {Q Q' : Bool → Env → Prop} (h : wTs W a e Q X) (i : ∀ f e, Q f e → Q' f e) : wTs W a e Q' X := by
  unfold wTs wp at h ⊢
  cases h2 : evTs W a e <;> simp only [h2] at h ⊢ <;> first | exact i _ _ h | exact h
/-- .. with a test -/
theorem wLC_fil {vs : List Nat} {t : T} {ifs : List E} {el : E} {e : Env} {sh : List Nat} (f : α → D) (g : α → Option M) {xs : List α} (hl : xs.length ≤ 16777216) (hp : vs.all (plainAt e) = true)
    (h : ∀ x ∈ xs, wO (tset t (f x) (wipeE vs e)) (kFil W ifs vs el (wipeE vs e) (g x)))
    (hQ : Q ⟨.lst (xs.filterMap g), false⟩ (unshut sh e)) : wLC W vs t ifs el (xs.map f) [] e (kLc2 vs e sh Q) X := by
  have key : ∀ (ys zs : List α) (e' : Env), zs ++ ys = xs → vs.all (plainAt e') = true → wipeE vs e' = wipeE vs e → wLC W vs t ifs el (ys.map f) (zs.filterMap g) e' (kLc2 vs e sh Q) X := by
    intro ys
    induction ys with
    | nil =>
      intro zs e' hz hp' hw
      rw [List.map_nil, wLC_nil]
      unfold kLc2 wG
      rw [hw, backE_wipe, hp, hp']
      rw [List.append_nil] at hz; subst hz
      exact ⟨rfl, hQ⟩
    | cons y ys ih =>
      intro zs e' hz hp' hw
      rw [List.map_cons, wLC_cons, hp', wG_true, hw]
      have hy : y ∈ xs := by rw [← hz]; simp
      refine wO_mono (h y hy) fun e1 h1 => ?_
      unfold kLC
      refine wTs_mono h1 fun k e2 h2 => ?_
      have ih' := ih (zs ++ [y])
      rw [List.filterMap_append, List.append_assoc] at ih'
      unfold kLC1
      cases k with
      | true =>
        rw [wIf_true]; unfold kLC2
        refine wE_mono (show wE W el e2 _ noX from h2) fun r e3 h3 => ?_
        obtain ⟨hs, hm, hp2, hw2⟩ := h3
        unfold kLC3; rw [hs]
        cases hg : g y with
        | none => rw [hg] at hm; cases hm
        | some m =>
          rw [wO_some]; unfold kLC4
          refine ⟨decide_eq_true ?_, ?_⟩
          · have := congrArg List.length hz
            rw [List.length_append, List.length_cons] at this
            have h2 := List.length_filterMap_le g zs
            omega
          · have := ih' e3 hz hp2 hw2
            rwa [show List.filterMap g [y] = [m] by simp [hg]] at this
      | false =>
        rw [wIf_false]; unfold kLC2'
        have h3 : g y = none ∧ vs.all (plainAt e2) = true ∧ wipeE vs e2 = wipeE vs e := h2
        obtain ⟨hs, hp2, hw2⟩ := h3
        have := ih' e2 hz hp2 hw2
        rwa [show List.filterMap g [y] = [] by simp [hs], List.append_nil] at this
  exact key xs [] e rfl hp rfl
/-- .. that changes what stands: the items left, the values so far -/
def kAcc (I : List M → Env → Prop) (acc : List M) (r : RV) (e : Env) : Prop := wO r.sto fun m => I (acc ++ [m]) e
def kItem (W : Wd) (el : E) (I : List M → Env → Prop) (acc : List M) (e1 : Env) : Prop := wE W el e1 (kAcc I acc) noX
theorem wLC_inv {vs : List Nat} {t : T} {el : E} {e : Env} {sh : List Nat} (f : α → D) (I : List α → List M → Env → Prop) {xs : List α} (hl : xs.length ≤ 16777216) (h0 : I xs [] e) (hp : vs.all (plainAt e) = true)
    (h : ∀ x ys acc e, I (x :: ys) acc e → vs.all (plainAt e) = true ∧ wO (tset t (f x) (wipeE vs e)) (kItem W el (I ys) acc))
    (hQ : ∀ acc e', I [] acc e' → vs.all (plainAt e') = true ∧ Q ⟨.lst acc, false⟩ (unshut sh (backE e vs (wipeE vs e')))) : wLC W vs t [] el (xs.map f) [] e (kLc2 vs e sh Q) X := by
  have key : ∀ (ys : List α) (acc : List M) (e' : Env), acc.length + ys.length ≤ xs.length → I ys acc e' → wLC W vs t [] el (ys.map f) acc e' (kLc2 vs e sh Q) X := by
    intro ys
    induction ys with
    | nil =>
      intro acc e' hz hi
      rw [List.map_nil, wLC_nil]
      unfold kLc2 wG
      rw [(hQ acc e' hi).1, hp]
      exact ⟨rfl, (hQ acc e' hi).2⟩
    | cons y ys ih =>
      intro acc e' hz hi
      rw [List.length_cons] at hz
      rw [List.map_cons, wLC_cons, (h y ys acc e' hi).1, wG_true]
      refine wO_mono (h y ys acc e' hi).2 fun e1 h1 => ?_
      unfold kLC; rw [wTs_nil]; unfold kLC1; rw [wIf_true]; unfold kLC2
      refine wE_mono h1 fun r e2 h2 => ?_
      unfold kLC3
      refine wO_mono h2 fun m h3 => ?_
      unfold kLC4
      refine ⟨decide_eq_true (by omega), ?_⟩
      exact ih (acc ++ [m]) e2 (by rw [List.length_append, List.length_singleton]; omega) h3
  exact key xs [] e (by simp) h0
end
section
variable {TT : List Fd} {cl : List ClsI} {cs : List D}
theorem Cl_eq {k f : Nat} {ms : List M} {m : M} {o : List (Option M)} (h : ∀ (Q : QO) (X : XO), Q m o → Cl TT cl cs k f ms Q X) (Q : QO) (X : XO) : Cl TT cl cs k f ms Q X = Q m o := by
  have := h (fun m' o' => m' = m ∧ o' = o) (fun _ _ _ => False) ⟨rfl, rfl⟩
  unfold Cl wC at this ⊢
  cases h2 : callN TT cl cs k f ms with
  | ok m' o' => rw [h2] at this; rw [this.1, this.2]
  | exc c ds o' => rw [h2] at this; exact this.elim
  | stuck => rw [h2] at this; exact this.elim
end
end Pv
namespace Pv
open PySem L2
section
variable {α : Type} {a : Bool} {Q : RV → Prop} {xs : List α}
theorem tDs_map {f : α → D} : M.toDs (xs.map fun x => .fz (f x)) = xs.map f := by
  rw [show (xs.map fun x => M.fz (f x)) = (xs.map f).map .fz by rw [List.map_map]; rfl, tDs_fz]
theorem bi_all_map {g : α → Bool} : wO (biF .all [⟨.lst (xs.map fun x => .fz (.bl (g x))), a⟩]) Q = Q ⟨.fz (.bl (xs.all g)), false⟩ := by
  rw [bi_all (ns := xs.map g) (by rw [d_lst, tDs_map, List.map_map]; rfl), List.all_map]; rfl
theorem bi_any_map {g : α → Bool} : wO (biF .any [⟨.lst (xs.map fun x => .fz (.bl (g x))), a⟩]) Q = Q ⟨.fz (.bl (xs.any g)), false⟩ := by
  rw [bi_any (ns := xs.map g) (by rw [d_lst, tDs_map, List.map_map]; rfl), List.any_map]; rfl
theorem bi_sum_map {g : α → Int} : wO (biF .sum [⟨.lst (xs.map fun x => .fz (.int (g x))), a⟩]) Q = Q ⟨.fz (.int (xs.map g).sum), false⟩ := by
  rw [bi_sum (ns := xs.map g) (by rw [d_lst, tDs_map, List.map_map]; rfl)]
theorem bi_sum_fz {ns : List Int} : wO (biF .sum [⟨.fz (.lst (ns.map .int)), a⟩]) Q = Q ⟨.fz (.int ns.sum), false⟩ := by
  rw [bi_sum (ns := ns) (by rw [d_fz])]
end
theorem rangeI_map {α : Type} {lo : Int} {n : Nat} {f : D → α} : (rangeI lo n).map (fun i => f (.int i)) = (List.range n).map fun (j : Nat) => f (.int (lo + (j : Int))) := by
  unfold rangeI; rw [List.map_map]; rfl
theorem rangeI_int {lo : Int} {n : Nat} : (rangeI lo n).map D.int = (List.range n).map fun (j : Nat) => .int (lo + (j : Int)) := by
  unfold rangeI; rw [List.map_map]; rfl
theorem rangeI_0 {n : Nat} : (rangeI 0 n).map D.int = (List.range n).map fun (j : Nat) => .int (j : Int) := by
  unfold rangeI; rw [List.map_map]; congr 1; funext j; show D.int (0 + _) = _; rw [Int.zero_add]
theorem enumD_map {α : Type} {xs : List α} {f : α → D} : enumD (xs.map f) = xs.zipIdx.map fun p => .tup [.int p.2, f p.1] := by
  unfold enumD; rw [List.zipIdx_map, List.map_map]; rfl
theorem ints62_ok {i : Int} (h0 : -(2 ^ 62) ≤ i) (h1 : i < 2 ^ 62) : ints62 i = true := by unfold ints62; rw [decide_eq_true h0, decide_eq_true h1]; rfl
theorem all_true {α : Type} {xs : List α} : xs.all (fun _ => true) = true := by simp
theorem any_false {α : Type} {xs : List α} : xs.any (fun _ => false) = false := by simp
theorem atI_map {α β : Type} {f : α → β} {xs : List α} {i : Int} (h0 : 0 ≤ i) (h1 : i < xs.length) : atI (xs.map f) i = some (f (xs[i.toNat]'(by omega))) := by
  rw [atI_nat h0 (by rw [List.length_map]; exact h1), List.getElem_map]
theorem atI_mapN {α β : Type} {f : α → β} {xs : List α} {j : Nat} (h : j < xs.length) : atI (xs.map f) (j : Int) = some (f xs[j]) := atI_map (by omega) (by omega)
theorem atI_mapN1 {α β : Type} {f : α → β} {xs : List α} {j : Nat} (h : j + 1 < xs.length) : atI (xs.map f) ((j : Int) + 1) = some (f xs[j + 1]) := by
  rw [show ((j : Int) + 1) = ((j + 1 : Nat) : Int) by omega]; exact atI_mapN h
theorem eqD_int {i j : Int} : eqD (.int i) (.int j) = decide (i = j) := by rw [eqD]; rfl
theorem cm_mem_map {α : Type} {g : α → Int} {xs : List α} {i : Int} {p : Bool → Prop} : wO (cmp2 .mem (.int i) (.lst (xs.map fun x => .int (g x)))) p = p (xs.any fun x => decide (g x = i)) := by
  have h : (xs.map fun x => D.int (g x)).all flat = true := by simp [flat]
  show wO (if flat (.int i) && (xs.map fun x => D.int (g x)).all flat then _ else _) p = _
  rw [h]
  show p ((xs.map fun x => D.int (g x)).any fun z => eqD z (.int i)) = _
  rw [List.any_map]
  congr 2
theorem wIf_t {c : Bool} {p q : Unit → Prop} (h : c = true) (g : p ()) : wIf c p q := by subst h; rw [wIf_true]; exact g
theorem wIf_f {c : Bool} {p q : Unit → Prop} (h : c = false) (g : q ()) : wIf c p q := by subst h; rw [wIf_false]; exact g
theorem shlOk_1 {j : Int} (h0 : 0 ≤ j) (h1 : j ≤ 1000000) : shlOk 1 j = true := by unfold shlOk; rw [decide_eq_true h0, decide_eq_true h1]; rfl
/-- a slot that may be stored -/
def Fre (s : Sl) : Prop := s = .no ∨ ∃ m, s = .ok m true
theorem Fre.no : Fre .no := .inl rfl
theorem Fre.ok {m : M} : Fre (.ok m true) := .inr ⟨m, rfl⟩
theorem slPut_fre {s : Sl} (h : Fre s) {i : Nat} {m : M} {e : Env} : slPut i m e s = some (e.set i (.ok m true)) := by
  rcases h with rfl | ⟨m', rfl⟩ <;> rfl
theorem flat_rep {α : Type} {n : Nat} {x : α} : (List.replicate n [x]).flatten = List.replicate n x := by
  induction n with
  | zero => rfl
  | succ n ih => rw [List.replicate_succ, List.flatten_cons, ih, List.replicate_succ]; rfl
/-- a list of numbers that is written -/
abbrev ML (cs : List Nat) : M := .lst (cs.map fun (c : Nat) => .fz (.int (c : Int)))
theorem ixN_set {cs : List Nat} {i : Nat} {x : Nat} : (cs.map fun (c : Nat) => M.fz (.int (c : Int))).set i (.fz (.int (x : Int))) = (cs.set i x).map fun (c : Nat) => .fz (.int (c : Int)) := by
  rw [List.map_set]
theorem ixN_cast {n j : Nat} (h : j < n) : ixN n (j : Int) = some j := by rw [ixN_nat (by omega) (by omega)]; rfl
theorem atI_getD {α β : Type} {f : α → β} {xs : List α} {z : Int} {n : Nat} (d : α) (hz : z = (n : Int)) (h : n < xs.length) : atI (xs.map f) z = some (f (xs.getD n d)) := by
  subst hz; rw [atI_mapN h]; simp [List.getD_eq_getElem?_getD, h]
theorem atI_getD' {α : Type} {xs : List α} {z : Int} {n : Nat} (d : α) (hz : z = (n : Int)) (h : n < xs.length) : atI xs z = some (xs.getD n d) := by
  subst hz; rw [atI_cast h]; simp [List.getD_eq_getElem?_getD, h]
theorem fzq_map {α : Type} {f : α → D} {xs : List α} : fzs? (xs.map fun x => .fz (f x)) = some (xs.map f) := by
  rw [show (xs.map fun x => M.fz (f x)) = (xs.map f).map .fz by rw [List.map_map]; rfl, fzs_fz]
theorem lstq_tm {α : Type} {f : α → D} {xs : List α} : RV.lst? ⟨.lst (xs.map fun x => .fz (f x)), true⟩ = some (xs.map f) := fzq_map
theorem seqq_tm {α : Type} {f : α → D} {xs : List α} : RV.seq? ⟨.lst (xs.map fun x => .fz (f x)), true⟩ = some (xs.map f) := by unfold RV.seq?; rw [lstq_tm]
theorem zip_mem {α : Type} {xs : List α} {p : α × Nat} (d : α) (h : p ∈ xs.zipIdx) : p.2 < xs.length ∧ p.1 = xs.getD p.2 d := by
  have := List.mem_zipIdx_iff_getElem?.mp h
  have h2 := (List.getElem?_eq_some_iff.mp this).1
  exact ⟨h2, by rw [List.getD_eq_getElem?_getD, this]; rfl⟩
/-- .. with data -/
def Pln (s : Sl) : Prop := s = .no ∨ ∃ d, s = .ok (.fz d) true
theorem Pln.no : Pln .no := .inl rfl
theorem Pln.ok {d : D} : Pln (.ok (.fz d) true) := .inr ⟨d, rfl⟩
theorem slPut_pln {s : Sl} (h : Pln s) {i : Nat} {m : M} {e : Env} : slPut i m e s = some (e.set i (.ok m true)) := by
  rcases h with rfl | ⟨m', rfl⟩ <;> rfl
def plainSl : Sl → Bool
  | .no => true
  | .ok (.fz _) _ => true
  | _ => false
theorem plainAt_eq {e : Env} {i : Nat} : plainAt e i = plainSl (e.at i) := rfl
theorem plainSl_no : plainSl .no = true := rfl
theorem plainSl_fz {d : D} {w : Bool} : plainSl (.ok (.fz d) w) = true := rfl
theorem plainSl_pln {s : Sl} (h : Pln s) : plainSl s = true := by rcases h with rfl | ⟨m', rfl⟩ <;> rfl
theorem eqDs_map {α β : Type} {f : α → D} {g : β → D} {p : α → β → Bool} (h : ∀ x y, eqD (f x) (g y) = p x y) : ∀ (xs : List α) (ys : List β), eqDs (xs.map f) (ys.map g) = (decide (xs.length = ys.length) && (xs.zip ys).all fun q => p q.1 q.2)
  | [], [] => rfl
  | [], _ :: _ => rfl
  | _ :: _, [] => rfl
  | x :: xs, y :: ys => by
    rw [List.map_cons, List.map_cons, eqDs, h, eqDs_map h xs ys, List.zip_cons_cons, List.all_cons, List.length_cons, List.length_cons]
    cases p x y <;> simp
theorem all_zip_eq {α : Type} [DecidableEq α] : ∀ (xs ys : List α), (decide (xs.length = ys.length) && (xs.zip ys).all fun q => decide (q.1 = q.2)) = decide (xs = ys)
  | [], [] => rfl
  | [], _ :: _ => rfl
  | _ :: _, [] => rfl
  | x :: xs, y :: ys => by
    have := all_zip_eq xs ys
    rw [List.zip_cons_cons, List.all_cons, List.length_cons, List.length_cons]
    by_cases h : x = y
    · subst h; simp only [decide_true, Bool.true_and, Nat.add_right_cancel_iff, List.cons.injEq, true_and]; exact this
    · simp [h]
theorem eqD_lst {xs ys : List D} : eqD (.lst xs) (.lst ys) = eqDs xs ys := by rw [eqD]
theorem eqD_tup {xs ys : List D} : eqD (.tup xs) (.tup ys) = eqDs xs ys := by rw [eqD]
theorem eqDs_ints {α β : Type} {f : α → Int} {g : β → Int} {xs : List α} {ys : List β} : eqDs (xs.map fun x => .int (f x)) (ys.map fun y => .int (g y)) = decide (xs.map f = ys.map g) := by
  have h := eqDs_map (f := D.int) (g := D.int) (p := fun i j => decide (i = j)) (fun i j => eqD_int) (xs.map f) (ys.map g)
  rw [all_zip_eq, List.map_map, List.map_map] at h
  exact h
theorem eqD_pair {p q : Int × Int} : eqD (pairD p) (pairD q) = decide (p = q) := by
  rw [pairD, pairD, eqD_tup, eqDs, eqDs, eqDs, eqD_int, eqD_int, Bool.and_true]
  rcases p with ⟨a, b⟩; rcases q with ⟨c, d⟩
  by_cases h1 : a = c <;> by_cases h2 : b = d <;> simp [h1, h2]
theorem eqDs_pairs {ps qs : List (Int × Int)} : eqDs (ps.map pairD) (qs.map pairD) = decide (ps = qs) := by
  rw [eqDs_map (p := fun i j => decide (i = j)) (fun i j => eqD_pair), all_zip_eq]
theorem shps_map {α : Type} {f : α → D} {n : Nat} {xs : List α} (h : ∀ x ∈ xs, shp n (f x) = true) : shps n (xs.map f) = true := by
  induction xs with
  | nil => rw [List.map_nil, shps]
  | cons x xs ih => rw [List.map_cons, shps, h x (List.mem_cons_self ..), ih fun y hy => h y (List.mem_cons_of_mem _ hy)]; rfl
theorem shp_int {n : Nat} {i : Int} : shp n (.int i) = true := by cases n <;> rw [shp]
theorem shp_pair {n : Nat} {p : Int × Int} : shp (n + 1) (pairD p) = true := by rw [pairD, shp, shps, shps, shps, shp_int, shp_int]; rfl
theorem shp_ints {α : Type} {f : α → Int} {n : Nat} {xs : List α} : shp (n + 1) (.lst (xs.map fun x => .int (f x))) = true := by rw [shp]; exact shps_map fun x _ => shp_int
theorem shp_pairs {n : Nat} {ps : List (Int × Int)} : shp (n + 2) (.lst (ps.map pairD)) = true := by rw [shp]; exact shps_map fun x _ => shp_pair
theorem cm_neInts {α β : Type} {f : α → Int} {g : β → Int} {xs : List α} {ys : List β} {p : Bool → Prop} : wO (cmp2 .ne (.lst (xs.map fun x => .int (f x))) (.lst (ys.map fun y => .int (g y)))) p = p (!decide (xs.map f = ys.map g)) := by
  rw [cm_ne, shp_ints, shp_ints, eqD_lst, eqDs_ints]; exact wG_true
theorem cm_eqInts {α β : Type} {f : α → Int} {g : β → Int} {xs : List α} {ys : List β} {p : Bool → Prop} : wO (cmp2 .eq (.lst (xs.map fun x => .int (f x))) (.lst (ys.map fun y => .int (g y)))) p = p (decide (xs.map f = ys.map g)) := by
  rw [cm_eq, shp_ints, shp_ints, eqD_lst, eqDs_ints]; exact wG_true
theorem cm_nePairs {ps qs : List (Int × Int)} {p : Bool → Prop} : wO (cmp2 .ne (.lst (ps.map pairD)) (.lst (qs.map pairD))) p = p (!decide (ps = qs)) := by
  rw [cm_ne, shp_pairs, shp_pairs, eqD_lst, eqDs_pairs]; exact wG_true
theorem cm_eqPairs {ps qs : List (Int × Int)} {p : Bool → Prop} : wO (cmp2 .eq (.lst (ps.map pairD)) (.lst (qs.map pairD))) p = p (decide (ps = qs)) := by
  rw [cm_eq, shp_pairs, shp_pairs, eqD_lst, eqDs_pairs]; exact wG_true
theorem toDs_pairs {ps : List (Int × Int)} : M.toDs (ps.map fun p => .fz (pairD p)) = ps.map pairD := tDs_map
theorem ixN_30 : ixN 3 0 = some 0 := rfl
theorem ixN_31 : ixN 3 1 = some 1 := rfl
theorem ixN_32 : ixN 3 2 = some 2 := rfl
theorem cut_scr {a : Bool} {ns : List Int} {l h : Option Int} : cutR ⟨.fz (.scr ns), a⟩ l h = some ⟨.lst (((cutL ns l h).map D.int).map M.fz), false⟩ := rfl
theorem cut_fz {a : Bool} {ds : List D} {l h : Option Int} : cutR ⟨.fz (.lst ds), a⟩ l h = some ⟨.lst ((cutL ds l h).map M.fz), false⟩ := rfl
theorem cut_f {ms : List M} {l h : Option Int} : cutR ⟨.lst ms, false⟩ l h = some ⟨.lst ((cutL (M.toDs ms) l h).map M.fz), false⟩ := rfl
theorem cutL_len {α : Type} {xs : List α} {l h : Option Int} : (cutL xs l h).length ≤ xs.length := by
  unfold cutL; rw [List.length_take, List.length_drop]; omega
end Pv
/-! Pv: each continuation by an equation (printed by eqs.py). -/
namespace Pv
open PySem L2
theorem kAt_e {Q : QE} {e : Env} {v : RV} : kAt Q e v = (Q v e) := rfl
theorem kOf_e {Q : QE} {e : Env} {d : D} : kOf Q e d = (Q ⟨.fz d, false⟩ e) := rfl
theorem kBl_e {Q : QE} {e : Env} {k : Bool} : kBl Q e k = (Q ⟨.fz (.bl k), false⟩ e) := rfl
theorem kBc_e {k : Bool} {Q : QE} {e : Env} {u1 : Unit} : kBc k Q e u1 = (Q ⟨.fz (.bl k), false⟩ e) := rfl
theorem kVar_e {Q : QE} {e : Env} {m : M} {u1 : Bool} : kVar Q e m u1 = (Q ⟨m, true⟩ e) := rfl
theorem kMv_e {i : Nat} {Q : QE} {e : Env} {m : M} {w : Bool} : kMv i Q e m w = (wG w (Q ⟨m, false⟩ (e.set i .no))) := rfl
theorem kNeg2_e {Q : QE} {e : Env} {i : Int} : kNeg2 Q e i = (Q ⟨.fz (.int (-i)), false⟩ e) := rfl
theorem kNeg_e {Q : QE} {r : RV} {e : Env} : kNeg Q r e = (wI r.d (kNeg2 Q e)) := rfl
theorem kNot2_e {Q : QE} {e : Env} {b : Bool} : kNot2 Q e b = (Q ⟨.fz (.bl (!b)), false⟩ e) := rfl
theorem kNot_e {Q : QE} {r : RV} {e : Env} : kNot Q r e = (wO r.d.truth (kNot2 Q e)) := rfl
theorem kBin2_e {o : Op2} {r : RV} {Q : QE} {s : RV} {e : Env} : kBin2 o r Q s e = (wO (bin2 o r s) (kAt Q e)) := rfl
theorem kBin_e {W : Wd} {o : Op2} {b : E} {Q : QE} {X : XE} {r : RV} {e : Env} : kBin W o b Q X r e = (wG (!(r.loose && !pureE b)) (wE W b e (kBin2 o r Q) X)) := rfl
theorem kCmp2_e {o : Cm} {r : RV} {Q : QE} {s : RV} {e : Env} : kCmp2 o r Q s e = (wO (cmp2 o r.d s.d) (kBl Q e)) := rfl
theorem kCmp_e {W : Wd} {o : Cm} {b : E} {Q : QE} {X : XE} {r : RV} {e : Env} : kCmp W o b Q X r e = (wG (!(r.loose && !pureE b)) (wE W b e (kCmp2 o r Q) X)) := rfl
theorem kCh8_e {p : Cm} {j : Int} {Q : QE} {e : Env} {l : Int} : kCh8 p j Q e l = (wO (cmp2 p (.int j) (.int l)) (kBl Q e)) := rfl
theorem kCh7_e {p : Cm} {j : Int} {Q : QE} {t : RV} {e : Env} : kCh7 p j Q t e = (wI t.d (kCh8 p j Q e)) := rfl
theorem kCh6_e {W : Wd} {p : Cm} {c : E} {Q : QE} {X : XE} {j : Int} {e : Env} {u1 : Unit} : kCh6 W p c Q X j e u1 = (wE W c e (kCh7 p j Q) X) := rfl
theorem kCh5_e {W : Wd} {p : Cm} {c : E} {Q : QE} {X : XE} {j : Int} {e : Env} {k : Bool} : kCh5 W p c Q X j e k = (wIf k (kCh6 W p c Q X j e) (kBc false Q e)) := rfl
theorem kCh4_e {W : Wd} {o p : Cm} {c : E} {Q : QE} {X : XE} {i : Int} {e : Env} {j : Int} : kCh4 W o p c Q X i e j = (wO (cmp2 o (.int i) (.int j)) (kCh5 W p c Q X j e)) := rfl
theorem kCh3_e {W : Wd} {o p : Cm} {c : E} {Q : QE} {X : XE} {i : Int} {s : RV} {e : Env} : kCh3 W o p c Q X i s e = (wI s.d (kCh4 W o p c Q X i e)) := rfl
theorem kCh2_e {W : Wd} {o p : Cm} {b c : E} {Q : QE} {X : XE} {e : Env} {i : Int} : kCh2 W o p b c Q X e i = (wE W b e (kCh3 W o p c Q X i) X) := rfl
theorem kCh1_e {W : Wd} {o p : Cm} {b c : E} {Q : QE} {X : XE} {r : RV} {e : Env} : kCh1 W o p b c Q X r e = (wI r.d (kCh2 W o p b c Q X e)) := rfl
theorem kB3_e {W : Wd} {k v : Bool} {b : E} {es : List E} {Q : QE} {X : XE} {e : Env} {u1 : Unit} : kB3 W k v b es Q X e u1 = (wB W k v (b :: es) e Q X) := rfl
theorem kB2_e {W : Wd} {k v : Bool} {b : E} {es : List E} {Q : QE} {X : XE} {e : Env} {c : Bool} : kB2 W k v b es Q X e c = (wIf (c == k) (kB3 W k v b es Q X e) (kBc (!k) Q e)) := rfl
theorem kB_e {W : Wd} {k v : Bool} {b : E} {es : List E} {Q : QE} {X : XE} {r : RV} {e : Env} : kB W k v b es Q X r e = (wO (fold? v r.d) (kB2 W k v b es Q X e)) := rfl
theorem kE_e {W : Wd} {a : E} {e : Env} {Q : QE} {X : XE} {u1 : Unit} : kE W a e Q X u1 = (wE W a e Q X) := rfl
theorem kIte2_e {W : Wd} {a b : E} {Q : QE} {X : XE} {e : Env} {k : Bool} : kIte2 W a b Q X e k = (wIf k (kE W a e Q X) (kE W b e Q X)) := rfl
theorem kIte_e {W : Wd} {a b : E} {Q : QE} {X : XE} {r : RV} {e : Env} : kIte W a b Q X r e = (wO r.d.truth (kIte2 W a b Q X e)) := rfl
theorem kEs2_e {r : RV} {Q : List RV → Env → Prop} {rs : List RV} {e : Env} : kEs2 r Q rs e = (Q (r :: rs) e) := rfl
theorem kEs_e {W : Wd} {es : List E} {Q : List RV → Env → Prop} {X : XE} {r : RV} {e : Env} : kEs W es Q X r e = (wG (!(r.loose && !pureEs es)) (wEs W es e (kEs2 r Q) X)) := rfl
theorem kTup_e {Q : QE} {rs : List RV} {e : Env} : kTup Q rs e = (wG (!(rs.any RV.loose)) (wG (lenOk rs.length) (Q ⟨.fz (.tup (rs.map RV.d)), false⟩ e))) := rfl
theorem kTupm_e {Q : QE} {rs : List RV} {e : Env} : kTupm Q rs e = (wG (!(rs.any RV.loose)) (wG (lenOk rs.length) (Q ⟨.tup (rs.map RV.m), false⟩ e))) := rfl
theorem kTupv_e {Q : QE} {rs : List RV} {e : Env} : kTupv Q rs e = (wG (lenOk rs.length) (Q ⟨.tup (rs.map RV.m), true⟩ e)) := rfl
theorem kEqo2_e {W : Wd} {neg : Bool} {c f : Nat} {r : RV} {Q : QE} {s : RV} {e : Env} : kEqo2 W neg c f r Q s e = (wO (eqoF W.C neg c f r s) (kAt Q e)) := rfl
theorem kEqo_e {W : Wd} {neg : Bool} {c f : Nat} {b : E} {Q : QE} {X : XE} {r : RV} {e : Env} : kEqo W neg c f b Q X r e = (wG (!(r.loose && !pureE b)) (wE W b e (kEqo2 W neg c f r Q) X)) := rfl
theorem kLst_e {Q : QE} {rs : List RV} {e : Env} : kLst Q rs e = (wG (!(rs.any RV.loose)) (wG (lenOk rs.length) (Q ⟨.lst (rs.map RV.m), false⟩ e))) := rfl
theorem kSub2_e {r : RV} {Q : QE} {s : RV} {e : Env} : kSub2 r Q s e = (wO (subR r s.d) (kAt Q e)) := rfl
theorem kSub_e {W : Wd} {i : E} {Q : QE} {X : XE} {r : RV} {e : Env} : kSub W i Q X r e = (wG (!(r.loose && !pureE i)) (wE W i e (kSub2 r Q) X)) := rfl
theorem kSlc_e {k : Nat} {Q : QE} {rs : List RV} {e : Env} : kSlc k Q rs e = (wO (slcF k rs) (kAt Q e)) := rfl
theorem kS35_e {r : RV} {i : Int} {Q : QE} {e : Env} {j : Int} : kS35 r i Q e j = (wO (cutR r (some i) (some j)) (kAt Q e)) := rfl
theorem kS34_e {r : RV} {i : Int} {Q : QE} {t : RV} {e : Env} : kS34 r i Q t e = (wI t.d (kS35 r i Q e)) := rfl
theorem kS33_e {W : Wd} {r : RV} {c : E} {Q : QE} {X : XE} {e : Env} {i : Int} : kS33 W r c Q X e i = (wE W c e (kS34 r i Q) X) := rfl
theorem kS32_e {W : Wd} {r : RV} {c : E} {Q : QE} {X : XE} {s : RV} {e : Env} : kS32 W r c Q X s e = (wI s.d (kS33 W r c Q X e)) := rfl
theorem kS31_e {W : Wd} {b c : E} {Q : QE} {X : XE} {r : RV} {e : Env} : kS31 W b c Q X r e = (wG (!(r.loose && !(pureE b && pureE c))) (wE W b e (kS32 W r c Q X) X)) := rfl
theorem kRev_e {Q : QE} {r : RV} {e : Env} : kRev Q r e = (wO (revR r) (kAt Q e)) := rfl
theorem kFr_e {Q : QE} {r : RV} {e : Env} : kFr Q r e = (wG (!r.loose) (Q ⟨.fz r.d, false⟩ e)) := rfl
theorem kUnp_e {u : Un} {Q : QE} {r : RV} {e : Env} : kUnp u Q r e = (wO (unF u r) (kAt Q e)) := rfl
theorem kAttr_e {f : Str} {Q : QE} {r : RV} {e : Env} : kAttr f Q r e = (wO (attrR r f) (kAt Q e)) := rfl
theorem kBi_e {b : Bi} {Q : QE} {rs : List RV} {e : Env} : kBi b Q rs e = (wO (biF b rs) (kAt Q e)) := rfl
theorem kBm2_e {b : Bm} {r : RV} {Q : QE} {rs : List RV} {e : Env} : kBm2 b r Q rs e = (wO (bmF b r rs) (kAt Q e)) := rfl
theorem kBm_e {W : Wd} {b : Bm} {es : List E} {Q : QE} {X : XE} {r : RV} {e : Env} : kBm W b es Q X r e = (wG (!(r.loose && !pureEs es)) (wG (bmTy b r.d) (wEs W es e (kBm2 b r Q) X))) := rfl
theorem kPr_e {Q : QE} {q : RV × Env} : kPr Q q = (Q q.1 q.2) := rfl
theorem kMut2_e {b : Mu} {p : Nat × List Step} {Q : QE} {rs : List RV} {e : Env} : kMut2 b p Q rs e = (wO (e.mod p.1 (M.mod (muF b rs) p.2)) (kPr Q)) := rfl
theorem kMut_e {W : Wd} {b : Mu} {es : List E} {Q : QE} {X : XE} {p : Nat × List Step} {e : Env} : kMut W b es Q X p e = (wG (lstAt e p.1 p.2 && (p.2.isEmpty || pureEs es)) (wEs W es e (kMut2 b p Q) X)) := rfl
theorem kRes_e {Q : QE} {bs : List Arg} {e : Env} {m : M} {outs : List (Option M)} : kRes Q bs e m outs = (Q ⟨m, false⟩ (giveA bs outs e)) := rfl
theorem kExc_e {X : XE} {bs : List Arg} {e : Env} {c : Nat} {ds : List D} {outs : List (Option M)} : kExc X bs e c ds outs = (X c ds (giveA bs outs e)) := rfl
theorem kCall3_e {W : Wd} {f : Nat} {Q : QE} {X : XE} {bs : List Arg} {p : List M × Env} : kCall3 W f Q X bs p = (wCl W f p.1 (kRes Q bs p.2) (kExc X bs p.2)) := rfl
theorem kCall2_e {W : Wd} {f : Nat} {Q : QE} {X : XE} {e : Env} {bs : List Arg} : kCall2 W f Q X e bs = (wO (takeA bs e) (kCall3 W f Q X bs)) := rfl
theorem kCall_e {W : Wd} {f : Nat} {pm : List Pm} {Q : QE} {X : XE} {as : List Arg} {e : Env} : kCall W f pm Q X as e = (wO (pick as (dflA W.cs) pm) (kCall2 W f Q X e)) := rfl
theorem kLc2_e {vs : List Nat} {e : Env} {sh : List Nat} {Q : QE} {acc : List M} {e' : Env} : kLc2 vs e sh Q acc e' = (wG (vs.all (plainAt e') && vs.all (plainAt e)) (Q ⟨.lst acc, false⟩ (unshut sh (backE e vs (wipeE vs e'))))) := rfl
theorem kLc_e {W : Wd} {vs : List Nat} {t : T} {ifs : List E} {el : E} {Q : QE} {X : XE} {p : List D × List Nat} {e : Env} : kLc W vs t ifs el Q X p e = (wLC W vs t ifs el p.1 [] e (kLc2 vs e p.2 Q) X) := rfl
theorem kQF_e {Q : Bool → Env → Prop} {e : Env} {u1 : Unit} : kQF Q e u1 = (Q false e) := rfl
theorem kTs3_e {W : Wd} {es : List E} {Q : Bool → Env → Prop} {X : XE} {e : Env} {u1 : Unit} : kTs3 W es Q X e u1 = (wTs W es e Q X) := rfl
theorem kTs2_e {W : Wd} {es : List E} {Q : Bool → Env → Prop} {X : XE} {e : Env} {b : Bool} : kTs2 W es Q X e b = (wIf b (kTs3 W es Q X e) (kQF Q e)) := rfl
theorem kTs_e {W : Wd} {es : List E} {Q : Bool → Env → Prop} {X : XE} {r : RV} {e : Env} : kTs W es Q X r e = (wO r.d.truth (kTs2 W es Q X e)) := rfl
theorem kAv2_e {i : Nat} {Q : Arg → Env → Prop} {e : Env} {w : Bool} {u1 : Unit} : kAv2 i Q e w u1 = (wG w (Q (.bor i) e)) := rfl
theorem kAv3_e {m : M} {Q : Arg → Env → Prop} {e : Env} {u1 : Unit} : kAv3 m Q e u1 = (Q (.val m) e) := rfl
theorem kAv_e {i : Nat} {Q : Arg → Env → Prop} {e : Env} {m : M} {w : Bool} : kAv i Q e m w = (wIf m.isNode (kAv2 i Q e w) (kAv3 m Q e)) := rfl
theorem kAo2_e {Q : Arg → Env → Prop} {e : Env} {m : M} : kAo2 Q e m = (Q (.val m) e) := rfl
theorem kAo_e {Q : Arg → Env → Prop} {r : RV} {e : Env} : kAo Q r e = (wO r.sto (kAo2 Q e)) := rfl
theorem kAs2_e {r : Arg} {Q : List Arg → Env → Prop} {rs : List Arg} {e : Env} : kAs2 r Q rs e = (Q (r :: rs) e) := rfl
theorem kAs_e {W : Wd} {es : List E} {Q : List Arg → Env → Prop} {X : XE} {r : Arg} {e : Env} : kAs W es Q X r e = (wAs W es e (kAs2 r Q) X) := rfl
theorem kPa_e {f : Str} {Q : Nat × List Step → Env → Prop} {p : Nat × List Step} {e : Env} : kPa f Q p e = (wG (pathOk e p.1 (p.2 ++ [.fld f])) (Q (p.1, p.2 ++ [.fld f]) e)) := rfl
theorem kPs2_e {p : Nat × List Step} {Q : Nat × List Step → Env → Prop} {r : RV} {e : Env} : kPs2 p Q r e = (wG (pathOk e p.1 (p.2 ++ [.key r.d])) (Q (p.1, p.2 ++ [.key r.d]) e)) := rfl
theorem kPs_e {W : Wd} {k : E} {Q : Nat × List Step → Env → Prop} {X : XE} {p : Nat × List Step} {e : Env} : kPs W k Q X p e = (wG (pureE k) (wE W k e (kPs2 p Q) X)) := rfl
theorem kSrc2_e {ds : List D} {Q : List D × List Nat → Env → Prop} {p : List Nat × Env} : kSrc2 ds Q p = (Q (ds, p.1) p.2) := rfl
theorem kSrc_e {a : E} {r : RV} {e : Env} {Q : List D × List Nat → Env → Prop} {ds : List D} : kSrc a r e Q ds = (wO (shut a r e) (kSrc2 ds Q)) := rfl
theorem wSrc_e {all : Bool} {a : E} {r : RV} {e : Env} {Q : List D × List Nat → Env → Prop} : wSrc all a r e Q = (wO (if all then r.seq? else r.lst?) (kSrc a r e Q)) := rfl
theorem kIl_e {a : E} {Q : List D × List Nat → Env → Prop} {r : RV} {e : Env} : kIl a Q r e = (wSrc true a r e Q) := rfl
theorem kIr2_e {Q : List D × List Nat → Env → Prop} {e : Env} {ns : List Int} : kIr2 Q e ns = (Q (ns.map .int, []) e) := rfl
theorem kIr_e {Q : List D × List Nat → Env → Prop} {rs : List RV} {e : Env} : kIr Q rs e = (wO (range? (rs.map RV.d)) (kIr2 Q e)) := rfl
theorem kIe2_e {Q : List D × List Nat → Env → Prop} {p : List D × List Nat} {e : Env} : kIe2 Q p e = (Q (enumD p.1, p.2) e) := rfl
theorem kIe_e {a : E} {Q : List D × List Nat → Env → Prop} {r : RV} {e : Env} : kIe a Q r e = (wSrc false a r e (kIe2 Q)) := rfl
theorem kNx_e {Q : QF} {e : Env} : kNx Q e = (Q .nx e) := rfl
theorem kSx_e {Q : QF} {u1 : RV} {e : Env} : kSx Q u1 e = (Q .nx e) := rfl
theorem kAsg2_e {W : Wd} {t : Tg} {Q : QF} {X : XE} {e : Env} {m : M} : kAsg2 W t Q X e m = (wTg W t m e (kNx Q) X) := rfl
theorem kAsg_e {W : Wd} {t : Tg} {Q : QF} {X : XE} {r : RV} {e : Env} : kAsg W t Q X r e = (wO r.sto (kAsg2 W t Q X e)) := rfl
theorem kPar_e {is : List Nat} {Q : QF} {rs : List RV} {e : Env} : kPar is Q rs e = (wO (setPar is rs e) (kNx Q)) := rfl
theorem kAug4_e {i : Nat} {Q : QF} {e : Env} {z : Int} : kAug4 i Q e z = (wO (e.put i (.fz (.int z))) (kNx Q)) := rfl
theorem kAug3_e {i : Nat} {o : Op2} {x : Int} {Q : QF} {e : Env} {y : Int} : kAug3 i o x Q e y = (wO (arith o x y) (kAug4 i Q e)) := rfl
theorem kAug2_e {i : Nat} {o : Op2} {x : Int} {Q : QF} {r : RV} {e : Env} : kAug2 i o x Q r e = (wI r.d (kAug3 i o x Q e)) := rfl
theorem kAug1_e {W : Wd} {i : Nat} {o : Op2} {a : E} {Q : QF} {X : XE} {e : Env} {x : Int} : kAug1 W i o a Q X e x = (wE W a e (kAug2 i o x Q) X) := rfl
theorem kAug_e {W : Wd} {i : Nat} {o : Op2} {a : E} {Q : QF} {X : XE} {e : Env} {m : M} {u1 : Bool} : kAug W i o a Q X e m u1 = (wI (fzD m) (kAug1 W i o a Q X e)) := rfl
theorem kRet2_e {Q : QF} {e : Env} {m : M} : kRet2 Q e m = (Q (.rt m) e) := rfl
theorem kRet_e {Q : QF} {r : RV} {e : Env} : kRet Q r e = (wO r.sto (kRet2 Q e)) := rfl
theorem kSs_e {W : Wd} {a : List S} {e : Env} {Q : QF} {X : XE} {u1 : Unit} : kSs W a e Q X u1 = (wSs W a e Q X) := rfl
theorem kIf2_e {W : Wd} {a b : List S} {Q : QF} {X : XE} {e : Env} {k : Bool} : kIf2 W a b Q X e k = (wIf k (kSs W a e Q X) (kSs W b e Q X)) := rfl
theorem kIf_e {W : Wd} {a b : List S} {Q : QF} {X : XE} {r : RV} {e : Env} : kIf W a b Q X r e = (wO r.d.truth (kIf2 W a b Q X e)) := rfl
theorem kUn_e {sh : List Nat} {Q : QF} {f : Fl} {e : Env} : kUn sh Q f e = (Q f (unshut sh e)) := rfl
theorem kUx_e {sh : List Nat} {X : XE} {c : Nat} {ds : List D} {e : Env} : kUx sh X c ds e = (X c ds (unshut sh e)) := rfl
theorem kFor_e {W : Wd} {t : T} {b : List S} {Q : QF} {X : XE} {p : List D × List Nat} {e : Env} : kFor W t b Q X p e = (wF W t b p.1 e (kUn p.2 Q) (kUx p.2 X)) := rfl
theorem kFrz_e {i : Nat} {Q : QF} {e : Env} {m : M} {w : Bool} : kFrz i Q e m w = (wG w (Q .nx (e.set i (.ok (.fz m.toD) true)))) := rfl
theorem kF_e {W : Wd} {t : T} {b : List S} {ds : List D} {Q : QF} {X : XE} {e : Env} : kF W t b ds Q X e = (wSs W b e (kF2 W t b ds Q X) X) := rfl
theorem kNxU_e {Q : QF} {e : Env} {u1 : Unit} : kNxU Q e u1 = (Q .nx e) := rfl
theorem kW3_e {W : Wd} {c : E} {b : List S} {n : Nat} {Q : QF} {X : XE} {e : Env} {u1 : Unit} : kW3 W c b n Q X e u1 = (wSs W b e (kW4 W c b n Q X) X) := rfl
theorem kW2_e {W : Wd} {c : E} {b : List S} {n : Nat} {Q : QF} {X : XE} {e : Env} {k : Bool} : kW2 W c b n Q X e k = (wIf k (kW3 W c b n Q X e) (kNxU Q e)) := rfl
theorem kW_e {W : Wd} {c : E} {b : List S} {n : Nat} {Q : QF} {X : XE} {r : RV} {e : Env} : kW W c b n Q X r e = (wO r.d.truth (kW2 W c b n Q X e)) := rfl
theorem kTg3_e {α : Type} {Q : Env → Prop} {z : α × Env} : kTg3 Q z = (Q z.2) := rfl
theorem kTg2_e {q : Nat × List Step} {m : M} {Q : Env → Prop} {r : RV} {e : Env} : kTg2 q m Q r e = (wO (e.mod q.1 (M.mod (setSub r.d m) q.2)) (kTg3 Q)) := rfl
theorem kTg_e {W : Wd} {k : E} {m : M} {Q : Env → Prop} {X : XE} {q : Nat × List Step} {e : Env} : kTg W k m Q X q e = (wG (!(!q.2.isEmpty && !pureE k)) (wE W k e (kTg2 q m Q) X)) := rfl
theorem kTgF_e {f : Str} {m : M} {Q : Env → Prop} {q : Nat × List Step} {e : Env} : kTgF f m Q q e = (wO (e.mod q.1 (M.mod (setFld f m) q.2)) (kTg3 Q)) := rfl
theorem kTgs_e {W : Wd} {ts : List Tg} {ds : List M} {Q : Env → Prop} {X : XE} {e : Env} : kTgs W ts ds Q X e = (wTgs W ts ds e Q X) := rfl
theorem kLC4_e {W : Wd} {vs : List Nat} {t : T} {ifs : List E} {el : E} {ds : List D} {acc : List M} {Q : List M → Env → Prop} {X : XE} {e : Env} {m : M} : kLC4 W vs t ifs el ds acc Q X e m = (wG (decide (acc.length < 16777216)) (wLC W vs t ifs el ds (acc ++ [m]) e Q X)) := rfl
theorem kLC3_e {W : Wd} {vs : List Nat} {t : T} {ifs : List E} {el : E} {ds : List D} {acc : List M} {Q : List M → Env → Prop} {X : XE} {r : RV} {e : Env} : kLC3 W vs t ifs el ds acc Q X r e = (wO r.sto (kLC4 W vs t ifs el ds acc Q X e)) := rfl
theorem kLC2_e {W : Wd} {vs : List Nat} {t : T} {ifs : List E} {el : E} {ds : List D} {acc : List M} {Q : List M → Env → Prop} {X : XE} {e : Env} {u1 : Unit} : kLC2 W vs t ifs el ds acc Q X e u1 = (wE W el e (kLC3 W vs t ifs el ds acc Q X) noX) := rfl
theorem kLC2q_e {W : Wd} {vs : List Nat} {t : T} {ifs : List E} {el : E} {ds : List D} {acc : List M} {Q : List M → Env → Prop} {X : XE} {e : Env} {u1 : Unit} : kLC2' W vs t ifs el ds acc Q X e u1 = (wLC W vs t ifs el ds acc e Q X) := rfl
theorem kLC1_e {W : Wd} {vs : List Nat} {t : T} {ifs : List E} {el : E} {ds : List D} {acc : List M} {Q : List M → Env → Prop} {X : XE} {k : Bool} {e : Env} : kLC1 W vs t ifs el ds acc Q X k e = (wIf k (kLC2 W vs t ifs el ds acc Q X e) (kLC2' W vs t ifs el ds acc Q X e)) := rfl
theorem kLC_e {W : Wd} {vs : List Nat} {t : T} {ifs : List E} {el : E} {ds : List D} {acc : List M} {Q : List M → Env → Prop} {X : XE} {e : Env} : kLC W vs t ifs el ds acc Q X e = (wTs W ifs e (kLC1 W vs t ifs el ds acc Q X) noX) := rfl
theorem kEndX_e {io : List Bool} {X : XO} {c : Nat} {ds : List D} {e : Env} : kEndX io X c ds e = (X c ds (outsOf io e)) := rfl
theorem kStep_e {W : Wd} {b : List S} {I : Env → Prop} {Q : QF} {X : XE} {e : Env} : kStep W b I Q X e = (wSs W b e (kLoop I Q) X) := rfl
theorem kBody_e {W : Wd} {b : List S} {I : Nat → Env → Prop} {m : Nat} {Q : QF} {X : XE} {e : Env} {u1 : Unit} : kBody W b I m Q X e u1 = (wSs W b e (kLoop (fun e => ∃ m', m' < m ∧ I m' e) Q) X) := rfl
theorem kCond2_e {W : Wd} {b : List S} {I : Nat → Env → Prop} {m : Nat} {Q : QF} {X : XE} {e : Env} {k : Bool} : kCond2 W b I m Q X e k = (wIf k (kBody W b I m Q X e) (kNxU Q e)) := rfl
theorem kCond_e {W : Wd} {b : List S} {I : Nat → Env → Prop} {m : Nat} {Q : QF} {X : XE} {r : RV} {e : Env} : kCond W b I m Q X r e = (wO r.d.truth (kCond2 W b I m Q X e)) := rfl
theorem kMapEnd_e {vs : List Nat} {e0 : Env} {m : M} {r : RV} {e : Env} : kMapEnd vs e0 m r e = (r.sto = some m ∧ vs.all (plainAt e) = true ∧ wipeE vs e = e0) := rfl
theorem kMap_e {W : Wd} {vs : List Nat} {el : E} {e0 : Env} {m : M} {e1 : Env} : kMap W vs el e0 m e1 = (wE W el e1 (kMapEnd vs e0 m) noX) := rfl
theorem kFil_e {W : Wd} {ifs : List E} {vs : List Nat} {el : E} {e0 : Env} {m : Option M} {e1 : Env} : kFil W ifs vs el e0 m e1 = (wTs W ifs e1 (kMapT W ifs el vs e0 m) noX) := rfl
theorem kAcc_e {I : List M → Env → Prop} {acc : List M} {r : RV} {e : Env} : kAcc I acc r e = (wO r.sto fun m => I (acc ++ [m]) e) := rfl
theorem kItem_e {W : Wd} {el : E} {I : List M → Env → Prop} {acc : List M} {e1 : Env} : kItem W el I acc e1 = (wE W el e1 (kAcc I acc) noX) := rfl
theorem lenOk_e {n : Nat} : lenOk n = (decide (n ≤ 16777216)) := rfl
theorem dflA_e {cs : List D} {n : Nat} : dflA cs n = ((cs[n]?).map fun d => .val (.fz d)) := rfl
end Pv
/-! Pv: new objects and methods, by what must hold of what comes. -/
namespace Pv
open PySem L2
section
variable (W : Wd)
def kMeth2 (f : Nat) (pm : List Pm) (Q : QE) (X : XE) (a : Arg) (as : List Arg) (e : Env) : Prop := kCall W f (.arg 0 :: pm) Q X (a :: as) e
def kMeth (c f : Nat) (m : Str) (es : List E) (pm : List Pm) (Q : QE) (X : XE) (a : Arg) (e : Env) : Prop := wG (isObj c m (argM e a)) (wAs W es e (kMeth2 W f pm Q X a) X)
end
def kNewR (Q : QE) (bs : List Arg) (e : Env) : M → List (Option M) → Prop
  | .fz .non, some m :: outs => Q ⟨m, false⟩ (giveA bs (none :: outs) e)
  | _, _ => False
def kNewX (X : XE) (bs : List Arg) (e : Env) (c : Nat) (ds : List D) : List (Option M) → Prop
  | _ :: outs => X c ds (giveA bs (none :: outs) e)
  | [] => False
section
variable (W : Wd)
def kNew3 (f : Nat) (Q : QE) (X : XE) (bs : List Arg) (p : List M × Env) : Prop := wCl W f p.1 (kNewR Q bs p.2) (kNewX X bs p.2)
def kNew2 (f : Nat) (Q : QE) (X : XE) (e : Env) (bs : List Arg) : Prop := wO (takeA bs e) (kNew3 W f Q X bs)
def kNew (c f : Nat) (pm : List Pm) (Q : QE) (X : XE) (as : List Arg) (e : Env) : Prop := wO (pick (.val (.obj c [] []) :: as) (dflA W.cs) (.arg 0 :: pm)) (kNew2 W f Q X e)
end
section
variable {W : Wd} {Q : QE} {X : XE} {e : Env}
theorem newA_eq {C : Calls} {cs : List D} {c f : Nat} {as : List Arg} {pm : List Pm} : wp ((newA C cs c f as pm e).bind fun m e => Out.ok (⟨m, false⟩ : RV) e) Q X =
    wO (pick (.val (.obj c [] []) :: as) (dflA cs) (.arg 0 :: pm)) fun bs => wO (takeA bs e) fun p => wC (C f p.1) (kNewR Q bs p.2) (kNewX X bs p.2) := by
  unfold newA
  cases pick (.val (.obj c [] []) :: as) (dflA cs) (.arg 0 :: pm) with
  | none => rfl
  | some bs =>
    show _ = wO (takeA bs e) fun p => wC (C f p.1) (kNewR Q bs p.2) (kNewX X bs p.2)
    dsimp only
    cases takeA bs e with
    | none => rfl
    | some p =>
      obtain ⟨ms, e1⟩ := p
      show _ = wC (C f ms) (kNewR Q bs e1) (kNewX X bs e1)
      dsimp only
      cases C f ms with
      | stuck => rfl
      | exc c ds outs => cases outs <;> rfl
      | ok m outs =>
        cases m with
        | fz d =>
          cases d with
          | non =>
            cases outs with
            | nil => rfl
            | cons o outs => cases o <;> rfl
          | _ => rfl
        | _ => rfl
theorem wE_new {c f : Nat} {es : List E} {pm : List Pm} : wE W (.new c f es pm) e Q X = wAs W es e (kNew W c f pm Q X) X := by
  unfold wE wAs; rw [evE, wp_bind]; congr 1; funext as e; rw [newA_eq]; rfl
theorem wE_meth {c f : Nat} {m : Str} {o : E} {es : List E} {pm : List Pm} : wE W (.meth c f m o es pm) e Q X = wA W o e (kMeth W c f m es pm Q X) X := by
  unfold wE wA
  rw [evE, wp_bind]
  congr 1
  funext a e
  unfold kMeth wAs wG
  cases isObj c m (argM e a) with
  | false => exact propext ⟨fun h => h.elim, fun h => nomatch h.1⟩
  | true =>
    rw [if_pos rfl, wp_bind]
    refine propext ⟨fun h => ⟨rfl, ?_⟩, fun h => ?_⟩
    · exact Eq.mp (by congr 1; funext as e; rw [wp_bind, callA_eq]; rfl) h
    · exact Eq.mpr (by congr 1; funext as e; rw [wp_bind, callA_eq]; rfl) h.2
end
theorem kMeth2_e {W : Wd} {f : Nat} {pm : List Pm} {Q : QE} {X : XE} {a : Arg} {as : List Arg} {e : Env} : kMeth2 W f pm Q X a as e = kCall W f (.arg 0 :: pm) Q X (a :: as) e := rfl
theorem kMeth_e {W : Wd} {c f : Nat} {m : Str} {es : List E} {pm : List Pm} {Q : QE} {X : XE} {a : Arg} {e : Env} : kMeth W c f m es pm Q X a e = wG (isObj c m (argM e a)) (wAs W es e (kMeth2 W f pm Q X a) X) := rfl
theorem kNewR_e {Q : QE} {bs : List Arg} {e : Env} {m : M} {outs : List (Option M)} : kNewR Q bs e (.fz .non) (some m :: outs) = Q ⟨m, false⟩ (giveA bs (none :: outs) e) := rfl
theorem kNew3_e {W : Wd} {f : Nat} {Q : QE} {X : XE} {bs : List Arg} {p : List M × Env} : kNew3 W f Q X bs p = wCl W f p.1 (kNewR Q bs p.2) (kNewX X bs p.2) := rfl
theorem kNew2_e {W : Wd} {f : Nat} {Q : QE} {X : XE} {e : Env} {bs : List Arg} : kNew2 W f Q X e bs = wO (takeA bs e) (kNew3 W f Q X bs) := rfl
theorem kNew_e {W : Wd} {c f : Nat} {pm : List Pm} {Q : QE} {X : XE} {as : List Arg} {e : Env} : kNew W c f pm Q X as e = wO (pick (.val (.obj c [] []) :: as) (dflA W.cs) (.arg 0 :: pm)) (kNew2 W f Q X e) := rfl
theorem wO_eqo {C : Calls} {neg : Bool} {c f : Nat} {fs : List Str} {vs : List D} {d : D} {a b : Bool} {Q : RV → Prop} (hd : eqoTy c d = true) (h : wC (C f [.fz (.obj c fs vs), .fz d]) (fun m _ => ∃ k, m = .fz (.bl k) ∧ Q ⟨.fz (.bl (if neg then !k else k)), false⟩) (fun _ _ _ => False)) :
    wO (eqoF C neg c f ⟨.fz (.obj c fs vs), a⟩ ⟨.fz d, b⟩) Q := by
  unfold eqoF
  dsimp only
  rw [decide_eq_true rfl, hd, Bool.and_self, if_pos rfl]
  unfold wC at h
  cases hc : C f [.fz (.obj c fs vs), .fz d] with
  | stuck => rw [hc] at h; exact h.elim
  | exc c ds o => rw [hc] at h; exact h.elim
  | ok m o =>
    rw [hc] at h
    obtain ⟨k, rfl, q⟩ := h
    exact q
end Pv
/-! Pv: dicts of ints that are counted. -/
namespace Pv
open PySem L2
abbrev MD (ps : List (Int × Int)) : M := .dct (ps.map fun p => Sum.inl p.1) (ps.map fun p => .fz (.int p.2))
def dlk : List (Int × Int) → Int → Int → Int
  | [], _, z => z
  | p :: ps, s, z => if p.1 = s then p.2 else dlk ps s z
def pput : List (Int × Int) → Int → Int → List (Int × Int)
  | [], s, v => [(s, v)]
  | p :: ps, s, v => if p.1 = s then (p.1, v) :: ps else p :: pput ps s v
theorem dget_MD {α : Type} {f : Int × Int → α} : ∀ {ps : List (Int × Int)} {s : Int}, dget (ps.map fun p => (Sum.inl p.1 : Key)) (ps.map f) (.inl s) = (ps.find? fun p => decide (p.1 = s)).map f
  | [], _ => rfl
  | p :: ps, s => by
    rw [List.map_cons, List.map_cons, dget, List.find?_cons]
    by_cases h : p.1 = s
    · rw [if_pos (by rw [h]), decide_eq_true h]; rfl
    · rw [if_neg (fun z => h (Sum.inl.inj z)), decide_eq_false h, dget_MD]
theorem dlk_find : ∀ {ps : List (Int × Int)} {s z : Int}, dlk ps s z = ((ps.find? fun p => decide (p.1 = s)).map (·.2)).getD z
  | [], _, _ => rfl
  | p :: ps, s, z => by
    rw [dlk, List.find?_cons]
    by_cases h : p.1 = s
    · rw [if_pos h, decide_eq_true h]; rfl
    · rw [if_neg h, decide_eq_false h, dlk_find]
theorem get2_MD {ps : List (Int × Int)} {s z : Int} {al a b : Bool} {Q : RV → Prop} (h : ∀ al, Q ⟨.fz (.int (dlk ps s z)), al⟩) : wO (bmF .get2 ⟨MD ps, al⟩ [⟨.fz (.int s), a⟩, ⟨.fz (.int z), b⟩]) Q := by
  rw [dlk_find] at h
  have e : bmF .get2 ⟨MD ps, al⟩ [⟨.fz (.int s), a⟩, ⟨.fz (.int z), b⟩] = (match dget (ps.map fun p => (Sum.inl p.1 : Key)) (ps.map fun p => M.fz (.int p.2)) (.inl s) with
    | some m => some ⟨m, al⟩
    | none => some ⟨.fz (.int z), b⟩) := by
    unfold bmF
    dsimp only
    rw [d_fz]; rfl
  rw [e, dget_MD]
  cases hf : ps.find? fun p => decide (p.1 = s) with
  | none => rw [hf] at h; exact h b
  | some p => rw [hf] at h; exact h al
theorem dput_MD : ∀ {ps : List (Int × Int)} {s v : Int}, dput (ps.map fun p => (Sum.inl p.1 : Key)) (ps.map fun p => M.fz (.int p.2)) (.inl s) (.fz (.int v)) = ((pput ps s v).map fun p => Sum.inl p.1, (pput ps s v).map fun p => M.fz (.int p.2))
  | [], _, _ => rfl
  | p :: ps, s, v => by
    rw [List.map_cons, List.map_cons, dput, pput]
    by_cases h : p.1 = s
    · rw [if_pos (by rw [h]), if_pos h]; rfl
    · rw [if_neg (fun z => h (Sum.inl.inj z)), if_neg h, dput_MD]; rfl
theorem nodup_inl {ps : List (Int × Int)} (h : (ps.map (·.1)).Nodup) : (ps.map fun p => (Sum.inl p.1 : Key)).Nodup := by
  have : (ps.map fun p => (Sum.inl p.1 : Key)) = (ps.map (·.1)).map Sum.inl := by rw [List.map_map]; rfl
  rw [this, List.nodup_iff_pairwise_ne, List.pairwise_map]
  exact h.imp fun h z => h (Sum.inl.inj z)
theorem set_MD {ps : List (Int × Int)} {s v : Int} (h : (ps.map (·.1)).Nodup) (hl : ps.length < 16777216) : setSub (.int s) (.fz (.int v)) (MD ps) = some (MD (pput ps s v), ()) := by
  show ((some (Sum.inl s) : Option Key).bind fun x => if decide ((ps.map fun p => (Sum.inl p.1 : Key)).Nodup) && decide ((ps.map fun p => M.fz (.int p.2)).length < 16777216) then some (M.dct (dput (ps.map fun p => (Sum.inl p.1 : Key)) (ps.map fun p => M.fz (.int p.2)) x (.fz (.int v))).1 (dput (ps.map fun p => (Sum.inl p.1 : Key)) (ps.map fun p => M.fz (.int p.2)) x (.fz (.int v))).2, ()) else none) = _
  rw [Option.bind_some, decide_eq_true (nodup_inl h), decide_eq_true (by rw [List.length_map]; exact hl), dput_MD]
  rfl
theorem nodup_map {α β : Type} (f : α → β) {l : List α} (h : (l.map f).Nodup) : l.Nodup := by
  rw [List.nodup_iff_pairwise_ne, List.pairwise_map] at h
  exact h.imp fun h e => h (by rw [e])
/-- what a counted dict holds behind the items pre -/
structure Tal (ps : List (Int × Int)) (pre : List Int) : Prop where
  nd : (ps.map (·.1)).Nodup
  ct : ∀ p ∈ ps, p.2 = (pre.count p.1 : Nat)
  mem : ∀ s, s ∈ ps.map (·.1) ↔ s ∈ pre
  len : ps.length ≤ pre.length
theorem Tal.nil : Tal [] [] := ⟨List.nodup_nil, fun _ h => (nomatch h), fun _ => Iff.rfl, Nat.le_refl _⟩
theorem pput_fst : ∀ {ps : List (Int × Int)} {s v : Int}, (pput ps s v).map (·.1) = if s ∈ ps.map (·.1) then ps.map (·.1) else ps.map (·.1) ++ [s]
  | [], _, _ => rfl
  | p :: ps, s, v => by
    rw [pput]
    by_cases h : p.1 = s
    · rw [if_pos h, if_pos (by rw [List.map_cons, h]; exact List.mem_cons_self ..)]; rfl
    · rw [if_neg h, List.map_cons, pput_fst, List.map_cons]
      by_cases h2 : s ∈ ps.map (·.1)
      · rw [if_pos h2, if_pos (List.mem_cons_of_mem _ h2)]
      · rw [if_neg h2, if_neg (fun z => by rcases List.mem_cons.mp z with z | z; exact h z.symm; exact h2 z)]; rfl
theorem pput_mem : ∀ {ps : List (Int × Int)} {s v : Int}, (ps.map (·.1)).Nodup → ∀ p ∈ pput ps s v, p = (s, v) ∨ (p ∈ ps ∧ p.1 ≠ s)
  | [], s, v, _, p, h => .inl (by simpa [pput] using h)
  | q :: ps, s, v, hn, p, h => by
    rw [List.map_cons, List.nodup_cons] at hn
    rw [pput] at h
    by_cases e : q.1 = s
    · rw [if_pos e] at h
      rcases List.mem_cons.mp h with h | h
      · exact .inl (by rw [h, e])
      · exact .inr ⟨List.mem_cons_of_mem _ h, fun z => hn.1 (by rw [e, ← z]; exact List.mem_map_of_mem h)⟩
    · rw [if_neg e] at h
      rcases List.mem_cons.mp h with h | h
      · exact .inr ⟨by rw [h]; exact List.mem_cons_self .., by rw [h]; exact e⟩
      · rcases pput_mem hn.2 p h with h | h
        · exact .inl h
        · exact .inr ⟨List.mem_cons_of_mem _ h.1, h.2⟩
theorem Tal.lk {ps : List (Int × Int)} {pre : List Int} (t : Tal ps pre) (s : Int) : dlk ps s 0 = (pre.count s : Nat) := by
  rw [dlk_find]
  cases h : ps.find? fun p => decide (p.1 = s) with
  | none =>
    have : s ∉ pre := fun z => by
      obtain ⟨p, hp, e⟩ := List.mem_map.mp ((t.mem s).mpr z)
      have := List.find?_eq_none.mp h p hp
      exact this (decide_eq_true e)
    rw [List.count_eq_zero_of_not_mem this]; rfl
  | some p =>
    have h1 := List.mem_of_find?_eq_some h
    have h2 : p.1 = s := by have := List.find?_some h; simpa using this
    show p.2 = _
    rw [t.ct p h1, h2]
theorem Tal.put {ps : List (Int × Int)} {pre : List Int} (t : Tal ps pre) (s : Int) : Tal (pput ps s (dlk ps s 0 + 1)) (pre ++ [s]) := by
  refine ⟨?_, fun p hp => ?_, fun x => ?_, ?_⟩
  · rw [pput_fst]
    split
    · exact t.nd
    · rename_i h
      exact List.nodup_append.mpr ⟨t.nd, by simp, fun a ha b hb z => h (by rw [List.mem_singleton.mp hb] at z; rw [← z]; exact ha)⟩
  · rcases pput_mem t.nd p hp with e | ⟨h1, h2⟩
    · rw [e, t.lk s, List.count_append]; simp
    · rw [t.ct p h1, List.count_append, List.count_eq_zero_of_not_mem (a := p.1) (l := [s]) (by simpa using h2)]; simp
  · rw [pput_fst, List.mem_append, List.mem_singleton]
    split
    · rename_i h
      constructor
      · intro z; exact .inl ((t.mem x).mp z)
      · rintro (z | z)
        · exact (t.mem x).mpr z
        · rw [z]; exact h
    · rw [List.mem_append, List.mem_singleton, t.mem x]
  · have h1 := congrArg List.length (pput_fst (ps := ps) (s := s) (v := dlk ps s 0 + 1))
    rw [List.length_map] at h1
    have h2 := t.len
    rw [h1, List.length_append]
    split
    · rw [List.length_map, List.length_singleton]; omega
    · rw [List.length_append, List.length_map, List.length_singleton]; omega
/-- the symbols of a text, ascending; how often each occurs -/
abbrev syms (t : List Int) : List Int := sortI (dedup t)
abbrev nums (t : List Int) : List (Int × Int) := (syms t).map fun s => (s, ((t.count s : Nat) : Int))
theorem syms_mem {t : List Int} {s : Int} : s ∈ syms t ↔ s ∈ t := by
  rw [(sortI_perm (dedup t)).mem_iff, dedup_mem]
theorem syms_lt (t : List Int) : (syms t).Pairwise (· < ·) := by
  have h1 := sortI_sorted (dedup t)
  have h2 : (syms t).Nodup := (sortI_perm (dedup t)).nodup_iff.mpr (dedup_nodup t)
  exact (h1.and h2).imp fun ⟨a, b⟩ => by omega
theorem nums_fst (t : List Int) : (nums t).map (·.1) = syms t := by rw [List.map_map]; exact List.map_id' _
theorem Tal.sorted {ps : List (Int × Int)} {t : List Int} (h : Tal ps t) : sortP ps = nums t := by
  symm
  refine sortP_uniq ?_ ?_
  · have n1 : (nums t).Nodup := by
      have : ((nums t).map (·.1)).Nodup := by rw [nums_fst]; exact (syms_lt t).imp fun h => Int.ne_of_lt h
      exact nodup_map _ this
    have n2 : ps.Nodup := nodup_map _ h.nd
    rw [List.perm_ext_iff_of_nodup n1 n2]
    intro p
    constructor
    · intro hp
      obtain ⟨s, hs, rfl⟩ := List.mem_map.mp hp
      obtain ⟨q, hq, e⟩ := List.mem_map.mp ((h.mem s).mpr (syms_mem.mp hs))
      have := h.ct q hq
      rw [← e, ← this]; exact hq
    · intro hp
      refine List.mem_map.mpr ⟨p.1, syms_mem.mpr ((h.mem p.1).mp (List.mem_map_of_mem hp)), ?_⟩
      rw [← h.ct p hp]
  · rw [List.pairwise_map]
    refine (syms_lt t).imp fun {a b} h => ?_
    rw [leP_iff]; exact .inl h
end Pv
namespace Pv
open PySem L2
theorem cutL_to {α : Type} {xs : List α} {j : Int} (h : 0 ≤ j) : cutL xs none (some j) = xs.take j.toNat := by
  unfold cutL HT.sIx
  simp only [h, if_true, List.drop_zero, Nat.sub_zero]
  rw [← List.take_eq_take_iff.mpr]
  all_goals (try split) <;> omega
theorem sIx_pos {n d : Nat} {j : Int} (h : 0 ≤ j) : HT.sIx n d (some j) = min j.toNat n := if_neg (by omega)
theorem cutL_from {α : Type} {xs : List α} {j : Int} (h : 0 ≤ j) : cutL xs (some j) none = xs.drop j.toNat := by
  unfold cutL
  rw [sIx_pos h, HT.sIx_none, List.take_of_length_le (by rw [List.length_drop]; omega)]
  rcases Nat.le_total j.toNat xs.length with h2 | h2
  · rw [Nat.min_eq_left h2]
  · rw [Nat.min_eq_right h2, List.drop_length, List.drop_eq_nil_of_le h2]
theorem cutL_mid {α : Type} {xs : List α} {i j : Int} (h : 0 ≤ i) (h2 : 0 ≤ j) : cutL xs (some i) (some j) = (xs.drop i.toNat).take (j.toNat - i.toNat) := by
  unfold cutL
  rw [sIx_pos h, sIx_pos h2]
  rcases Nat.le_total i.toNat xs.length with h3 | h3
  · rw [Nat.min_eq_left h3]
    rcases Nat.le_total j.toNat xs.length with h4 | h4
    · rw [Nat.min_eq_left h4]
    · rw [Nat.min_eq_right h4, List.take_of_length_le (by rw [List.length_drop]; omega), List.take_of_length_le (by rw [List.length_drop]; omega)]
  · rw [Nat.min_eq_right h3, List.drop_length, List.drop_eq_nil_of_le h3, List.take_nil, List.take_nil]
theorem slc2_eq {r : RV} {j : Int} {a : Bool} : slcF 2 [r, ⟨.fz (.int j), a⟩] = cutR r none (some j) := rfl
theorem slc1_eq {r : RV} {j : Int} {a : Bool} : slcF 1 [r, ⟨.fz (.int j), a⟩] = cutR r (some j) none := rfl
theorem slc0_eq {r : RV} : slcF 0 [r] = cutR r none none := rfl
theorem cm_eqI_ {t u : List Int} {p : Bool → Prop} : wO (cmp2 .eq (.lst (t.map .int)) (.lst (u.map .int))) p = p (decide (t = u)) := by
  have := cm_eqInts (f := fun (x : Int) => x) (g := fun (x : Int) => x) (xs := t) (ys := u) (p := p)
  rw [List.map_id', List.map_id'] at this
  exact this
theorem cm_neI_ {t u : List Int} {p : Bool → Prop} : wO (cmp2 .ne (.lst (t.map .int)) (.lst (u.map .int))) p = p (!decide (t = u)) := by
  have := cm_neInts (f := fun (x : Int) => x) (g := fun (x : Int) => x) (xs := t) (ys := u) (p := p)
  rw [List.map_id', List.map_id'] at this
  exact this
theorem cm_eqI0 {t : List Int} {p : Bool → Prop} : wO (cmp2 .eq (.lst (t.map .int)) (.lst [])) p = p (decide (t = [])) := cm_eqI_ (u := [])
theorem cm_neI0 {t : List Int} {p : Bool → Prop} : wO (cmp2 .ne (.lst (t.map .int)) (.lst [])) p = p (!decide (t = [])) := cm_neI_ (u := [])
theorem un_sitems_MD {ps : List (Int × Int)} {al : Bool} {Q : RV → Prop} : wO (unF .sitems ⟨MD ps, al⟩) Q = Q ⟨.lst (((sortP ps).map pairD).map M.fz), false⟩ := un_sitems (by rw [d_dct, tDs_map])
theorem un_sset_fz {ns : List Int} {al : Bool} {Q : RV → Prop} : wO (unF .sset ⟨.fz (.lst (ns.map .int)), al⟩) Q = wG (decide (ns.length ≤ 4000)) (Q ⟨.lst (((syms ns).map D.int).map M.fz), false⟩) := un_sset (by rw [d_fz])
abbrev sumP (ps : List (Int × Int)) : Int := (ps.map (·.2)).sum
theorem pput_sum : ∀ {ps : List (Int × Int)} {s v : Int}, sumP (pput ps s v) = sumP ps - dlk ps s 0 + v
  | [], s, v => by simp [pput, sumP, dlk]
  | p :: ps, s, v => by
    rw [pput, dlk]
    by_cases h : p.1 = s
    · rw [if_pos h, if_pos h]; simp only [sumP, List.map_cons, List.sum_cons]; omega
    · rw [if_neg h, if_neg h]
      have := pput_sum (ps := ps) (s := s) (v := v)
      simp only [sumP, List.map_cons, List.sum_cons] at this ⊢; omega
theorem tal_ex (t : List Int) : ∃ ps, Tal ps t ∧ sumP ps = t.length := by
  have key : ∀ (rest pre : List Int) (ps : List (Int × Int)), Tal ps pre → sumP ps = pre.length → ∃ ps', Tal ps' (pre ++ rest) ∧ sumP ps' = (pre ++ rest).length := by
    intro rest
    induction rest with
    | nil => intro pre ps h e; exact ⟨ps, by rw [List.append_nil]; exact h, by rw [List.append_nil]; exact e⟩
    | cons x rest ih =>
      intro pre ps h e
      have := ih (pre ++ [x]) _ (h.put x) (by rw [pput_sum, e, List.length_append]; simp; omega)
      rwa [List.append_assoc] at this
  exact key t [] [] Tal.nil rfl
theorem sum_perm {a b : List Int} (h : a.Perm b) : a.sum = b.sum := by
  induction h with
  | nil => rfl
  | cons x _ ih => rw [List.sum_cons, List.sum_cons, ih]
  | swap x y l => simp only [List.sum_cons]; omega
  | trans _ _ h1 h2 => exact h1.trans h2
theorem nums_sum (t : List Int) : sumP (nums t) = t.length := by
  obtain ⟨ps, h, e⟩ := tal_ex t
  rw [← h.sorted, ← e]
  exact sum_perm ((sortP_perm ps).map (·.2))
theorem nums_pos {t : List Int} : ∀ p ∈ nums t, 1 ≤ p.2 := by
  intro p hp
  obtain ⟨s, hs, rfl⟩ := List.mem_map.mp hp
  have := List.count_pos_iff.mpr (syms_mem.mp hs)
  show 1 ≤ ((t.count s : Nat) : Int)
  omega
theorem syms_rev (t : List Int) : syms t.reverse = syms t :=
  (sortI_dedup (syms_lt t) fun k => by rw [syms_mem, List.mem_reverse]).symm
theorem nums_rev (t : List Int) : nums t.reverse = nums t := by
  show (syms t.reverse).map _ = (syms t).map _
  rw [syms_rev]
  exact List.map_congr_left fun s _ => by rw [List.count_reverse]
theorem count_I {t : List Int} {s : Int} {al b : Bool} {Q : RV → Prop} : wO (bmF .count ⟨.fz (.lst (t.map .int)), al⟩ [⟨.fz (.int s), b⟩]) Q = Q ⟨.fz (.int (t.count s : Nat)), false⟩ := by
  unfold bmF
  dsimp only
  rw [d_fz, d_fz]
  show wO ((ints? (t.map .int)).map _) Q = _
  rw [ints_map]; rfl
theorem bitlen_I {i : Int} {al : Bool} {Q : RV → Prop} : wO (bmF .bitlen ⟨.fz (.int i), al⟩ []) Q = Q ⟨.fz (.int (Builtin.Int.intBits i : Nat)), false⟩ := by
  unfold bmF
  dsimp only
  rw [d_fz]; rfl
end Pv
/-! Pv: what a table holds: symbols, their places, ranks. -/
namespace Pv
open PySem L2
theorem bits_nat {n : Nat} (h : 1 ≤ n) : Builtin.Int.intBits ((n : Nat) : Int) = n.log2 + 1 := by
  unfold Builtin.Int.intBits
  simp; omega
/-- the places of a symbol, ascending -/
def posn : List Int → Int → List Int
  | [], _ => []
  | t, s => ((List.range t.length).filter fun i => decide (t.getD i 0 = s)).map fun (i : Nat) => (i : Int)
theorem posn_eq {t : List Int} {s : Int} : posn t s = ((List.range t.length).filter fun i => decide (t.getD i 0 = s)).map fun (i : Nat) => (i : Int) := by cases t <;> rfl
theorem getD_app_lt {t u : List Int} {i : Nat} (h : i < t.length) : (t ++ u).getD i 0 = t.getD i 0 := by
  rw [List.getD_eq_getElem?_getD, List.getD_eq_getElem?_getD, List.getElem?_append_left h]
theorem posn_snoc {t : List Int} {x s : Int} : posn (t ++ [x]) s = if x = s then posn t s ++ [(t.length : Int)] else posn t s := by
  rw [posn_eq, posn_eq, List.length_append, List.length_singleton, List.range_succ, List.filter_append]
  have e1 : (List.range t.length).filter (fun i => decide ((t ++ [x]).getD i 0 = s)) = (List.range t.length).filter fun i => decide (t.getD i 0 = s) :=
    List.filter_congr fun i hi => by rw [getD_app_lt (List.mem_range.mp hi)]
  have e2 : (t ++ [x]).getD t.length 0 = x := by rw [List.getD_eq_getElem?_getD, List.getElem?_append_right (Nat.le_refl _)]; simp
  rw [e1]
  by_cases h : x = s
  · rw [if_pos h, List.filter_cons, e2, if_pos (decide_eq_true h), List.filter_nil, List.map_append]; rfl
  · rw [if_neg h, List.filter_cons, e2, if_neg (by simpa using h), List.filter_nil, List.append_nil]
theorem posn_len {t : List Int} {s : Int} : (posn t s).length = t.count s := by
  have key : ∀ r : List Int, (posn r.reverse s).length = r.reverse.count s := by
    intro r
    induction r with
    | nil => rfl
    | cons x r ih =>
      rw [List.reverse_cons, posn_snoc, List.count_append]
      by_cases h : x = s
      · rw [if_pos h, List.length_append, ih, h]; simp
      · rw [if_neg h, ih, List.count_eq_zero_of_not_mem (a := s) (l := [x]) (by simpa using fun z => h z.symm)]; rfl
  have := key t.reverse
  rwa [List.reverse_reverse] at this
def rnks (t : List Int) : List Int := (List.range t.length).map fun i => (((t.take i).count (t.getD i 0) : Nat) : Int)
theorem rnks_snoc {t : List Int} {x : Int} : rnks (t ++ [x]) = rnks t ++ [((t.count x : Nat) : Int)] := by
  unfold rnks
  rw [List.length_append, List.length_singleton, List.range_succ, List.map_append]
  congr 1
  · refine List.map_congr_left fun i hi => ?_
    have hi := List.mem_range.mp hi
    rw [getD_app_lt hi, List.take_append_of_le_length (Nat.le_of_lt hi)]
  · rw [List.map_cons, List.map_nil, List.take_append_of_le_length (Nat.le_refl _), List.take_length]
    rw [List.getD_eq_getElem?_getD, List.getElem?_append_right (Nat.le_refl _)]; simp
/-- a dict of the places of symbols -/
abbrev MPl (ps : List (Int × List Int)) : M := .dct (ps.map fun p => Sum.inl p.1) (ps.map fun p => .fz (.lst (p.2.map .int)))
structure Plc (ps : List (Int × List Int)) (pre : List Int) : Prop where
  nd : (ps.map (·.1)).Nodup
  ct : ∀ p ∈ ps, p.2 = posn pre p.1
  mem : ∀ s, s ∈ ps.map (·.1) ↔ s ∈ pre
  len : ps.length ≤ pre.length
def plput : List (Int × List Int) → Int → List Int → List (Int × List Int)
  | [], s, v => [(s, v)]
  | p :: ps, s, v => if p.1 = s then (p.1, v) :: ps else p :: plput ps s v
theorem dget_Pl {α : Type} {f : Int × List Int → α} : ∀ {ps : List (Int × List Int)} {s : Int}, dget (ps.map fun p => (Sum.inl p.1 : Key)) (ps.map f) (.inl s) = (ps.find? fun p => decide (p.1 = s)).map f
  | [], _ => rfl
  | p :: ps, s => by
    rw [List.map_cons, List.map_cons, dget, List.find?_cons]
    by_cases h : p.1 = s
    · rw [if_pos (by rw [h]), decide_eq_true h]; rfl
    · rw [if_neg (fun z => h (Sum.inl.inj z)), decide_eq_false h, dget_Pl]
theorem Plc.find {ps : List (Int × List Int)} {pre : List Int} (h : Plc ps pre) (s : Int) : ps.find? (fun p => decide (p.1 = s)) = if s ∈ pre then some (s, posn pre s) else none := by
  cases hf : ps.find? fun p => decide (p.1 = s) with
  | none =>
    have : s ∉ pre := fun z => by
      obtain ⟨p, hp, e⟩ := List.mem_map.mp ((h.mem s).mpr z)
      exact (List.find?_eq_none.mp hf p hp) (decide_eq_true e)
    rw [if_neg this]
  | some p =>
    have h1 := List.mem_of_find?_eq_some hf
    have h2 : p.1 = s := by have := List.find?_some hf; simpa using this
    have h3 : s ∈ pre := (h.mem s).mp (by rw [← h2]; exact List.mem_map_of_mem h1)
    rw [if_pos h3, show p = (s, posn pre s) from Prod.ext h2 (by rw [h.ct p h1, h2])]
theorem posn_none {t : List Int} {s : Int} (h : s ∉ t) : posn t s = [] := List.eq_nil_of_length_eq_zero (by rw [posn_len, List.count_eq_zero_of_not_mem h])
/-- get(symbol, []) -/
theorem get2_Pl {ps : List (Int × List Int)} {pre : List Int} {s : Int} {al a b : Bool} {Q : RV → Prop} (hp : Plc ps pre) (h1 : s ∈ pre → ∀ al, Q ⟨.fz (.lst ((posn pre s).map .int)), al⟩) (h2 : s ∉ pre → Q ⟨.lst [], b⟩) : wO (bmF .get2 ⟨MPl ps, al⟩ [⟨.fz (.int s), a⟩, ⟨.lst [], b⟩]) Q := by
  have e : bmF .get2 ⟨MPl ps, al⟩ [⟨.fz (.int s), a⟩, ⟨.lst [], b⟩] = (match dget (ps.map fun p => (Sum.inl p.1 : Key)) (ps.map fun p => M.fz (.lst (p.2.map .int))) (.inl s) with
    | some m => some ⟨m, al⟩
    | none => some ⟨.lst [], b⟩) := by
    unfold bmF
    dsimp only
    rw [d_fz]; rfl
  rw [e, dget_Pl, hp.find]
  by_cases h : s ∈ pre
  · rw [if_pos h]; exact h1 h al
  · rw [if_neg h]; exact h2 h
theorem dput_Pl : ∀ {ps : List (Int × List Int)} {s : Int} {v : List Int}, dput (ps.map fun p => (Sum.inl p.1 : Key)) (ps.map fun p => M.fz (.lst (p.2.map .int))) (.inl s) (.fz (.lst (v.map .int))) = ((plput ps s v).map fun p => Sum.inl p.1, (plput ps s v).map fun p => M.fz (.lst (p.2.map .int)))
  | [], _, _ => rfl
  | p :: ps, s, v => by
    rw [List.map_cons, List.map_cons, dput, plput]
    by_cases h : p.1 = s
    · rw [if_pos (by rw [h]), if_pos h]; rfl
    · rw [if_neg (fun z => h (Sum.inl.inj z)), if_neg h, dput_Pl]; rfl
theorem nodup_Pl {ps : List (Int × List Int)} (h : (ps.map (·.1)).Nodup) : (ps.map fun p => (Sum.inl p.1 : Key)).Nodup := by
  have : (ps.map fun p => (Sum.inl p.1 : Key)) = (ps.map (·.1)).map Sum.inl := by rw [List.map_map]; rfl
  rw [this, List.nodup_iff_pairwise_ne, List.pairwise_map]
  exact h.imp fun h z => h (Sum.inl.inj z)
theorem set_Pl {ps : List (Int × List Int)} {s : Int} {v : List Int} (h : (ps.map (·.1)).Nodup) (hl : ps.length < 16777216) : setSub (.int s) (.fz (.lst (v.map .int))) (MPl ps) = some (MPl (plput ps s v), ()) := by
  show ((some (Sum.inl s) : Option Key).bind fun x => if decide ((ps.map fun p => (Sum.inl p.1 : Key)).Nodup) && decide ((ps.map fun p => M.fz (.lst (p.2.map .int))).length < 16777216) then some (M.dct (dput (ps.map fun p => (Sum.inl p.1 : Key)) (ps.map fun p => M.fz (.lst (p.2.map .int))) x (.fz (.lst (v.map .int)))).1 (dput (ps.map fun p => (Sum.inl p.1 : Key)) (ps.map fun p => M.fz (.lst (p.2.map .int))) x (.fz (.lst (v.map .int)))).2, ()) else none) = _
  rw [Option.bind_some, decide_eq_true (nodup_Pl h), decide_eq_true (by rw [List.length_map]; exact hl), dput_Pl]
  rfl
theorem plput_fst : ∀ {ps : List (Int × List Int)} {s : Int} {v : List Int}, (plput ps s v).map (·.1) = if s ∈ ps.map (·.1) then ps.map (·.1) else ps.map (·.1) ++ [s]
  | [], _, _ => rfl
  | p :: ps, s, v => by
    rw [plput]
    by_cases h : p.1 = s
    · rw [if_pos h, if_pos (by rw [List.map_cons, h]; exact List.mem_cons_self ..)]; rfl
    · rw [if_neg h, List.map_cons, plput_fst, List.map_cons]
      by_cases h2 : s ∈ ps.map (·.1)
      · rw [if_pos h2, if_pos (List.mem_cons_of_mem _ h2)]
      · rw [if_neg h2, if_neg (fun z => by rcases List.mem_cons.mp z with z | z; exact h z.symm; exact h2 z)]; rfl
theorem plput_mem : ∀ {ps : List (Int × List Int)} {s : Int} {v : List Int}, (ps.map (·.1)).Nodup → ∀ p ∈ plput ps s v, p = (s, v) ∨ (p ∈ ps ∧ p.1 ≠ s)
  | [], s, v, _, p, h => .inl (by simpa [plput] using h)
  | q :: ps, s, v, hn, p, h => by
    rw [List.map_cons, List.nodup_cons] at hn
    rw [plput] at h
    by_cases e : q.1 = s
    · rw [if_pos e] at h
      rcases List.mem_cons.mp h with h | h
      · exact .inl (by rw [h, e])
      · exact .inr ⟨List.mem_cons_of_mem _ h, fun z => hn.1 (by rw [e, ← z]; exact List.mem_map_of_mem h)⟩
    · rw [if_neg e] at h
      rcases List.mem_cons.mp h with h | h
      · exact .inr ⟨by rw [h]; exact List.mem_cons_self .., by rw [h]; exact e⟩
      · rcases plput_mem hn.2 p h with h | h
        · exact .inl h
        · exact .inr ⟨List.mem_cons_of_mem _ h.1, h.2⟩
theorem Plc.nil : Plc [] [] := ⟨List.nodup_nil, fun _ h => (nomatch h), fun _ => Iff.rfl, Nat.le_refl _⟩
theorem Plc.put {ps : List (Int × List Int)} {pre : List Int} (t : Plc ps pre) (s : Int) : Plc (plput ps s (posn pre s ++ [(pre.length : Int)])) (pre ++ [s]) := by
  refine ⟨?_, fun p hp => ?_, fun x => ?_, ?_⟩
  · rw [plput_fst]
    split
    · exact t.nd
    · rename_i h
      exact List.nodup_append.mpr ⟨t.nd, by simp, fun a ha b hb z => h (by rw [List.mem_singleton.mp hb] at z; rw [← z]; exact ha)⟩
  · rcases plput_mem t.nd p hp with e | ⟨h1, h2⟩
    · rw [e, posn_snoc, if_pos rfl]
    · rw [t.ct p h1, posn_snoc, if_neg h2.symm]
  · rw [plput_fst, List.mem_append, List.mem_singleton]
    split
    · rename_i h
      constructor
      · intro z; exact .inl ((t.mem x).mp z)
      · rintro (z | z)
        · exact (t.mem x).mpr z
        · rw [z]; exact h
    · rw [List.mem_append, List.mem_singleton, t.mem x]
  · have h1 := congrArg List.length (plput_fst (ps := ps) (s := s) (v := posn pre s ++ [(pre.length : Int)]))
    rw [List.length_map] at h1
    have h2 := t.len
    rw [h1, List.length_append]
    split
    · rw [List.length_map, List.length_singleton]; omega
    · rw [List.length_append, List.length_map, List.length_singleton]; omega
end Pv
namespace Pv
open PySem L2
abbrev DPl (ps : List (Int × List Int)) : D := .dct (ps.map fun p => Sum.inl p.1) (ps.map fun p => .lst (p.2.map .int))
theorem sub_Pl {ps : List (Int × List Int)} {pre : List Int} {s : Int} {al : Bool} {Q : RV → Prop} (hp : Plc ps pre) (h : s ∈ pre) : wO (subR ⟨.fz (DPl ps), al⟩ (.int s)) Q = Q (.of (.lst ((posn pre s).map .int))) := by
  show wO ((dget (ps.map fun p => (Sum.inl p.1 : Key)) (ps.map fun p => D.lst (p.2.map .int)) (.inl s)).map RV.of) Q = _
  rw [dget_Pl, hp.find, if_pos h]; rfl
theorem mem_Pl {ps : List (Int × List Int)} {pre : List Int} {s : Int} {Q : Bool → Prop} (hp : Plc ps pre) : wO (cmp2 .nmem (.int s) (DPl ps)) Q = Q (!decide (s ∈ pre)) := by
  show Q (!((ps.map fun p => (Sum.inl p.1 : Key)).any fun z => decide (z = Sum.inl s))) = _
  have : ((ps.map fun p => (Sum.inl p.1 : Key)).any fun z => decide (z = Sum.inl s)) = decide (s ∈ pre) := by
    rw [Bool.eq_iff_iff, List.any_eq_true, decide_eq_true_eq, ← hp.mem]
    constructor
    · rintro ⟨z, hz, e⟩
      obtain ⟨p, hp, rfl⟩ := List.mem_map.mp hz
      have := Sum.inl.inj (of_decide_eq_true e)
      exact List.mem_map.mpr ⟨p, hp, this⟩
    · intro h
      obtain ⟨p, hp, rfl⟩ := List.mem_map.mp h
      exact ⟨_, List.mem_map_of_mem hp, decide_eq_true rfl⟩
  rw [this]
/-- the state's number among those of its symbol, and the bits that lead to it -/
def rowN (t : List Int) (j : Nat) : Nat := t.count (t.getD j 0) + (t.take j).count (t.getD j 0)
def rowB (t : List Int) (r j : Nat) : Nat := r - (rowN t j).log2
theorem rnks_get {t : List Int} {j : Nat} (h : j < (rnks t).length) : (rnks t)[j] = (((t.take j).count (t.getD j 0) : Nat) : Int) := by simp [rnks]
theorem rnks_len {t : List Int} : (rnks t).length = t.length := by rw [rnks, List.length_map, List.length_range]
theorem rowN_le {t : List Int} {j : Nat} (h : j < t.length) : t.count (t.getD j 0) ≤ rowN t j ∧ rowN t j + 1 ≤ 2 * t.count (t.getD j 0) := by
  have e : t.getD j 0 = t[j] := by rw [List.getD_eq_getElem?_getD, List.getElem?_eq_getElem h]; rfl
  have h1 : t.count (t.getD j 0) = (t.take (j + 1)).count (t.getD j 0) + (t.drop (j + 1)).count (t.getD j 0) := by
    rw [← List.count_append, List.take_append_drop]
  have h2 : (t.take (j + 1)).count (t.getD j 0) = (t.take j).count (t.getD j 0) + 1 := by
    rw [List.take_succ_eq_append_getElem h, List.count_append, e]; simp
  unfold rowN
  omega
end Pv
namespace Pv
theorem posn_get {s : Int} : ∀ {t : List Int} {m : Nat}, m < (posn t s).length → ∃ j : Nat, j < t.length ∧ (posn t s).getD m 0 = (j : Int) ∧ t.getD j 0 = s ∧ (t.take j).count s = m := by
  have key : ∀ (r : List Int) (m : Nat), m < (posn r.reverse s).length → ∃ j : Nat, j < r.reverse.length ∧ (posn r.reverse s).getD m 0 = (j : Int) ∧ r.reverse.getD j 0 = s ∧ (r.reverse.take j).count s = m := by
    intro r
    induction r with
    | nil => intro m h; simp [posn] at h
    | cons x r ih =>
      intro m h
      rw [List.reverse_cons] at h ⊢
      rw [posn_snoc] at h ⊢
      have old : m < (posn r.reverse s).length → ∃ j : Nat, j < (r.reverse ++ [x]).length ∧ (posn r.reverse s).getD m 0 = (j : Int) ∧ (r.reverse ++ [x]).getD j 0 = s ∧ ((r.reverse ++ [x]).take j).count s = m := by
        intro h
        obtain ⟨j, h1, h2, h3, h4⟩ := ih m h
        exact ⟨j, by rw [List.length_append]; omega, h2, by rw [getD_app_lt h1]; exact h3, by rw [List.take_append_of_le_length (Nat.le_of_lt h1)]; exact h4⟩
      by_cases e : x = s
      · rw [if_pos e] at h ⊢
        rw [List.length_append, List.length_singleton] at h
        by_cases h5 : m < (posn r.reverse s).length
        · obtain ⟨j, h1, h2, h3, h4⟩ := old h5
          exact ⟨j, h1, by rw [getD_app_lt h5]; exact h2, h3, h4⟩
        · have hm : m = (posn r.reverse s).length := by omega
          refine ⟨r.reverse.length, by rw [List.length_append, List.length_singleton]; omega, ?_, ?_, ?_⟩
          · rw [hm, List.getD_eq_getElem?_getD, List.getElem?_append_right (Nat.le_refl _)]; simp
          · rw [List.getD_eq_getElem?_getD, List.getElem?_append_right (Nat.le_refl _)]; simp [e]
          · rw [List.take_append_of_le_length (Nat.le_refl _), List.take_length, hm, posn_len]
      · rw [if_neg e] at h ⊢
        exact old h
  intro t m h
  have := key t.reverse m
  rw [List.reverse_reverse] at this
  exact this h
theorem rank_inj {t : List Int} {s : Int} {i j : Nat} (hi : i < t.length) (hj : j < t.length) (ei : t.getD i 0 = s) (ej : t.getD j 0 = s) (h : (t.take i).count s = (t.take j).count s) : i = j := by
  have key : ∀ {i j : Nat}, i < j → j < t.length → t.getD i 0 = s → (t.take i).count s < (t.take j).count s := by
    intro i j hij hj ei
    have hi : i < t.length := by omega
    have e : t.getD i 0 = t[i] := by rw [List.getD_eq_getElem?_getD, List.getElem?_eq_getElem hi]; rfl
    have h2 : (t.take (i + 1)).count s = (t.take i).count s + 1 := by
      rw [List.take_succ_eq_append_getElem hi, List.count_append, ← e, ei]; simp
    have h3 : (t.take j) = (t.take (i + 1)) ++ ((t.take j).drop (i + 1)) := by
      have := (List.take_append_drop (i + 1) (t.take j)).symm
      rwa [List.take_take, Nat.min_eq_left (by omega)] at this
    have h4 : (t.take j).count s = (t.take (i + 1)).count s + ((t.take j).drop (i + 1)).count s := by
      conv => lhs; rw [h3]
      rw [List.count_append]
    omega
  rcases Nat.lt_trichotomy i j with h1 | h1 | h1
  · have := key h1 hj ei; omega
  · exact h1
  · have := key h1 hi ej; omega
/-- how far a number is shifted to lie in [c, 2 c) -/
theorem shift_uniq {w c a b : Nat} (hc : 1 ≤ c) (a1 : c ≤ w / 2 ^ a) (a2 : w / 2 ^ a < 2 * c) (b1 : c ≤ w / 2 ^ b) (b2 : w / 2 ^ b < 2 * c) : a = b := by
  have key : ∀ {a b : Nat}, w / 2 ^ a < 2 * c → c ≤ w / 2 ^ b → ¬ a < b := by
    intro a b h1 h2 hab
    obtain ⟨d, rfl⟩ : ∃ d, b = a + (d + 1) := ⟨b - a - 1, by omega⟩
    rw [Nat.pow_add, ← Nat.div_div_eq_div_mul] at h2
    have h3 : w / 2 ^ a / 2 ^ (d + 1) ≤ w / 2 ^ a / 2 := by
      refine Nat.div_le_div_left ?_ (by omega)
      have := Nat.pow_le_pow_right (show 0 < 2 by omega) (show 1 ≤ d + 1 by omega)
      simpa using this
    omega
  have h1 := key a2 b1
  have h2 := key b2 a1
  omega
theorem log_shift {w n b r : Nat} (h1 : 2 ^ r ≤ w) (h2 : w < 2 ^ (r + 1)) (hn : w / 2 ^ b = n) (n1 : 1 ≤ n) : r - n.log2 = b := by
  have hb : b ≤ r := by
    apply Nat.le_of_not_lt
    intro hc
    have : 2 ^ (r + 1) ≤ 2 ^ b := Nat.pow_le_pow_right (by omega) hc
    have h3 : w / 2 ^ b = 0 := Nat.div_eq_of_lt (by omega)
    omega
  obtain ⟨d, rfl⟩ : ∃ d, r = d + b := ⟨r - b, by omega⟩
  have hp := Nat.two_pow_pos b
  have e1 : 2 ^ d ≤ n := by
    rw [← hn, Nat.le_div_iff_mul_le hp, ← Nat.pow_add]; exact h1
  have e2 : n < 2 ^ (d + 1) := by
    rw [← hn, Nat.div_lt_iff_lt_mul hp, ← Nat.pow_add, show d + 1 + b = d + b + 1 by omega]; exact h2
  have l1 : n.log2 < d + 1 := (Nat.log2_lt (by omega)).mpr e2
  have l2 : d ≤ n.log2 := (Nat.le_log2 (by omega)).mpr e1
  omega
theorem filter_one {n j : Nat} {p : Nat → Bool} (hj : j < n) (hp : p j = true) (hu : ∀ i, i < n → p i = true → i = j) : (List.range n).filter p = [j] := by
  have h1 : (List.range n).filter p = (List.range n).filter fun i => decide (i = j) := List.filter_congr fun i hi => by
    have hi := List.mem_range.mp hi
    by_cases e : i = j
    · subst e; rw [hp]; simp
    · rw [decide_eq_false e]
      cases q : p i with
      | false => rfl
      | true => exact absurd (hu i hi q) e
  rw [h1]
  have : ∀ n, (List.range n).filter (fun i => decide (i = j)) = if j < n then [j] else [] := by
    intro n
    induction n with
    | zero => rfl
    | succ n ih =>
      rw [List.range_succ, List.filter_append, ih]
      by_cases c : j < n
      · rw [if_pos c, if_pos (by omega), List.filter_cons, if_neg (by simp; omega)]; rfl
      · rw [if_neg c]
        by_cases c2 : n = j
        · rw [if_pos (by omega), List.filter_cons, if_pos (by simpa using c2), c2]; rfl
        · rw [if_neg (by omega), List.filter_cons, if_neg (by simpa using c2)]; rfl
  rw [this, if_pos hj]
end Pv
/-! spreadstates_k10_rows_of_tables: the trees (printed by gen.py). -/
namespace Pv
open PySem L2
/-- is_integer -/
def b_is_integer : List S := [.ret (some (.boo true true [.bi (.isi .int) [.var 0], .not (.bi (.isi .bool) [.var 0])]))]
def d_is_integer : Fd := ⟨1, 1, [true], b_is_integer⟩
abbrev i_is_integer : Nat := 0
/-- is_between -/
def b_is_between : List S := [.ret (some (.boo true true [.call 0 [.var 0] [] [.arg 0], .chain .le .le (.var 1) (.var 0) (.var 2)]))]
def d_is_between : Fd := ⟨3, 3, [true, true, true], b_is_between⟩
abbrev i_is_between : Nat := 1
/-- is_symbol -/
def b_is_symbol : List S := [.ret (some (.call 1 [.var 0, .cst (.int 0), .glb 0] [] [.arg 0, .arg 1, .arg 2]))]
def d_is_symbol : Fd := ⟨1, 1, [true], b_is_symbol⟩
abbrev i_is_symbol : Nat := 2
/-- is_size -/
def b_is_size : List S := [.ret (some (.cmp .mem (.var 0) (.lc [1] (.nm 1) (.range [.cst (.int 1), .bin .add (.glb 1) (.cst (.int 1))]) [] (.bin .shl (.cst (.int 1)) (.var 1)))))]
def d_is_size : Fd := ⟨2, 1, [true], b_is_size⟩
abbrev i_is_size : Nat := 3
/-- check_spread -/
def b_check_spread : List S := [.iff (.not (.bi (.isi .list) [.var 0])) [.never] [], .iff (.not (.call 3 [.bi .len [.var 0]] [] [.arg 0])) [.never] [], .forr (.tup [.nm 1, .nm 2]) (.enum (.var 0)) [.iff (.not (.call 2 [.var 2] [] [.arg 0])) [.never] []]]
def d_check_spread : Fd := ⟨3, 1, [true], b_check_spread⟩
abbrev i_check_spread : Nat := 4
/-- check_state -/
def b_check_state : List S := [.iff (.not (.call 1 [.var 2, .cst (.int 0), .bin .sub (.bi .len [.attr (.var 0) "kept"]) (.cst (.int 1))] [] [.arg 0, .arg 1, .arg 2])) [.never] []]
def d_check_state : Fd := ⟨3, 3, [true, true, true], b_check_state⟩
abbrev i_check_state : Nat := 5
/-- _law_source_of -/
def b__law_source_of : List S := [.asg (.nm 0) (.ite (.cmp .ge (.var 0) (.cst (.int 0))) (.var 0) (.bin .sub (.bin .sub (.cst (.int 0)) (.bin .mul (.cst (.int 3)) (.var 0))) (.cst (.int 1)))), .ret (some (.lst [.bin .mul (.var 0) (.bi .int [.cmp .ge (.var 0) (.bin .pow (.cst (.int 10)) (.cst (.int 18)))]), .bin .mod (.bi .int [.var 0]) (.cst (.int 2147483647)), .cst (.int 0)]))]
def d__law_source_of : Fd := ⟨1, 1, [false], b__law_source_of⟩
abbrev i__law_source_of : Nat := 6
/-- _law_next -/
def b__law_next : List S := [.iff (.cmp .gt (.sub (.var 0) (.cst (.int 0))) (.cst (.int 0))) [.asg (.nm 2) (.bin .mod (.bi .int [.sub (.var 0) (.cst (.int 0))]) (.var 1)), .frz 2, .asg (.sub (.var 0) (.cst (.int 0))) (.bin .fdiv (.sub (.var 0) (.cst (.int 0))) (.var 1)), .ret (some (.mv 2))] [], .asg (.sub (.var 0) (.cst (.int 2))) (.bin .add (.sub (.var 0) (.cst (.int 2))) (.cst (.int 1))), .asg (.nm 3) (.cst (.int 2147483647)), .asg (.nm 4) (.bin .mod (.bi .int [.bin .add (.bin .add (.sub (.var 0) (.cst (.int 1))) (.bin .mul (.cst (.int 104729)) (.sub (.var 0) (.cst (.int 2))))) (.cst (.int 7919))]) (.var 3)), .frz 4, .asg (.nm 4) (.bin .mod (.bi .int [.bin .mul (.var 4) (.cst (.int 48271))]) (.var 3)), .frz 4, .asg (.nm 4) (.bin .mod (.bi .int [.bin .mul (.var 4) (.bin .add (.bin .fdiv (.var 4) (.cst (.int 1009))) (.cst (.int 69621)))]) (.var 3)), .frz 4, .asg (.nm 4) (.bin .mod (.bi .int [.bin .mul (.var 4) (.bin .add (.bin .fdiv (.var 4) (.cst (.int 2003))) (.cst (.int 40692)))]) (.cst (.int 2147483399))), .frz 4, .ret (some (.bin .mod (.bi .int [.bin .fdiv (.var 4) (.cst (.int 7))]) (.var 1)))]
def d__law_next : Fd := ⟨5, 2, [true, true], b__law_next⟩
abbrev i__law_next : Nat := 7
/-- _law_one -/
def b__law_one : List S := [.ret (some (.sub (.var 1) (.call 7 [.var 0, .bi .len [.var 1]] [] [.arg 0, .arg 1])))]
def d__law_one : Fd := ⟨2, 2, [true, true], b__law_one⟩
abbrev i__law_one : Nat := 8
/-- _law_cell_at -/
def b__law_cell_at : List S := [.ret (some (.sub (.bin .add (.slc3 (.var 0) (.var 1) (.bin .add (.var 1) (.cst (.int 1)))) (.lst [.cst (.int 0)])) (.cst (.int 0))))]
def d__law_cell_at : Fd := ⟨2, 2, [true, true], b__law_cell_at⟩
abbrev i__law_cell_at : Nat := 9
/-- _law_symbols -/
def b__law_symbols : List S := [.par [2, 3] [.lst [], .call 7 [.var 0, .cst (.int 3)] [] [.arg 0, .arg 1]], .frz 3, .forr (.nm 4) (.range [.var 1]) [.expr (.mut .append (.var 2) [.var 3]), .asg (.nm 5) (.bi .max2 [.cst (.int 1), .bi .min2 [.cst (.int 90), .bin .fdiv (.bin .sub (.cst (.int 990)) (.var 3)) (.var 1)]]), .frz 5, .asg (.nm 3) (.bin .add (.bin .add (.var 3) (.cst (.int 1))) (.call 7 [.var 0, .frz (.call 8 [.var 0, .frz (.lst [.cst (.int 1), .cst (.int 1), .cst (.int 3), .var 5])] [] [.arg 0, .arg 1])] [] [.arg 0, .arg 1])), .frz 3], .ret (some (.mv 2))]
def d__law_symbols : Fd := ⟨6, 2, [true, true], b__law_symbols⟩
abbrev i__law_symbols : Nat := 10
/-- _law_power -/
def b__law_power : List S := [.ret (some (.bin .shl (.cst (.int 1)) (.var 0)))]
def d__law_power : Fd := ⟨1, 1, [true], b__law_power⟩
abbrev i__law_power : Nat := 11
/-- _law_rows -/
def b__law_rows : List S := [.par [2, 3] [.lst [], .dict [] []], .forr (.nm 4) (.list (.var 0)) [.asg (.nm 5) (.bin .add (.bm .count (.var 0) [.var 4]) (.bm .get2 (.var 3) [.var 4, .cst (.int 0)])), .frz 5, .asg (.sub (.var 3) (.var 4)) (.bin .add (.bm .get2 (.var 3) [.var 4, .cst (.int 0)]) (.cst (.int 1))), .asg (.nm 6) (.cst (.int 0)), .whil (.cmp .le (.call 11 [.bin .add (.var 6) (.cst (.int 1))] [] [.arg 0]) (.var 5)) [.asg (.nm 6) (.bin .add (.var 6) (.cst (.int 1))), .frz 6], .expr (.mut .append (.var 2) [.tup [.var 4, .bin .sub (.var 1) (.var 6), .bin .sub (.bin .mul (.var 5) (.call 11 [.bin .sub (.var 1) (.var 6)] [] [.arg 0])) (.bi .len [.var 0])]])], .ret (some (.mv 2))]
def d__law_rows : Fd := ⟨7, 2, [true, true], b__law_rows⟩
abbrev i__law_rows : Nat := 12
/-- _law_right -/
def b__law_right : List S := [.asg (.nm 2) (.bi .list [.var 0]), .asg (.nm 3) (.new 0 15 [.var 2] [.arg 1]), .frz 3, .expr (.mut .append (.var 2) [.cst (.int 5)]), .asg (.nm 4) (.call 12 [.var 0, .var 1] [] [.arg 0, .arg 1]), .frz 4, .asg (.nm 5) (.meth 0 23 "rows" (.var 3) [] []), .expr (.mut .append (.var 5) [.cst .non]), .asg (.nm 6) (.meth 0 17 "spread" (.var 3) [] []), .expr (.mut .append (.var 6) [.cst (.int 7)]), .iff (.cmp .ne (.meth 0 17 "spread" (.var 3) [] []) (.var 0)) [.ret (some (.cst (.bl false)))] [], .iff (.cmp .ne (.meth 0 18 "size" (.var 3) [] []) (.bi .len [.var 0])) [.ret (some (.cst (.bl false)))] [], .iff (.cmp .ne (.meth 0 19 "bits" (.var 3) [] []) (.var 1)) [.ret (some (.cst (.bl false)))] [], .iff (.cmp .ne (.meth 0 23 "rows" (.var 3) [] []) (.var 4)) [.ret (some (.cst (.bl false)))] [], .iff (.boo false false [.cmp .ne (.lc [10] (.nm 10) (.range [.bi .len [.var 0]]) [] (.meth 0 22 "row" (.var 3) [.var 10] [.arg 1])) (.var 4), .cmp .ne (.meth 0 22 "row" (.var 3) [.cst (.int 0)] [.arg 1]) (.sub (.var 4) (.cst (.int 0)))]) [.ret (some (.cst (.bl false)))] [], .asg (.nm 7) (.meth 0 20 "counts" (.var 3) [] []), .expr (.mut .append (.var 7) [.tup [.cst (.int 1), .cst (.int 1)]]), .iff (.cmp .ne (.meth 0 20 "counts" (.var 3) [] []) (.lc [11] (.nm 11) (.list (.un .sset (.var 0))) [] (.tup [.var 11, .bm .count (.var 0) [.var 11]]))) [.ret (some (.cst (.bl false)))] [], .asg (.nm 8) (.new 0 15 [.var 0] [.arg 1]), .frz 8, .asg (.nm 9) (.new 0 15 [.frz (.rev (.var 0))] [.arg 1]), .frz 9, .iff (.not (.eqo false 0 16 (.var 3) (.var 8))) [.ret (some (.cst (.bl false)))] [], .iff (.not (.cmp .eq (.eqo false 0 16 (.var 3) (.var 9)) (.cmp .eq (.var 0) (.rev (.var 0))))) [.ret (some (.cst (.bl false)))] [], .iff (.not (.eqo true 0 16 (.var 3) (.var 0))) [.ret (some (.cst (.bl false)))] [], .ret (some (.eqo true 0 16 (.var 3) (.frz (.bi .tuple [.var 0]))))]
def d__law_right : Fd := ⟨12, 2, [true, true], b__law_right⟩
abbrev i__law_right : Nat := 13
/-- law -/
def b_law : List S := [.forr (.nm 1) (.list (.bin .add (.lst [.call 9 [.var 0, .cst (.int 0)] [] [.arg 0, .arg 1]]) (.slc3 (.var 0) (.cst (.int 1)) (.cst (.int 5))))) [.asg (.nm 2) (.call 6 [.var 1] [] [.arg 0]), .forr (.nm 3) (.range [.cst (.int 10)]) [.asg (.nm 4) (.bin .add (.cst (.int 1)) (.call 7 [.var 2, .cst (.int 6)] [] [.arg 0, .arg 1])), .frz 4, .asg (.nm 5) (.call 10 [.var 2, .frz (.bin .add (.cst (.int 1)) (.call 7 [.var 2, .cst (.int 8)] [] [.arg 0, .arg 1]))] [] [.arg 0, .arg 1]), .frz 5, .asg (.nm 6) (.lc [7] (.nm 7) (.range [.call 11 [.var 4] [] [.arg 0]]) [] (.call 8 [.var 2, .var 5] [] [.arg 0, .arg 1])), .frz 6, .iff (.not (.call 13 [.frz (.call 8 [.var 2, .frz (.lst [.var 6, .var 6, .bi .sorted [.var 6]])] [] [.arg 0, .arg 1]), .var 4] [] [.arg 0, .arg 1])) [.ret (some (.cst (.bl false)))] []]], .forr (.nm 7) (.range [.cst (.int 81)]) [.iff (.not (.call 13 [.frz (.lst [.bin .mod (.bi .int [.bin .fdiv (.var 7) (.cst (.int 27))]) (.cst (.int 3)), .bin .mod (.bi .int [.bin .fdiv (.var 7) (.cst (.int 9))]) (.cst (.int 3)), .bin .mod (.bi .int [.bin .fdiv (.var 7) (.cst (.int 3))]) (.cst (.int 3)), .bin .mod (.bi .int [.var 7]) (.cst (.int 3))]), .cst (.int 2)] [] [.arg 0, .arg 1])) [.ret (some (.cst (.bl false)))] []], .asg (.nm 8) (.meth 0 23 "rows" (.frz (.new 0 15 [.frz (.lst [.cst (.int 0), .cst (.int 0), .cst (.int 0), .cst (.int 0), .cst (.int 0), .cst (.int 1), .cst (.int 1), .cst (.int 2)])] [.arg 1])) [] []), .frz 8, .ret (some (.cmp .eq (.var 8) (.lst [.tup [.cst (.int 0), .cst (.int 1), .cst (.int 2)], .tup [.cst (.int 0), .cst (.int 1), .cst (.int 4)], .tup [.cst (.int 0), .cst (.int 1), .cst (.int 6)], .tup [.cst (.int 0), .cst (.int 0), .cst (.int 0)], .tup [.cst (.int 0), .cst (.int 0), .cst (.int 1)], .tup [.cst (.int 1), .cst (.int 2), .cst (.int 0)], .tup [.cst (.int 1), .cst (.int 2), .cst (.int 4)], .tup [.cst (.int 2), .cst (.int 3), .cst (.int 0)]])))]
def d_law : Fd := ⟨9, 1, [true], b_law⟩
abbrev i_law : Nat := 14
/-- Table.__init__ -/
def b_Table___init__ : List S := [.expr (.call 4 [.var 1] [] [.arg 0]), .asg (.fld (.var 0) "kept") (.bi .tuple [.var 1]), .asg (.fld (.var 0) "places") (.dict [] []), .asg (.fld (.var 0) "ranks") (.lst []), .forr (.tup [.nm 2, .nm 3]) (.enum (.var 1)) [.asg (.nm 4) (.bm .get2 (.attr (.var 0) "places") [.var 3, .lst []]), .frz 4, .expr (.mut .append (.attr (.var 0) "ranks") [.bi .len [.var 4]]), .asg (.sub (.attr (.var 0) "places") (.var 3)) (.frz (.bin .add (.var 4) (.lst [.var 2])))], .asg (.fld (.var 0) "width") (.bin .sub (.bm .bitlen (.bi .len [.var 1]) []) (.cst (.int 1)))]
def d_Table___init__ : Fd := ⟨5, 2, [true, true], b_Table___init__⟩
abbrev i_Table___init__ : Nat := 15
/-- Table.__eq__ -/
def b_Table___eq__ : List S := [.ret (some (.boo true true [.bi (.isi (.cls 0)) [.var 1], .cmp .eq (.attr (.var 0) "kept") (.attr (.var 1) "kept")]))]
def d_Table___eq__ : Fd := ⟨2, 2, [true, true], b_Table___eq__⟩
abbrev i_Table___eq__ : Nat := 16
/-- Table.spread -/
def b_Table_spread : List S := [.ret (some (.bi .list [.attr (.var 0) "kept"]))]
def d_Table_spread : Fd := ⟨1, 1, [true], b_Table_spread⟩
abbrev i_Table_spread : Nat := 17
/-- Table.size -/
def b_Table_size : List S := [.ret (some (.bi .len [.attr (.var 0) "kept"]))]
def d_Table_size : Fd := ⟨1, 1, [true], b_Table_size⟩
abbrev i_Table_size : Nat := 18
/-- Table.bits -/
def b_Table_bits : List S := [.ret (some (.attr (.var 0) "width"))]
def d_Table_bits : Fd := ⟨1, 1, [true], b_Table_bits⟩
abbrev i_Table_bits : Nat := 19
/-- Table.counts -/
def b_Table_counts : List S := [.ret (some (.lc [1] (.nm 1) (.list (.bi .sorted [.attr (.var 0) "places"])) [] (.tup [.var 1, .bi .len [.sub (.attr (.var 0) "places") (.var 1)]])))]
def d_Table_counts : Fd := ⟨2, 1, [true], b_Table_counts⟩
abbrev i_Table_counts : Nat := 20
/-- Table.row_of -/
def b_Table_row_of : List S := [.asg (.nm 2) (.sub (.attr (.var 0) "kept") (.var 1)), .frz 2, .asg (.nm 3) (.bin .add (.bi .len [.sub (.attr (.var 0) "places") (.var 2)]) (.sub (.attr (.var 0) "ranks") (.var 1))), .frz 3, .asg (.nm 4) (.bin .sub (.attr (.var 0) "width") (.bin .sub (.bm .bitlen (.var 3) []) (.cst (.int 1)))), .frz 4, .ret (some (.tup [.mv 2, .var 4, .bin .sub (.bin .shl (.var 3) (.var 4)) (.bi .len [.attr (.var 0) "kept"])]))]
def d_Table_row_of : Fd := ⟨5, 2, [true, true], b_Table_row_of⟩
abbrev i_Table_row_of : Nat := 21
/-- Table.row -/
def b_Table_row : List S := [.expr (.call 5 [.var 0, .cst (.str "state"), .var 1] [] [.arg 0, .arg 1, .arg 2]), .ret (some (.meth 0 21 "row_of" (.var 0) [.var 1] [.arg 1]))]
def d_Table_row : Fd := ⟨2, 2, [true, true], b_Table_row⟩
abbrev i_Table_row : Nat := 22
/-- Table.rows -/
def b_Table_rows : List S := [.ret (some (.lc [1] (.nm 1) (.range [.bi .len [.attr (.var 0) "kept"]]) [] (.meth 0 21 "row_of" (.var 0) [.var 1] [.arg 1])))]
def d_Table_rows : Fd := ⟨2, 1, [true], b_Table_rows⟩
abbrev i_Table_rows : Nat := 23
def TT : List Fd := [d_is_integer, d_is_between, d_is_symbol, d_is_size, d_check_spread, d_check_state, d__law_source_of, d__law_next, d__law_one, d__law_cell_at, d__law_symbols, d__law_power, d__law_rows, d__law_right, d_law, d_Table___init__, d_Table___eq__, d_Table_spread, d_Table_size, d_Table_bits, d_Table_counts, d_Table_row_of, d_Table_row, d_Table_rows]
def cs : List D := [.int 999, .int 12]
theorem mno_Table___eq__ : decide (("__eq__" : Str) ∉ (["kept", "places", "ranks", "width"] : List Str)) = true := by decide +kernel
theorem mno_Table_spread : decide (("spread" : Str) ∉ (["kept", "places", "ranks", "width"] : List Str)) = true := by decide +kernel
theorem mno_Table_size : decide (("size" : Str) ∉ (["kept", "places", "ranks", "width"] : List Str)) = true := by decide +kernel
theorem mno_Table_bits : decide (("bits" : Str) ∉ (["kept", "places", "ranks", "width"] : List Str)) = true := by decide +kernel
theorem mno_Table_counts : decide (("counts" : Str) ∉ (["kept", "places", "ranks", "width"] : List Str)) = true := by decide +kernel
theorem mno_Table_row_of : decide (("row_of" : Str) ∉ (["kept", "places", "ranks", "width"] : List Str)) = true := by decide +kernel
theorem mno_Table_row : decide (("row" : Str) ∉ (["kept", "places", "ranks", "width"] : List Str)) = true := by decide +kernel
theorem mno_Table_rows : decide (("rows" : Str) ∉ (["kept", "places", "ranks", "width"] : List Str)) = true := by decide +kernel
theorem fne_kept_places : (("kept" : Str) = "places") = False := eq_false (by decide +kernel)
theorem fne_kept_ranks : (("kept" : Str) = "ranks") = False := eq_false (by decide +kernel)
theorem fne_kept_width : (("kept" : Str) = "width") = False := eq_false (by decide +kernel)
theorem fne_places_kept : (("places" : Str) = "kept") = False := eq_false (by decide +kernel)
theorem fne_places_ranks : (("places" : Str) = "ranks") = False := eq_false (by decide +kernel)
theorem fne_places_width : (("places" : Str) = "width") = False := eq_false (by decide +kernel)
theorem fne_ranks_kept : (("ranks" : Str) = "kept") = False := eq_false (by decide +kernel)
theorem fne_ranks_places : (("ranks" : Str) = "places") = False := eq_false (by decide +kernel)
theorem fne_ranks_width : (("ranks" : Str) = "width") = False := eq_false (by decide +kernel)
theorem fne_width_kept : (("width" : Str) = "kept") = False := eq_false (by decide +kernel)
theorem fne_width_places : (("width" : Str) = "places") = False := eq_false (by decide +kernel)
theorem fne_width_ranks : (("width" : Str) = "ranks") = False := eq_false (by decide +kernel)
theorem cs_0 : cs[0]? = some (.int 999) := rfl
theorem cs_1 : cs[1]? = some (.int 12) := rfl
end Pv
namespace Pv
open PySem L2
local macro_rules | `(tactic| walk_at "pv") => `(tactic| simp (implicitDefEqProofs := false) only [mno_Table___eq__, mno_Table_spread, mno_Table_size, mno_Table_bits, mno_Table_counts, mno_Table_row_of, mno_Table_row, mno_Table_rows, fne_kept_places, fne_kept_ranks, fne_kept_width, fne_places_kept, fne_places_ranks, fne_places_width, fne_ranks_kept, fne_ranks_places, fne_ranks_width, fne_width_kept, fne_width_places, fne_width_ranks, cs_0, cs_1, ↓wE_eqo, ↓wA_eqo, ↓wE_tupm, ↓wA_tupm, ↓wE_tupv, ↓wA_tupv, kEqo_e, kEqo2_e, kTupm_e, kTupv_e, d_tupM, ↓wTg_tupm, ↓wE_new, ↓wE_meth, kMeth2_e, kMeth_e, kNewR_e, kNew3_e, kNew2_e, kNew_e, isObj, argM, setFld, fput, fget, attrR, fidx, List.findIdx?_cons, List.findIdx?_nil, eq_self, List.set_nil, kPa_e, kTgF_e, count_I, bitlen_I, slc0_eq, slc1_eq, slc2_eq, revR, cm_eqI_, cm_neI_, cm_eqI0, cm_neI0, un_sitems_MD, un_sset_fz, loose_dct, d_dct, set_lst, bmTy, D.isDct, D.isLst, D.isInt, ↓wE_un, ↓wA_un, kUnp_e, backE, kFr_e, ↓wE_frz, cut_scr, cut_fz, cut_f, List.length_append, ixN_30, ixN_31, ixN_32, Nat.zero_add, cm_neInts, cm_eqInts, cm_nePairs, cm_eqPairs, Bool.false_eq_true, lstq_tm, seqq_tm, flat_rep, Int.zero_add, tDs_map, cm_mem_map, all_true, any_false, wO_ite, rangeI_0, rangeI_int, bi_all_map, bi_any_map, bi_sum_map, bi_sum_fz, enumD_map, List.length_map, ↓wA_mv, ↓wA_cst, ↓wA_glb, ↓wA_neg, ↓wA_not, ↓wA_bin, ↓wA_cmp, ↓wA_chain, ↓wA_boo, ↓wA_ite, ↓wA_tup, ↓wA_lst, ↓wA_dict, ↓wA_sub, ↓wA_slc, ↓wA_slc3, ↓wA_rev, ↓wA_attr, ↓wA_call, ↓wA_meth, ↓wA_new, ↓wA_bi, ↓wA_bm, ↓wA_mut, ↓wA_lc, ↓wA_frz, wk_cs, wCl_w, Nat.reduceAdd, Int.reduceEq, Int.reduceLT, Int.reduceLE, Int.reduceAdd, Int.reduceMul, Int.reduceSub, Int.reduceNeg, Int.reduceToNat, decide_true, decide_false, Nat.reduceEqDiff, Nat.reduceMul, Nat.reduceLeDiff, Nat.reducePow, Int.reducePow, Int.sub_zero, Int.cast_ofNat_Int, ↓wE_var, ↓wE_mv, ↓wE_cst, ↓wE_glb, ↓wE_neg, ↓wE_not, ↓wE_bin, ↓wE_cmp, ↓wE_chain, ↓wE_boo, ↓wB_one, ↓wB_cons, ↓wE_ite, ↓wEs_nil, ↓wEs_cons, ↓wE_tup, ↓wE_lst, ↓wE_dict0, ↓wE_sub, ↓wE_slc, ↓wE_slc3, ↓wE_rev, ↓wE_attr, ↓wE_bi, ↓wE_bm, ↓wE_mut, ↓wE_call, ↓wE_lc, ↓wTs_nil, ↓wTs_cons, ↓wA_var, ↓wAs_nil, ↓wAs_cons, ↓wPl_var, ↓wPl_attr, ↓wPl_sub, ↓wIt_list, ↓wIt_range, ↓wIt_enum, ↓wTg_nm, ↓wTg_tup, ↓wTgs_nil, ↓wTgs_cons, ↓wTg_sub, ↓wTg_fld, ↓wSs_nil, ↓wSs_cons, ↓wS_expr, ↓wS_asg, ↓wS_par, ↓wS_aug, ↓wS_retN, ↓wS_ret, ↓wS_iff, ↓wS_for, ↓wS_while, ↓wS_pass, ↓wS_brk, ↓wS_cont, ↓wS_never, ↓wS_frz, wSrc_e, wO_some, wG_true, wIf_true, wIf_false, wIf_not, wSl_ok, wI_int, kAt_e, kOf_e, kBl_e, kBc_e, kVar_e, kMv_e, kNeg2_e, kNeg_e, kNot2_e, kNot_e, kBin2_e, kBin_e, kCmp2_e, kCmp_e, kCh8_e, kCh7_e, kCh6_e, kCh5_e, kCh4_e, kCh3_e, kCh2_e, kCh1_e, kB3_e, kB2_e, kB_e, kE_e, kIte2_e, kIte_e, kEs2_e, kEs_e, kTup_e, kLst_e, kSub2_e, kSub_e, kSlc_e, kS35_e, kS34_e, kS33_e, kS32_e, kS31_e, kRev_e, kAttr_e, kBi_e, kBm2_e, kBm_e, kPr_e, kMut2_e, kMut_e, kRes_e, kExc_e, kCall3_e, kCall2_e, kCall_e, kLc2_e, kLc_e, kQF_e, kTs3_e, kTs2_e, kTs_e, kAv2_e, kAv3_e, kAv_e, kAo2_e, kAo_e, kAs2_e, kAs_e, kPa_e, kPs2_e, kPs_e, kSrc2_e, kSrc_e, kIl_e, kIr2_e, kIr_e, kIe2_e, kIe_e, kNx_e, kSx_e, kAsg2_e, kAsg_e, kPar_e, kAug4_e, kAug3_e, kAug2_e, kAug1_e, kAug_e, kRet2_e, kRet_e, kSs_e, kIf2_e, kIf_e, kUn_e, kUx_e, kFor_e, kFrz_e, kNxU_e, kTg3_e, kTg2_e, kTg_e, kTgF_e, kTgs_e, kSeq_nx, kSeq_rt, kSeq_bk, kSeq_ct, kF2_nx, kF2_ct, kF2_bk, kF2_rt, kW4_nx, kW4_ct, kW4_bk, kW4_rt, d_fz, toD_fz, tDs_fz, toDs_nil, toDs_cons, toDs_app, toD_lst, d_lst, node_fz, node_lst, node_dct, node_obj, loose_fz, loose_f, loose_lst, sto_fz, sto_f, lstq_fz, lstq_f, lstq_t, seqq_fz, seqq_tup, seqq_f, seqq_t, seqq_scr, m_mk, al_mk, shut_fz, shut_f, shut_t, slShut_t, slShut_f, at0, atS, put_sl, slPut_no, slPut_ok, bin_int, ar_add, ar_sub, ar_mul, ar_fdiv, ar_mod, ar_pow, ar_shl, ar_shr, ar_band, ar_bor, bin_addLL, bin_mulLI, bin_addFF, bin_addLF, bin_addFL, cm_lt, cm_le, cm_gt, cm_ge, cm_eqI, cm_neI, tr_bl, tr_int, tr_lst, fold_bl, bi_len, len_lst, len_tup, len_dct, len_scr, bi_max2, bi_min2, bi_abs, bi_intI, bi_intB, bi_isi, bi_list, bi_tuple, atI_0, atI_1, atI_2, sub_lst, sub_tup, sub_scr, sub_M, wO_mapAt, rng1, rng2, rng3, wCl_k, kEnd_rt, kEnd_nx, kEndX_e, kLoop_nx, kLoop_ct, kLoop_bk, kLoop_rt, kStep_e, kBody_e, kCond_e, kCond2_e, kMapEnd_e, kMap_e, kItem_e, kAcc_e, List.set_cons_zero, List.set_cons_succ, List.map_cons, List.map_nil, List.cons_append, List.nil_append, List.replicate_succ, List.replicate_zero, List.any_cons, List.any_nil, List.length_cons, List.length_nil, List.getElem?_cons_zero, List.getElem?_cons_succ, List.append_nil, Bool.not_true, Bool.not_false, Bool.and_true, Bool.true_and, Bool.and_false, Bool.false_and, Bool.or_false, Bool.false_or, Bool.or_true, Bool.true_or, beq_true, beq_false, wIf_not, pick, takeA, giveA, outsOf, unshut, Option.map_some, Option.map_none, Option.bind_some, tset, tsets, setPar, RV.of, isTy, pureE, pureEs, lenOk_e, List.isEmpty_nil, List.isEmpty_cons, pathOk, lstAt, M.get, M.mod, Env.mod, muF, RV.nl, if_true, if_false, reduceIte, wG_dec, wG_true, wO_bind, kTg3_e, fzD, dflA_e, Option.some.injEq, wipeE, plainAt_eq, plainSl_no, plainSl_fz, List.all_cons, List.all_nil, true_and, and_true, wO_map, E.root])
local macro_rules | `(tactic| walk_at "go") => `(tactic| (refine Cl_succ (by rfl) (by rfl) ?_; simp only [List.map_cons, List.map_nil, List.cons_append, List.nil_append, Nat.reduceSub, Nat.sub_self, List.replicate_succ, List.replicate_zero, b_is_integer, d_is_integer, b_is_between, d_is_between, b_is_symbol, d_is_symbol, b_is_size, d_is_size, b_check_spread, d_check_spread, b_check_state, d_check_state, b__law_source_of, d__law_source_of, b__law_next, d__law_next, b__law_one, d__law_one, b__law_cell_at, d__law_cell_at, b__law_symbols, d__law_symbols, b__law_power, d__law_power, b__law_rows, d__law_rows, b__law_right, d__law_right, b_law, d_law, b_Table___init__, d_Table___init__, b_Table___eq__, d_Table___eq__, b_Table_spread, d_Table_spread, b_Table_size, d_Table_size, b_Table_bits, d_Table_bits, b_Table_counts, d_Table_counts, b_Table_row_of, d_Table_row_of, b_Table_row, d_Table_row, b_Table_rows, d_Table_rows]))
abbrev CL := Cl TT [] cs
section
variable {k : Nat} {Q : QO} {X : XO}
theorem is_integer_int {i : Int} : CL (k + 1) i_is_integer [.fz (.int i)] Q X = Q (.fz (.bl true)) [some (.fz (.int i))] := by
  refine Cl_eq ?_ _ _; intro Q X h; walk_at "go"
  walk_at "pv"
  exact h
theorem is_between_int {v lo hi : Int} : CL (k + 2) i_is_between [.fz (.int v), .fz (.int lo), .fz (.int hi)] Q X = Q (.fz (.bl (decide (lo ≤ v) && decide (v ≤ hi)))) [some (.fz (.int v)), some (.fz (.int lo)), some (.fz (.int hi))] := by
  refine Cl_eq ?_ _ _; intro Q X h; walk_at "go"
  walk_at "pv"
  simp only [is_integer_int]
  walk_at "pv"
  refine wIf_dec (fun h1 => ?_) (fun h1 => ?_)
  · walk_at "pv"; simpa [h1] using h
  · walk_at "pv"; simpa [h1] using h
theorem log_powL {b : Int} {t L : Nat} (h : b.natAbs < 2 ^ L) : (b ^ t).natAbs.log2 ≤ L * t := by
  rw [Int.natAbs_pow]
  by_cases h0 : b.natAbs ^ t = 0
  · rw [h0]; simp
  · have : b.natAbs ^ t ≤ (2 ^ L) ^ t := Nat.pow_le_pow_left (Nat.le_of_lt h) t
    rw [← Nat.pow_mul] at this
    have h2 : (b.natAbs ^ t).log2 < L * t + 1 := (Nat.log2_lt h0).mpr (Nat.lt_of_le_of_lt this (Nat.pow_lt_pow_right (by omega) (by omega)))
    omega
end
section
variable {k : Nat} {Q : QO} {X : XO}
theorem mulOk_s {i j : Int} (h : small64 j = true) : mulOk i j = true := by unfold mulOk; rw [h]; simp
theorem mulOk_l {i j : Int} (h : small64 i = true) : mulOk i j = true := by unfold mulOk; rw [h]; simp
theorem small_ok {i : Int} (h0 : -18446744073709551616 < i) (h1 : i < 18446744073709551616) : small64 i = true := by unfold small64; simp only [Bool.and_eq_true, decide_eq_true_eq]; omega
theorem divOk_s {j : Int} (h0 : 0 < j) (h1 : j < 1073741824) : divOk j = true := by unfold divOk; rw [decide_eq_true h0, decide_eq_true h1]; rfl
/-! the law's own -/
abbrev SRC (a b c : Int) : M := .lst [.fz (.int a), .fz (.int b), .fz (.int c)]
theorem next_ok {a b c many : Int} (h0 : 0 < many) (h1 : many < 1073741824) (h : ∀ r a' b' c', 0 ≤ r → r < many → Q (.fz (.int r)) [some (SRC a' b' c'), some (.fz (.int many))]) :
    CL (k + 1) i__law_next [SRC a b c, .fz (.int many)] Q X := by
  walk_at "go"
  walk_at "pv"
  refine wIf_by (fun h2 => ?_) (fun h2 => ?_)
  · walk_at "pv"
    refine ⟨h0, divOk_s h0 h1, ?_⟩
    exact h _ _ _ _ (Int.emod_nonneg _ (by omega)) (Int.emod_lt_of_pos _ h0)
  · walk_at "pv"
    have sm : ∀ x : Int, small64 (x % 2147483647) = true := fun x => small_ok (by omega) (by omega)
    exact ⟨mulOk_l (by decide), mulOk_s (by decide), by decide, mulOk_l (sm _), by decide, mulOk_l (sm _), by decide, h0, h _ _ _ _ (Int.emod_nonneg _ (by omega)) (Int.emod_lt_of_pos _ h0)⟩
theorem one_ok {a b c : Int} {ds : List D} (h0 : 0 < ds.length) (h1 : ds.length < 1000000) (h : ∀ i (hi : i < ds.length) a' b' c', Q (.fz ds[i]) [some (SRC a' b' c'), some (.fz (.lst ds))]) :
    CL (k + 2) i__law_one [SRC a b c, .fz (.lst ds)] Q X := by
  walk_at "go"
  walk_at "pv"
  refine next_ok (by omega) (by omega) fun r a' b' c' r0 r1 => ?_
  walk_at "pv"
  rw [atI_nat r0 r1]
  walk_at "pv"
  exact h _ _ _ _ _
theorem cell_at_ok {ns : List Int} {i : Int} (hn : ns.length ≤ 63) (h : ∀ z, Q (.fz (.int z)) [some (.fz (.scr ns)), some (.fz (.int i))]) :
    CL (k + 1) i__law_cell_at [.fz (.scr ns), .fz (.int i)] Q X := by
  walk_at "go"
  walk_at "pv"
  have hl := cutL_len (xs := ns) (l := some i) (h := some (i + 1))
  revert hl
  generalize cutL ns (some i) (some (i + 1)) = zs
  intro hl
  refine ⟨by omega, ?_⟩
  rcases zs with _ | ⟨z, zs⟩
  · walk_at "pv"
    exact h 0
  · walk_at "pv"
    exact h z
theorem source_of_ok {z : Int} (h : ∀ a b c, Q (SRC a b c) [none]) : CL (k + 1) i__law_source_of [.fz (.int z)] Q X := by
  walk_at "go"
  have s1 : ∀ b : Bool, small64 (if b = true then 1 else 0) = true := fun b => by cases b <;> decide
  walk_at "pv"
  refine wIf_by (fun h2 => ?_) (fun h2 => ?_)
  · walk_at "pv"
    exact ⟨by decide, mulOk_s (s1 _), h _ _ _⟩
  · walk_at "pv"
    exact ⟨mulOk_l (by decide), by decide, mulOk_s (s1 _), h _ _ _⟩
end
section
variable {k : Nat} {Q : QO} {X : XO}
theorem one_int {a b c : Int} {xs : List Int} (h0 : 0 < xs.length) (h1 : xs.length < 1000000) (h : ∀ v ∈ xs, ∀ a' b' c', Q (.fz (.int v)) [some (SRC a' b' c'), some (.fz (.lst (xs.map .int)))]) :
    CL (k + 2) i__law_one [SRC a b c, .fz (.lst (xs.map .int))] Q X := by
  refine one_ok (by simpa using h0) (by simpa using h1) fun i hi a' b' c' => ?_
  rw [List.getElem_map]
  exact h _ (List.getElem_mem _) _ _ _
/-- symbols in order -/
structure SymOk (ss : List Int) : Prop where
  s : ∀ x ∈ ss, 0 ≤ x ∧ x ≤ 999
  up : ∀ i (h : i + 1 < ss.length), ss[i] < ss[i + 1]
theorem up_app {ss : List Int} {p : Int} (h : ∀ i (h : i + 1 < ss.length), ss[i] < ss[i + 1]) (hp : ∀ x ∈ ss, x < p) : ∀ i (h : i + 1 < (ss ++ [p]).length), (ss ++ [p])[i] < (ss ++ [p])[i + 1] := by
  intro i hi
  rw [List.length_append, List.length_singleton] at hi
  rw [List.getElem_append_left (by omega)]
  rcases Nat.lt_or_ge (i + 1) ss.length with h2 | h2
  · rw [List.getElem_append_left h2]; exact h i h2
  · rw [List.getElem_append_right h2]
    simp only [List.getElem_singleton]
    exact hp _ (List.getElem_mem _)
abbrev MI (ss : List Int) : M := .lst (ss.map fun s => .fz (.int s))
theorem symbols_ok {a b c : Int} {many : Nat} (h0 : 1 ≤ many) (h1 : many ≤ 11) (h : ∀ ss a' b' c', SymOk ss → ss.length = many → Q (MI ss) [some (SRC a' b' c'), some (.fz (.int many))]) :
    CL (k + 3) i__law_symbols [SRC a b c, .fz (.int many)] Q X := by
  walk_at "go"
  walk_at "pv"
  refine next_ok (by omega) (by omega) fun r a b c r0 r1 => ?_
  walk_at "pv"
  refine ⟨ints62_ok (by omega) (by omega), ?_⟩
  refine wF_ix (I := fun j e => ∃ a b c ss place t4 t5, Pln t4 ∧ Pln t5 ∧ ss.length = j ∧ (∀ i (h : i + 1 < ss.length), ss[i] < ss[i + 1]) ∧ (∀ s ∈ ss, 0 ≤ s ∧ s < place ∧ s ≤ 2 + 90 * (many - 1 : Int)) ∧ 0 ≤ place ∧ place ≤ 2 + 90 * (j : Int) ∧
    e = [.ok (SRC a b c) true, .ok (.fz (.int many)) true, .ok (MI ss) true, .ok (.fz (.int place)) true, t4, t5])
    ⟨a, b, c, [], r, .no, .no, .no, .no, rfl, fun i h => by simp at h, fun s h => (nomatch h), r0, by omega, rfl⟩ ?_ ?_
  · rintro j hj e ⟨a, b, c, ss, place, t4, t5, f4, f5, hl, up, hs, p0, p1, rfl⟩
    simp only [List.length_map, List.length_range] at hj
    simp only [List.getElem_map, List.getElem_range]
    walk_at "pv"
    simp only [slPut_pln f4]
    walk_at "pv"
    refine ⟨by omega, ?_⟩
    refine ⟨divOk_s (by omega) (by omega), ?_⟩
    simp only [slPut_pln f5]
    walk_at "pv"
    generalize hg : (if (if (990 - place) / (many : Int) < 90 then (990 - place) / (many : Int) else 90) > 1 then (if (990 - place) / (many : Int) < 90 then (990 - place) / (many : Int) else 90) else 1) = g
    have g0 : 1 ≤ g := by rw [← hg]; split <;> omega
    have g1 : g ≤ 90 := by rw [← hg]; repeat' split <;> omega
    refine one_int (xs := [1, 1, 3, g]) (by simp) (by simp) fun v hv a b c => ?_
    have v0 : 1 ≤ v ∧ v ≤ 90 := by
      simp only [List.mem_cons, List.not_mem_nil, or_false] at hv
      omega
    walk_at "pv"
    refine next_ok (by omega) (by omega) fun r a b c r0 r1 => ?_
    walk_at "pv"
    have e2 : (List.map (fun s => M.fz (D.int s)) ss ++ [M.fz (D.int place)]) = List.map (fun s => M.fz (D.int s)) (ss ++ [place]) := by rw [List.map_append]; rfl
    rw [e2]
    refine ⟨a, b, c, ss ++ [place], place + 1 + r, _, _, Pln.ok, Pln.ok, by rw [List.length_append, hl]; rfl, up_app up fun x hx => (hs x hx).2.1, ?_, by omega, by omega, rfl⟩
    · intro s hm
      rcases List.mem_append.mp hm with hm | hm
      · have := hs s hm; exact ⟨this.1, by omega, this.2.2⟩
      · simp only [List.mem_singleton] at hm; subst hm; exact ⟨p0, by omega, by omega⟩
  · rintro e ⟨a, b, c, ss, place, t4, t5, f4, f5, hl, up, hs, p0, p1, rfl⟩
    simp only [List.length_map, List.length_range, Int.toNat_natCast] at hl
    walk_at "pv"
    refine h ss a b c ⟨fun x hx => ?_, up⟩ hl
    have := hs x hx
    exact ⟨this.1, by omega⟩
end
section
variable {k : Nat} {Q : QO} {X : XO}
abbrev DI (t : List Int) : D := .lst (t.map .int)
/-- a spread of 2 ^ r states -/
structure SprOk (t : List Int) (r : Nat) : Prop where
  l : t.length = 2 ^ r
  r1 : 1 ≤ r
  r2 : r ≤ 12
  s : ∀ x ∈ t, 0 ≤ x ∧ x ≤ 999
theorem is_symbol_int {i : Int} : CL (k + 3) i_is_symbol [.fz (.int i)] Q X = Q (.fz (.bl (decide (0 ≤ i) && decide (i ≤ 999)))) [some (.fz (.int i))] := by
  refine Cl_eq ?_ _ _; intro Q X h; walk_at "go"
  walk_at "pv"
  simp only [is_between_int]
  walk_at "pv"
  exact h
theorem pow12 {r : Nat} (h : r ≤ 12) : 2 ^ r ≤ 4096 := Nat.le_trans (Nat.pow_le_pow_right (by omega) h) (by decide)
theorem is_size_ok {r : Nat} (h1 : 1 ≤ r) (h2 : r ≤ 12) : CL (k + 1) i_is_size [.fz (.int ((2 ^ r : Nat) : Int))] Q X = Q (.fz (.bl true)) [some (.fz (.int ((2 ^ r : Nat) : Int)))] := by
  refine Cl_eq ?_ _ _; intro Q X hq; walk_at "go"
  walk_at "pv"
  refine ⟨by decide, ?_⟩
  refine wLC_map (fun (j : Nat) => .int (1 + (j : Int))) (fun j => .fz (.int (2 ^ (j + 1)))) ?_ (by rfl) (fun j hj => ?_) ?_
  · rw [List.length_range]; omega
  · rw [List.mem_range] at hj
    walk_at "pv"
    refine ⟨?_, ?_⟩
    · exact shlOk_1 (by omega) (by omega)
    · rw [show (1 + (j : Int)).toNat = j + 1 by omega, Int.one_mul]
  · walk_at "pv"
    have : ((List.range 12).any fun j => decide ((2 : Int) ^ (j + 1) = ((2 ^ r : Nat) : Int))) = true := by
      rw [List.any_eq_true]
      exact ⟨r - 1, by rw [List.mem_range]; omega, by rw [show r - 1 + 1 = r by omega]; simp⟩
    rw [this]
    exact hq
theorem check_spread_ok {t : List Int} {r : Nat} (h : SprOk t r) : CL (k + 4) i_check_spread [.fz (DI t)] Q X = Q (.fz .non) [some (.fz (DI t))] := by
  refine Cl_eq ?_ _ _; intro Q X hq; walk_at "go"
  walk_at "pv"
  rw [h.l]
  simp only [is_size_ok h.r1 h.r2]
  walk_at "pv"
  refine wF_ix (I := fun j e => ∃ t1 t2, Pln t1 ∧ Pln t2 ∧ e = [.ok (.fz (DI t)) true, t1, t2]) ⟨.no, .no, .no, .no, rfl⟩ ?_ ?_
  · rintro j hj e ⟨t1, t2, f1, f2, rfl⟩
    simp only [List.length_map, List.length_zipIdx] at hj
    simp only [List.getElem_map, List.getElem_zipIdx]
    walk_at "pv"
    simp only [slPut_pln f1]
    walk_at "pv"
    simp only [slPut_pln f2]
    walk_at "pv"
    simp only [is_symbol_int]
    have hs := h.s t[j] (List.getElem_mem hj)
    walk_at "pv"
    refine wIf_t (by simp; omega) ?_
    walk_at "pv"
    exact ⟨_, _, Pln.ok, Pln.ok, rfl⟩
  · rintro e ⟨t1, t2, f1, f2, rfl⟩
    walk_at "pv"
    exact hq
/-- a table that is being made -/
theorem init_ok {t : List Int} {r : Nat} (h : SprOk t r) (hq : ∀ ps, Plc ps t → Q (.fz .non) [some (.obj 0 ["kept", "places", "ranks", "width"] [.fz (.tup (t.map .int)), MPl ps, MI (rnks t), .fz (.int r)]), some (.fz (DI t))]) :
    CL (k + 5) i_Table___init__ [.obj 0 [] [], .fz (DI t)] Q X := by
  walk_at "go"
  have hl := pow12 h.r2
  have hl2 := h.l
  walk_at "pv"
  simp only [check_spread_ok h]
  walk_at "pv"
  refine ⟨by omega, by decide, by decide, by decide, ?_⟩
  refine wF_ix (I := fun j e => ∃ t2 t3 t4 ps, Pln t2 ∧ Pln t3 ∧ Pln t4 ∧ Plc ps (t.take j) ∧ e = [.ok (.obj 0 ["kept", "places", "ranks"] [.fz (.tup (t.map .int)), MPl ps, MI (rnks (t.take j))]) true, .ok (.fz (DI t)) true, t2, t3, t4]) ⟨.no, .no, .no, [], .no, .no, .no, Plc.nil, rfl⟩ ?_ ?_
  · rintro j hj e ⟨t2, t3, t4, ps, f2, f3, f4, pl, rfl⟩
    simp only [List.length_map, List.length_zipIdx] at hj
    simp only [List.getElem_map, List.getElem_zipIdx]
    walk_at "pv"
    simp only [slPut_pln f2]
    walk_at "pv"
    simp only [slPut_pln f3]
    walk_at "pv"
    have hpl := pl.put t[j]
    have hts : t.take j ++ [t[j]] = t.take (j + 1) := (List.take_succ_eq_append_getElem hj).symm
    have htl : (t.take j).length = j := by rw [List.length_take]; omega
    have hpn := posn_len (t := t.take j) (s := t[j])
    have hct : (t.take j).count t[j] ≤ (t.take j).length := List.count_le_length
    have hpsl := pl.len
    have hmi : MI (rnks (t.take (j + 1))) = .lst ((rnks (t.take j)).map (fun s => M.fz (.int s)) ++ [.fz (.int (((t.take j).count t[j] : Nat) : Int))]) := by
      rw [← hts, rnks_snoc]; show M.lst (List.map _ (_ ++ _)) = _; rw [List.map_append]; rfl
    have hrk := rnks_snoc (t := t.take j) (x := t[j])
    have hrl : (rnks (t.take j)).length = j := by unfold rnks; rw [List.length_map, List.length_range, htl]
    rw [hts] at hpl hrk
    rw [htl] at hpl
    refine get2_Pl pl (fun hm al => ?_) (fun hm => ?_)
    · walk_at "pv"
      simp only [slPut_pln f4]
      walk_at "pv"
      refine ⟨by omega, by omega, ?_⟩
      rw [show (posn (t.take j) t[j]).map D.int ++ [D.int (j : Int)] = (posn (t.take j) t[j] ++ [(j : Int)]).map D.int by rw [List.map_append]; rfl, set_Pl pl.nd (by omega)]
      walk_at "pv"
      rw [hmi, hpn]
      exact ⟨_, _, _, _, Pln.ok, Pln.ok, Pln.ok, hpl, rfl⟩
    · walk_at "pv"
      simp only [slPut_pln f4]
      walk_at "pv"
      rw [posn_none hm] at hpl hpn
      refine ⟨by omega, ?_⟩
      rw [show [D.int (j : Int)] = ([] ++ [(j : Int)]).map D.int from rfl, set_Pl pl.nd (by omega)]
      walk_at "pv"
      rw [hmi, ← hpn]
      exact ⟨_, _, _, _, Pln.ok, Pln.ok, Pln.ok, hpl, rfl⟩
  · rintro e ⟨t2, t3, t4, ps, f2, f3, f4, pl, rfl⟩
    walk_at "pv"
    have hb : Builtin.Int.intBits ((t.length : Nat) : Int) = r + 1 := by
      rw [h.l, bits_nat (Nat.two_pow_pos r), Nat.log2_two_pow]
    rw [List.length_map, List.length_zipIdx, List.take_length] at pl
    rw [List.length_zipIdx, List.take_length, hb, show (((r + 1 : Nat) : Int) - 1) = (r : Int) by omega]
    exact ⟨by decide, hq ps pl⟩
end
section
variable {k : Nat} {Q : QO} {X : XO}
abbrev TABD (t : List Int) (r : Nat) (ps : List (Int × List Int)) : D := .obj 0 ["kept", "places", "ranks", "width"] [.tup (t.map .int), DPl ps, .lst ((rnks t).map .int), .int r]
abbrev rowD (t : List Int) (r j : Nat) : D := .tup [.int (t.getD j 0), .int (rowB t r j), .int ((rowN t j : Int) * 2 ^ rowB t r j - 2 ^ r)]
theorem row_log {t : List Int} {r j : Nat} (h : SprOk t r) (hj : j < t.length) : (rowN t j).log2 ≤ r ∧ 1 ≤ rowN t j := by
  have h1 := rowN_le hj
  have h2 : t.count (t.getD j 0) ≤ t.length := List.count_le_length
  have h3 := h.l
  have h0 : 1 ≤ rowN t j := by omega
  refine ⟨?_, h0⟩
  have : (rowN t j).log2 < r + 1 := (Nat.log2_lt (by omega)).mpr (by rw [Nat.pow_succ]; omega)
  omega
theorem shlOk_big {n L : Nat} {j : Int} (h : 1 ≤ n) (hl : n < 2 ^ L) (h0 : 0 ≤ j) (hj : (L : Int) + j ≤ 100000000) : shlOk ((n : Nat) : Int) j = true := by
  have := (Nat.log2_lt (show n ≠ 0 by omega)).mpr hl
  unfold shlOk
  rw [bits_nat h, decide_eq_true h0, Bool.true_and, Bool.or_eq_true]
  right
  exact decide_eq_true (by omega)
theorem rowB_le {t : List Int} {r j : Nat} (h : SprOk t r) : rowB t r j ≤ 12 := by have := h.r2; unfold rowB; omega
theorem tab_toD {t : List Int} {r : Nat} {ps : List (Int × List Int)} : M.toD (.obj 0 ["kept", "places", "ranks", "width"] [.fz (.tup (t.map .int)), MPl ps, MI (rnks t), .fz (.int r)]) = TABD t r ps := by
  have e1 : M.toDs (ps.map fun p => M.fz (.lst (p.2.map .int))) = ps.map fun p => D.lst (p.2.map .int) := tDs_map
  have e2 : M.toDs ((rnks t).map fun s => M.fz (.int s)) = (rnks t).map .int := tDs_map
  rw [M.toD, toDs_cons, toDs_cons, toDs_cons, toDs_cons, M.toD, M.toD, M.toD, M.toD, e1, e2, toDs_nil]
theorem d_objM {c : Nat} {fs : List Str} {vs : List M} {a : Bool} : RV.d ⟨.obj c fs vs, a⟩ = M.toD (.obj c fs vs) := rfl
theorem cm_ne3 {a b c : Int} {p : Bool → Prop} : wO (cmp2 .ne (.tup [.int a, .int b, .int c]) (.tup [.int a, .int b, .int c])) p = p false := by
  have e : cmp2 .ne (.tup [.int a, .int b, .int c]) (.tup [.int a, .int b, .int c]) = some false := by
    unfold cmp2
    simp [shp, shps, eqD, eqDs]
  rw [e]; rfl
end
section
variable {k : Nat} {Q : QO} {X : XO}
theorem check_state_ok {t : List Int} {r j : Nat} {ps : List (Int × List Int)} {a : D} (h : SprOk t r) (hj : j < t.length) : CL (k + 3) i_check_state [.fz (TABD t r ps), .fz a, .fz (.int j)] Q X = Q (.fz .non) [some (.fz (TABD t r ps)), some (.fz a), some (.fz (.int j))] := by
  refine Cl_eq ?_ _ _; intro Q X hq; walk_at "go"
  walk_at "pv"
  simp only [is_between_int]
  walk_at "pv"
  refine wIf_t (by simp; omega) ?_
  walk_at "pv"
  exact hq
end
section
variable {k : Nat} {Q : QO} {X : XO}
theorem row_of_ok {t : List Int} {r j : Nat} {ps : List (Int × List Int)} (h : SprOk t r) (hp : Plc ps t) (hj : j < t.length) : CL (k + 1) i_Table_row_of [.fz (TABD t r ps), .fz (.int j)] Q X = Q (.fz (rowD t r j)) [some (.fz (TABD t r ps)), some (.fz (.int j))] := by
  refine Cl_eq ?_ _ _; intro Q X hq; walk_at "go"
  have hm : t.getD j 0 ∈ t := by rw [List.getD_eq_getElem?_getD, List.getElem?_eq_getElem hj]; exact List.getElem_mem hj
  have hlg := row_log h hj
  have hl := pow12 h.r2
  have hl2 := h.l
  have hrb := rowB_le (j := j) h
  walk_at "pv"
  rw [atI_getD 0 rfl hj]
  walk_at "pv"
  rw [sub_Pl hp hm]
  walk_at "pv"
  rw [atI_mapN (by rw [rnks_len]; exact hj), rnks_get]
  walk_at "pv"
  rw [posn_len]
  rw [show ((t.count (t.getD j 0) : Nat) : Int) + (((t.take j).count (t.getD j 0) : Nat) : Int) = ((rowN t j : Nat) : Int) by unfold rowN; omega, bits_nat hlg.2]
  rw [show (r : Int) - ((((rowN t j).log2 + 1 : Nat) : Int) - 1) = ((rowB t r j : Nat) : Int) by unfold rowB; omega]
  refine ⟨shlOk_big hlg.2 (L := 14) ?_ (by omega) (by omega), ?_⟩
  · have h1 := rowN_le hj
    have h2 : t.count (t.getD j 0) ≤ t.length := List.count_le_length
    have : (2 : Nat) ^ 14 = 16384 := by decide
    omega
  rw [Int.toNat_natCast, h.l]
  rw [show ((2 ^ r : Nat) : Int) = 2 ^ r by simp]
  exact hq
end
section
variable {k : Nat} {Q : QO} {X : XO}
theorem rows_ok {t : List Int} {r : Nat} {ps : List (Int × List Int)} (h : SprOk t r) (hp : Plc ps t) : CL (k + 2) i_Table_rows [.fz (TABD t r ps)] Q X = Q (.lst ((List.range t.length).map fun j => .fz (rowD t r j))) [some (.fz (TABD t r ps))] := by
  refine Cl_eq ?_ _ _; intro Q X hq; walk_at "go"
  have hl := pow12 h.r2
  have hl2 := h.l
  walk_at "pv"
  refine ⟨ints62_ok (by omega) (by omega), ?_⟩
  refine wLC_map (fun (j : Nat) => .int (j : Int)) (fun j => .fz (rowD t r j)) ?_ (by rfl) (fun j hj => ?_) ?_
  · rw [List.length_range]; omega
  · rw [Int.toNat_natCast, List.mem_range] at hj
    walk_at "pv"
    simp only [mno_Table_row_of, row_of_ok h hp hj]
    walk_at "pv"
  · walk_at "pv"
    rw [Int.toNat_natCast]
    exact hq
end
section
variable {k : Nat} {Q : QO} {X : XO}
theorem lpower_ok {v : Int} {n : Nat} (hv : v = (n : Int)) (h : n ≤ 1000000) : CL (k + 1) i__law_power [.fz (.int v)] Q X = Q (.fz (.int (2 ^ n))) [some (.fz (.int v))] := by
  subst hv
  refine Cl_eq ?_ _ _; intro Q X hq; walk_at "go"
  walk_at "pv"
  refine ⟨shlOk_1 (by omega) (by omega), ?_⟩
  simpa using hq
end
end Pv
namespace Pv
open PySem L2
local macro_rules | `(tactic| walk_at "pv") => `(tactic| simp (implicitDefEqProofs := false) only [mno_Table___eq__, mno_Table_spread, mno_Table_size, mno_Table_bits, mno_Table_counts, mno_Table_row_of, mno_Table_row, mno_Table_rows, fne_kept_places, fne_kept_ranks, fne_kept_width, fne_places_kept, fne_places_ranks, fne_places_width, fne_ranks_kept, fne_ranks_places, fne_ranks_width, fne_width_kept, fne_width_places, fne_width_ranks, cs_0, cs_1, ↓wE_eqo, ↓wA_eqo, ↓wE_tupm, ↓wA_tupm, ↓wE_tupv, ↓wA_tupv, kEqo_e, kEqo2_e, kTupm_e, kTupv_e, d_tupM, ↓wTg_tupm, ↓wE_new, ↓wE_meth, kMeth2_e, kMeth_e, kNewR_e, kNew3_e, kNew2_e, kNew_e, isObj, argM, setFld, fput, fget, attrR, fidx, List.findIdx?_cons, List.findIdx?_nil, eq_self, List.set_nil, kPa_e, kTgF_e, count_I, bitlen_I, slc0_eq, slc1_eq, slc2_eq, revR, cm_eqI_, cm_neI_, cm_eqI0, cm_neI0, un_sitems_MD, un_sset_fz, loose_dct, d_dct, set_lst, bmTy, D.isDct, D.isLst, D.isInt, ↓wE_un, ↓wA_un, kUnp_e, backE, kFr_e, ↓wE_frz, cut_scr, cut_fz, cut_f, List.length_append, ixN_30, ixN_31, ixN_32, Nat.zero_add, cm_neInts, cm_eqInts, cm_nePairs, cm_eqPairs, Bool.false_eq_true, lstq_tm, seqq_tm, flat_rep, Int.zero_add, tDs_map, cm_mem_map, all_true, any_false, wO_ite, rangeI_0, rangeI_int, bi_all_map, bi_any_map, bi_sum_map, bi_sum_fz, enumD_map, List.length_map, ↓wA_mv, ↓wA_cst, ↓wA_glb, ↓wA_neg, ↓wA_not, ↓wA_bin, ↓wA_cmp, ↓wA_chain, ↓wA_boo, ↓wA_ite, ↓wA_tup, ↓wA_lst, ↓wA_dict, ↓wA_sub, ↓wA_slc, ↓wA_slc3, ↓wA_rev, ↓wA_attr, ↓wA_call, ↓wA_meth, ↓wA_new, ↓wA_bi, ↓wA_bm, ↓wA_mut, ↓wA_lc, ↓wA_frz, wk_cs, wCl_w, Nat.reduceAdd, Int.reduceEq, Int.reduceLT, Int.reduceLE, Int.reduceAdd, Int.reduceMul, Int.reduceSub, Int.reduceNeg, Int.reduceToNat, decide_true, decide_false, Nat.reduceEqDiff, Nat.reduceMul, Nat.reduceLeDiff, Nat.reducePow, Int.reducePow, Int.sub_zero, Int.cast_ofNat_Int, ↓wE_var, ↓wE_mv, ↓wE_cst, ↓wE_glb, ↓wE_neg, ↓wE_not, ↓wE_bin, ↓wE_cmp, ↓wE_chain, ↓wE_boo, ↓wB_one, ↓wB_cons, ↓wE_ite, ↓wEs_nil, ↓wEs_cons, ↓wE_tup, ↓wE_lst, ↓wE_dict0, ↓wE_sub, ↓wE_slc, ↓wE_slc3, ↓wE_rev, ↓wE_attr, ↓wE_bi, ↓wE_bm, ↓wE_mut, ↓wE_call, ↓wE_lc, ↓wTs_nil, ↓wTs_cons, ↓wA_var, ↓wAs_nil, ↓wAs_cons, ↓wPl_var, ↓wPl_attr, ↓wPl_sub, ↓wIt_list, ↓wIt_range, ↓wIt_enum, ↓wTg_nm, ↓wTg_tup, ↓wTgs_nil, ↓wTgs_cons, ↓wTg_sub, ↓wTg_fld, ↓wSs_nil, ↓wSs_cons, ↓wS_expr, ↓wS_asg, ↓wS_par, ↓wS_aug, ↓wS_retN, ↓wS_ret, ↓wS_iff, ↓wS_for, ↓wS_while, ↓wS_pass, ↓wS_brk, ↓wS_cont, ↓wS_never, ↓wS_frz, wSrc_e, wO_some, wG_true, wIf_true, wIf_false, wIf_not, wSl_ok, wI_int, kAt_e, kOf_e, kBl_e, kBc_e, kVar_e, kMv_e, kNeg2_e, kNeg_e, kNot2_e, kNot_e, kBin2_e, kBin_e, kCmp2_e, kCmp_e, kCh8_e, kCh7_e, kCh6_e, kCh5_e, kCh4_e, kCh3_e, kCh2_e, kCh1_e, kB3_e, kB2_e, kB_e, kE_e, kIte2_e, kIte_e, kEs2_e, kEs_e, kTup_e, kLst_e, kSub2_e, kSub_e, kSlc_e, kS35_e, kS34_e, kS33_e, kS32_e, kS31_e, kRev_e, kAttr_e, kBi_e, kBm2_e, kBm_e, kPr_e, kMut2_e, kMut_e, kRes_e, kExc_e, kCall3_e, kCall2_e, kCall_e, kLc2_e, kLc_e, kQF_e, kTs3_e, kTs2_e, kTs_e, kAv2_e, kAv3_e, kAv_e, kAo2_e, kAo_e, kAs2_e, kAs_e, kPa_e, kPs2_e, kPs_e, kSrc2_e, kSrc_e, kIl_e, kIr2_e, kIr_e, kIe2_e, kIe_e, kNx_e, kSx_e, kAsg2_e, kAsg_e, kPar_e, kAug4_e, kAug3_e, kAug2_e, kAug1_e, kAug_e, kRet2_e, kRet_e, kSs_e, kIf2_e, kIf_e, kUn_e, kUx_e, kFor_e, kFrz_e, kNxU_e, kTg3_e, kTg2_e, kTg_e, kTgF_e, kTgs_e, kSeq_nx, kSeq_rt, kSeq_bk, kSeq_ct, kF2_nx, kF2_ct, kF2_bk, kF2_rt, kW4_nx, kW4_ct, kW4_bk, kW4_rt, d_fz, toD_fz, tDs_fz, toDs_nil, toDs_cons, toDs_app, toD_lst, d_lst, node_fz, node_lst, node_dct, node_obj, loose_fz, loose_f, loose_lst, sto_fz, sto_f, lstq_fz, lstq_f, lstq_t, seqq_fz, seqq_tup, seqq_f, seqq_t, seqq_scr, m_mk, al_mk, shut_fz, shut_f, shut_t, slShut_t, slShut_f, at0, atS, put_sl, slPut_no, slPut_ok, bin_int, ar_add, ar_sub, ar_mul, ar_fdiv, ar_mod, ar_pow, ar_shl, ar_shr, ar_band, ar_bor, bin_addLL, bin_mulLI, bin_addFF, bin_addLF, bin_addFL, cm_lt, cm_le, cm_gt, cm_ge, cm_eqI, cm_neI, tr_bl, tr_int, tr_lst, fold_bl, bi_len, len_lst, len_tup, len_dct, len_scr, bi_max2, bi_min2, bi_abs, bi_intI, bi_intB, bi_isi, bi_list, bi_tuple, atI_0, atI_1, atI_2, sub_lst, sub_tup, sub_scr, sub_M, wO_mapAt, rng1, rng2, rng3, wCl_k, kEnd_rt, kEnd_nx, kEndX_e, kLoop_nx, kLoop_ct, kLoop_bk, kLoop_rt, kStep_e, kBody_e, kCond_e, kCond2_e, kMapEnd_e, kMap_e, kItem_e, kAcc_e, List.set_cons_zero, List.set_cons_succ, List.map_cons, List.map_nil, List.cons_append, List.nil_append, List.replicate_succ, List.replicate_zero, List.any_cons, List.any_nil, List.length_cons, List.length_nil, List.getElem?_cons_zero, List.getElem?_cons_succ, List.append_nil, Bool.not_true, Bool.not_false, Bool.and_true, Bool.true_and, Bool.and_false, Bool.false_and, Bool.or_false, Bool.false_or, Bool.or_true, Bool.true_or, beq_true, beq_false, wIf_not, pick, takeA, giveA, outsOf, unshut, Option.map_some, Option.map_none, Option.bind_some, tset, tsets, setPar, RV.of, isTy, pureE, pureEs, lenOk_e, List.isEmpty_nil, List.isEmpty_cons, pathOk, lstAt, M.get, M.mod, Env.mod, muF, RV.nl, if_true, if_false, reduceIte, wG_dec, wG_true, wO_bind, kTg3_e, fzD, dflA_e, Option.some.injEq, wipeE, plainAt_eq, plainSl_no, plainSl_fz, List.all_cons, List.all_nil, true_and, and_true, wO_map, E.root])
local macro_rules | `(tactic| walk_at "go") => `(tactic| (refine Cl_succ (by rfl) (by rfl) ?_; simp only [List.map_cons, List.map_nil, List.cons_append, List.nil_append, Nat.reduceSub, Nat.sub_self, List.replicate_succ, List.replicate_zero, b_is_integer, d_is_integer, b_is_between, d_is_between, b_is_symbol, d_is_symbol, b_is_size, d_is_size, b_check_spread, d_check_spread, b_check_state, d_check_state, b__law_source_of, d__law_source_of, b__law_next, d__law_next, b__law_one, d__law_one, b__law_cell_at, d__law_cell_at, b__law_symbols, d__law_symbols, b__law_power, d__law_power, b__law_rows, d__law_rows, b__law_right, d__law_right, b_law, d_law, b_Table___init__, d_Table___init__, b_Table___eq__, d_Table___eq__, b_Table_spread, d_Table_spread, b_Table_size, d_Table_size, b_Table_bits, d_Table_bits, b_Table_counts, d_Table_counts, b_Table_row_of, d_Table_row_of, b_Table_row, d_Table_row, b_Table_rows, d_Table_rows]))
section
variable {k : Nat} {Q : QO} {X : XO}
theorem cm_eqT {t u : List Int} {p : Bool → Prop} : wO (cmp2 .eq (.tup (t.map .int)) (.tup (u.map .int))) p = p (decide (t = u)) := by
  have s1 : ∀ t : List Int, shp 40 (.tup (t.map .int)) = true := fun t => by rw [shp]; exact shps_map fun x _ => shp_int
  rw [cm_eq, s1, s1, eqD_tup]
  have := eqDs_ints (f := id) (g := id) (xs := t) (ys := u)
  rw [List.map_id, List.map_id] at this
  rw [show eqDs (t.map D.int) (u.map D.int) = decide (t = u) from this]
  exact wG_true
theorem tab_eq_ok {t u : List Int} {r q : Nat} {ps qs : List (Int × List Int)} : CL (k + 1) i_Table___eq__ [.fz (TABD t r ps), .fz (TABD u q qs)] Q X = Q (.fz (.bl (decide (t = u)))) [some (.fz (TABD t r ps)), some (.fz (TABD u q qs))] := by
  refine Cl_eq ?_ _ _; intro Q X hq; walk_at "go"
  walk_at "pv"
  rw [cm_eqT]
  walk_at "pv"
  exact hq
/-- != of two tables -/
theorem neo_ok {t u : List Int} {r q : Nat} {ps qs : List (Int × List Int)} {a b : Bool} {Q : RV → Prop} (h : Q ⟨.fz (.bl (!decide (t = u))), false⟩) : wO (eqoF (callN TT [] cs (k + 1)) true 0 i_Table___eq__ ⟨.fz (TABD t r ps), a⟩ ⟨.fz (TABD u q qs), b⟩) Q := by
  refine wO_eqo rfl ?_
  show CL (k + 1) i_Table___eq__ _ _ _
  rw [tab_eq_ok]
  exact ⟨_, rfl, h⟩
theorem eqq_ok {t u : List Int} {r q : Nat} {ps qs : List (Int × List Int)} {a b : Bool} {Q : RV → Prop} (h : Q ⟨.fz (.bl (decide (t = u))), false⟩) : wO (eqoF (callN TT [] cs (k + 1)) false 0 i_Table___eq__ ⟨.fz (TABD t r ps), a⟩ ⟨.fz (TABD u q qs), b⟩) Q := by
  refine wO_eqo (by rfl) ?_
  have := tab_eq_ok (k := k) (t := t) (u := u) (r := r) (q := q) (ps := ps) (qs := qs) (Q := fun m _ => ∃ k, m = .fz (.bl k) ∧ Q ⟨.fz (.bl (if false = true then !k else k)), false⟩) (X := fun _ _ _ => False)
  unfold CL Cl at this
  rw [this]
  exact ⟨_, rfl, h⟩
theorem tab_eq_lst {t : List Int} {r : Nat} {ps : List (Int × List Int)} {ds : List D} : CL (k + 1) i_Table___eq__ [.fz (TABD t r ps), .fz (.lst ds)] Q X = Q (.fz (.bl false)) [some (.fz (TABD t r ps)), some (.fz (.lst ds))] := by
  refine Cl_eq ?_ _ _; intro Q X hq; walk_at "go"
  walk_at "pv"
  exact hq
theorem tab_eq_tup {t : List Int} {r : Nat} {ps : List (Int × List Int)} {ds : List D} : CL (k + 1) i_Table___eq__ [.fz (TABD t r ps), .fz (.tup ds)] Q X = Q (.fz (.bl false)) [some (.fz (TABD t r ps)), some (.fz (.tup ds))] := by
  refine Cl_eq ?_ _ _; intro Q X hq; walk_at "go"
  walk_at "pv"
  exact hq
theorem nel_ok {t : List Int} {r : Nat} {ps : List (Int × List Int)} {ds : List D} {a b : Bool} {Q : RV → Prop} (h : Q ⟨.fz (.bl true), false⟩) : wO (eqoF (callN TT [] cs (k + 1)) true 0 i_Table___eq__ ⟨.fz (TABD t r ps), a⟩ ⟨.fz (.lst ds), b⟩) Q := by
  refine wO_eqo (by rfl) ?_
  show CL (k + 1) i_Table___eq__ _ _ _
  rw [tab_eq_lst]
  exact ⟨_, rfl, h⟩
theorem net_ok {t : List Int} {r : Nat} {ps : List (Int × List Int)} {ds : List D} {a b : Bool} {Q : RV → Prop} (h : Q ⟨.fz (.bl true), false⟩) : wO (eqoF (callN TT [] cs (k + 1)) true 0 i_Table___eq__ ⟨.fz (TABD t r ps), a⟩ ⟨.fz (.tup ds), b⟩) Q := by
  refine wO_eqo (by rfl) ?_
  show CL (k + 1) i_Table___eq__ _ _ _
  rw [tab_eq_tup]
  exact ⟨_, rfl, h⟩
end
section
variable {k : Nat} {Q : QO} {X : XO}
theorem tab_bits_ok {t : List Int} {r : Nat} {ps : List (Int × List Int)} : CL (k + 1) i_Table_bits [.fz (TABD t r ps)] Q X = Q (.fz (.int r)) [some (.fz (TABD t r ps))] := by
  refine Cl_eq ?_ _ _; intro Q X hq; walk_at "go"
  walk_at "pv"
  exact hq
theorem plc_syms {t : List Int} {ps : List (Int × List Int)} (hp : Plc ps t) : syms t = sortI (ps.map (·.1)) := by
  refine sortI_uniq ?_ ((syms_lt t).imp fun h => Int.le_of_lt h)
  rw [List.perm_ext_iff_of_nodup ((syms_lt t).imp fun h => Int.ne_of_lt h) hp.nd]
  intro x
  rw [syms_mem]
  exact (hp.mem x).symm
theorem sorted_Pl {t : List Int} {ps : List (Int × List Int)} {al : Bool} {Q : RV → Prop} (hp : Plc ps t) (hl : ps.length < 64) : wO (biF .sorted [⟨.fz (DPl ps), al⟩]) Q = Q ⟨.lst (((syms t).map D.int).map M.fz), false⟩ := by
  have e1 : ints? ((ps.map fun p => (Sum.inl p.1 : Key)).map keyD) = some (ps.map (·.1)) := by
    rw [List.map_map, show (keyD ∘ fun (p : Int × List Int) => (Sum.inl p.1 : Key)) = (D.int ∘ (·.1)) from rfl, ← List.map_map]; exact ints_map
  have e2 := plc_syms hp
  have e : biF .sorted [⟨.fz (DPl ps), al⟩] = some (.nl ((syms t).map .int)) := by
    unfold biF
    dsimp only
    rw [d_fz]
    dsimp only
    rw [e1]
    dsimp only
    rw [if_pos (decide_eq_true (by rw [List.length_map]; exact hl)), ← e2]
  rw [e]; rfl
theorem counts_ok {t : List Int} {r : Nat} {ps : List (Int × List Int)} (h : SprOk t r) (hp : Plc ps t) (hl : ps.length < 64) : CL (k + 1) i_Table_counts [.fz (TABD t r ps)] Q X = Q (.lst ((nums t).map fun p => .fz (pairD p))) [some (.fz (TABD t r ps))] := by
  refine Cl_eq ?_ _ _; intro Q X hq; walk_at "go"
  have hl12 := pow12 h.r2
  have hll := h.l
  walk_at "pv"
  rw [sorted_Pl hp hl]
  walk_at "pv"
  refine wLC_map D.int (fun s => .fz (pairD (s, ((t.count s : Nat) : Int)))) ?_ (by rfl) (fun s hs => ?_) ?_
  · have h1 : (syms t).length ≤ t.length := by
      rw [plc_syms hp, (sortI_perm _).length_eq, List.length_map]; exact hp.len
    omega
  · walk_at "pv"
    rw [sub_Pl hp (syms_mem.mp hs)]
    walk_at "pv"
    rw [posn_len]
  · walk_at "pv"
    rw [show (nums t).map (fun p => M.fz (pairD p)) = (syms t).map fun s => M.fz (pairD (s, ((t.count s : Nat) : Int))) by rw [List.map_map]; rfl] at hq
    exact hq
end
section
theorem eqDs_self {α : Type} {f : α → D} (h : ∀ x, eqD (f x) (f x) = true) : ∀ xs : List α, eqDs (xs.map f) (xs.map f) = true
  | [] => rfl
  | x :: xs => by rw [List.map_cons, eqDs, h, eqDs_self h xs]; rfl
theorem eqD_3 {a b c : Int} : eqD (.tup [.int a, .int b, .int c]) (.tup [.int a, .int b, .int c]) = true := by simp [eqD, eqDs]
theorem cm_neRows {α : Type} {f g h : α → Int} {xs : List α} {p : Bool → Prop} : wO (cmp2 .ne (.lst (xs.map fun x => .tup [.int (f x), .int (g x), .int (h x)])) (.lst (xs.map fun x => .tup [.int (f x), .int (g x), .int (h x)]))) p = p false := by
  have s : shp 40 (.lst (xs.map fun x => .tup [.int (f x), .int (g x), .int (h x)])) = true := by
    rw [shp]; exact shps_map fun x _ => by simp [shp, shps]
  rw [cm_ne, s, eqD_lst, eqDs_self fun x => eqD_3]
  exact wG_true
theorem cm_eqRows {α : Type} {f g h : α → Int} {xs : List α} {p : Bool → Prop} : wO (cmp2 .eq (.lst (xs.map fun x => .tup [.int (f x), .int (g x), .int (h x)])) (.lst (xs.map fun x => .tup [.int (f x), .int (g x), .int (h x)]))) p = p true := by
  have s : shp 40 (.lst (xs.map fun x => .tup [.int (f x), .int (g x), .int (h x)])) = true := by
    rw [shp]; exact shps_map fun x _ => by simp [shp, shps]
  rw [cm_eq, s, eqD_lst, eqDs_self fun x => eqD_3]
  exact wG_true
theorem cm_eqBl {b : Bool} {p : Bool → Prop} : wO (cmp2 .eq (.bl b) (.bl b)) p = p true := by
  cases b <;> (rw [cm_eq]; simp only [shp, eqD, Bool.and_self, beq_self_eq_true]; exact wG_true)
theorem bi_sortedI {t : List Int} {al : Bool} {Q : RV → Prop} : wO (biF .sorted [⟨.fz (.lst (t.map .int)), al⟩]) Q = wG (lenOk t.length) (Q ⟨.lst (((sortI t).map D.int).map M.fz), false⟩) := by
  have e : biF .sorted [⟨.fz (.lst (t.map .int)), al⟩] = if lenOk t.length then some (.nl ((sortI t).map .int)) else none := by
    unfold biF
    dsimp only
    rw [d_fz]
    dsimp only
    rw [ints_map]
  rw [e]
  cases lenOk t.length with
  | true => exact propext ⟨fun h => ⟨rfl, h⟩, fun h => h.2⟩
  | false => exact propext ⟨fun h => h.elim, fun h => nomatch h.1⟩
theorem mi_snoc {t : List Int} {v : Int} : t.map (fun s => M.fz (.int s)) ++ [.fz (.int v)] = (t ++ [v]).map fun s => M.fz (.int s) := by rw [List.map_append]; rfl
theorem fin_len : ∀ {l m : List Int}, l.Nodup → (∀ x ∈ l, x ∈ m) → l.length ≤ m.length
  | [], m, _, _ => Nat.zero_le _
  | x :: l, m, h, hs => by
    rw [List.nodup_cons] at h
    have hx := hs x (List.mem_cons_self ..)
    have := fin_len (l := l) (m := m.erase x) h.2 fun y hy => by
      have hne : y ≠ x := fun e => h.1 (e ▸ hy)
      exact (List.mem_erase_of_ne hne).mpr (hs y (List.mem_cons_of_mem _ hy))
    rw [List.length_erase_of_mem hx] at this
    have := List.length_pos_of_mem hx
    rw [List.length_cons]
    omega
end
section
variable {k : Nat} {Q : QO} {X : XO}
/-! the same of a list of one's own -/
theorem check_spread_m {t : List Int} {r : Nat} (h : SprOk t r) : CL (k + 4) i_check_spread [MI t] Q X = Q (.fz .non) [some (MI t)] := by
  refine Cl_eq ?_ _ _; intro Q X hq; walk_at "go"
  walk_at "pv"
  rw [h.l]
  simp only [is_size_ok h.r1 h.r2]
  walk_at "pv"
  refine wF_ix (I := fun j e => ∃ t1 t2, Pln t1 ∧ Pln t2 ∧ e = [.ok (MI t) false, t1, t2]) ⟨.no, .no, .no, .no, rfl⟩ ?_ ?_
  · rintro j hj e ⟨t1, t2, f1, f2, rfl⟩
    simp only [List.length_map, List.length_zipIdx] at hj
    simp only [List.getElem_map, List.getElem_zipIdx]
    walk_at "pv"
    simp only [slPut_pln f1]
    walk_at "pv"
    simp only [slPut_pln f2]
    walk_at "pv"
    simp only [is_symbol_int]
    have hs := h.s t[j] (List.getElem_mem hj)
    walk_at "pv"
    refine wIf_t (by simp; omega) ?_
    walk_at "pv"
    exact ⟨_, _, Pln.ok, Pln.ok, rfl⟩
  · rintro e ⟨t1, t2, f1, f2, rfl⟩
    walk_at "pv"
    exact hq
/-- a table that is being made -/
theorem init_m {t : List Int} {r : Nat} (h : SprOk t r) (hq : ∀ ps, Plc ps t → Q (.fz .non) [some (.obj 0 ["kept", "places", "ranks", "width"] [.fz (.tup (t.map .int)), MPl ps, MI (rnks t), .fz (.int r)]), some (MI t)]) :
    CL (k + 5) i_Table___init__ [.obj 0 [] [], MI t] Q X := by
  walk_at "go"
  have hl := pow12 h.r2
  have hl2 := h.l
  walk_at "pv"
  simp only [check_spread_m h]
  walk_at "pv"
  refine ⟨by omega, by decide, by decide, by decide, ?_⟩
  refine wF_ix (I := fun j e => ∃ t2 t3 t4 ps, Pln t2 ∧ Pln t3 ∧ Pln t4 ∧ Plc ps (t.take j) ∧ e = [.ok (.obj 0 ["kept", "places", "ranks"] [.fz (.tup (t.map .int)), MPl ps, MI (rnks (t.take j))]) true, .ok (MI t) false, t2, t3, t4]) ⟨.no, .no, .no, [], .no, .no, .no, Plc.nil, rfl⟩ ?_ ?_
  · rintro j hj e ⟨t2, t3, t4, ps, f2, f3, f4, pl, rfl⟩
    simp only [List.length_map, List.length_zipIdx] at hj
    simp only [List.getElem_map, List.getElem_zipIdx]
    walk_at "pv"
    simp only [slPut_pln f2]
    walk_at "pv"
    simp only [slPut_pln f3]
    walk_at "pv"
    have hpl := pl.put t[j]
    have hts : t.take j ++ [t[j]] = t.take (j + 1) := (List.take_succ_eq_append_getElem hj).symm
    have htl : (t.take j).length = j := by rw [List.length_take]; omega
    have hpn := posn_len (t := t.take j) (s := t[j])
    have hct : (t.take j).count t[j] ≤ (t.take j).length := List.count_le_length
    have hpsl := pl.len
    have hmi : MI (rnks (t.take (j + 1))) = .lst ((rnks (t.take j)).map (fun s => M.fz (.int s)) ++ [.fz (.int (((t.take j).count t[j] : Nat) : Int))]) := by
      rw [← hts, rnks_snoc]; show M.lst (List.map _ (_ ++ _)) = _; rw [List.map_append]; rfl
    have hrk := rnks_snoc (t := t.take j) (x := t[j])
    have hrl : (rnks (t.take j)).length = j := by unfold rnks; rw [List.length_map, List.length_range, htl]
    rw [hts] at hpl hrk
    rw [htl] at hpl
    refine get2_Pl pl (fun hm al => ?_) (fun hm => ?_)
    · walk_at "pv"
      simp only [slPut_pln f4]
      walk_at "pv"
      refine ⟨by omega, by omega, ?_⟩
      rw [show (posn (t.take j) t[j]).map D.int ++ [D.int (j : Int)] = (posn (t.take j) t[j] ++ [(j : Int)]).map D.int by rw [List.map_append]; rfl, set_Pl pl.nd (by omega)]
      walk_at "pv"
      rw [hmi, hpn]
      exact ⟨_, _, _, _, Pln.ok, Pln.ok, Pln.ok, hpl, rfl⟩
    · walk_at "pv"
      simp only [slPut_pln f4]
      walk_at "pv"
      rw [posn_none hm] at hpl hpn
      refine ⟨by omega, ?_⟩
      rw [show [D.int (j : Int)] = ([] ++ [(j : Int)]).map D.int from rfl, set_Pl pl.nd (by omega)]
      walk_at "pv"
      rw [hmi, ← hpn]
      exact ⟨_, _, _, _, Pln.ok, Pln.ok, Pln.ok, hpl, rfl⟩
  · rintro e ⟨t2, t3, t4, ps, f2, f3, f4, pl, rfl⟩
    walk_at "pv"
    have hb : Builtin.Int.intBits ((t.length : Nat) : Int) = r + 1 := by
      rw [h.l, bits_nat (Nat.two_pow_pos r), Nat.log2_two_pow]
    rw [List.length_map, List.length_zipIdx, List.take_length] at pl
    rw [List.length_zipIdx, List.take_length, hb, show (((r + 1 : Nat) : Int) - 1) = (r : Int) by omega]
    exact ⟨by decide, hq ps pl⟩
end
section
variable {k : Nat} {Q : QO} {X : XO}
theorem law_rows_ok {t : List Int} {r : Nat} (h : SprOk t r) : CL (k + 2) i__law_rows [.fz (DI t), .fz (.int r)] Q X = Q (.lst ((List.range t.length).map fun j => .fz (rowD t r j))) [some (.fz (DI t)), some (.fz (.int r))] := by
  refine Cl_eq ?_ _ _; intro Q X hq; walk_at "go"
  have hl12 := pow12 h.r2
  have hll := h.l
  have hr2 := h.r2
  walk_at "pv"
  refine wF_ix (I := fun j e => ∃ t4 t5 t6 ps, Pln t4 ∧ Pln t5 ∧ Pln t6 ∧ Tal ps (t.take j) ∧ e = [.ok (.fz (DI t)) true, .ok (.fz (.int r)) true, .ok (.lst ((List.range j).map fun j => .fz (rowD t r j))) true, .ok (MD ps) true, t4, t5, t6]) ⟨.no, .no, .no, [], .no, .no, .no, Tal.nil, rfl⟩ ?_ ?_
  · rintro j hj e ⟨t3, t4, t5, ps, f3, f4, f5, tal, rfl⟩
    simp only [List.length_map] at hj
    simp only [List.getElem_map]
    have hgd : t.getD j 0 = t[j] := by rw [List.getD_eq_getElem?_getD, List.getElem?_eq_getElem hj]; rfl
    have hlg := row_log h hj
    have hrn := rowN_le hj
    have hrb := rowB_le (j := j) h
    have hct : t.count (t.getD j 0) ≤ t.length := List.count_le_length
    have tal2 := tal.put t[j]
    have hts : t.take j ++ [t[j]] = t.take (j + 1) := (List.take_succ_eq_append_getElem hj).symm
    rw [hts] at tal2
    have hpl := tal.len
    rw [List.length_take] at hpl
    have hdl : dlk ps t[j] 0 = ((t.take j).count t[j] : Nat) := tal.lk _
    walk_at "pv"
    simp only [slPut_pln f3]
    walk_at "pv"
    refine get2_MD fun al => ?_
    walk_at "pv"
    rw [hdl, slPut_pln f4]
    walk_at "pv"
    refine get2_MD fun al => ?_
    walk_at "pv"
    rw [set_MD tal.nd (by omega), hdl]
    rw [hdl] at tal2
    walk_at "pv"
    simp only [slPut_pln f5]
    obtain ⟨n, hn⟩ : ∃ n, n = rowN t j := ⟨_, rfl⟩
    rw [show ((t.count t[j] : Nat) : Int) + (((t.take j).count t[j] : Nat) : Int) = (n : Int) by rw [hn]; unfold rowN; rw [hgd]; omega]
    have hn14 : n < 2 ^ 14 := by
      have : (2 : Nat) ^ 14 = 16384 := by decide
      omega
    have hrb2 : rowB t r j = r - n.log2 := by rw [hn]; rfl
    walk_at "pv"
    refine wW_inv (I := fun m e => ∃ w : Nat, m + w = 20 ∧ w ≤ n.log2 ∧ e = [.ok (.fz (DI t)) true, .ok (.fz (.int r)) true, .ok (.lst ((List.range j).map fun j => .fz (rowD t r j))) true, .ok (MD (pput ps t[j] ((((t.take j).count t[j] : Nat) : Int) + 1))) true, .ok (.fz (.int t[j])) true, .ok (.fz (.int n)) true, .ok (.fz (.int w)) true]) (m := 20) ⟨0, rfl, by omega, rfl⟩ (by rw [WF_eq]; omega) ?_
    rintro m e ⟨w, hm, hw, rfl⟩
    have hnl : n.log2 ≤ r := by rw [hn]; exact hlg.1
    have hw2 : w ≤ r := by omega
    walk_at "pv"
    simp only [lpower_ok (v := (w : Int) + 1) (n := w + 1) (by omega) (by omega)]
    walk_at "pv"
    have hle := Nat.le_log2 (n := n) (k := w + 1) (by omega)
    have hz : (2 : Int) ^ (w + 1) = ((2 ^ (w + 1) : Nat) : Int) := by simp
    refine wIf_dec (fun h1 => ?_) (fun h1 => ?_)
    · rw [hz, Int.ofNat_le] at h1
      walk_at "pv"
      exact ⟨m - 1, by omega, w + 1, by omega, by omega, rfl⟩
    · rw [hz, Int.ofNat_le] at h1
      walk_at "pv"
      have hwe : w = n.log2 := by omega
      simp only [lpower_ok (v := (r : Int) - (w : Int)) (n := rowB t r j) (by omega) (by omega)]
      walk_at "pv"
      have er : M.fz (D.tup [D.int t[j], D.int ((r : Int) - (w : Int)), D.int ((n : Int) * 2 ^ rowB t r j - (t.length : Int))]) = .fz (rowD t r j) := by
        rw [show (r : Int) - (w : Int) = ((rowB t r j : Nat) : Int) by omega, hll, hn, ← hgd, show ((2 ^ r : Nat) : Int) = 2 ^ r by simp]
      rw [er, show ((List.range j).map fun j => M.fz (rowD t r j)) ++ [.fz (rowD t r j)] = (List.range (j + 1)).map fun j => M.fz (rowD t r j) by rw [List.range_succ, List.map_append]; rfl]
      exact ⟨mulOk_l (small_ok (by omega) (by omega)), by rw [List.length_range]; omega, _, _, _, _, Pln.ok, Pln.ok, Pln.ok, tal2, rfl⟩
  · rintro e ⟨t3, t4, t5, ps, f3, f4, f5, tal, rfl⟩
    walk_at "pv"
    exact hq
theorem tab_spread_ok {t : List Int} {r : Nat} {ps : List (Int × List Int)} (h : SprOk t r) : CL (k + 1) i_Table_spread [.fz (TABD t r ps)] Q X = Q (MI t) [some (.fz (TABD t r ps))] := by
  refine Cl_eq ?_ _ _; intro Q X hq; walk_at "go"
  have hl12 := pow12 h.r2
  have hll := h.l
  walk_at "pv"
  refine ⟨by omega, ?_⟩
  rw [show MI t = .lst ((t.map D.int).map M.fz) by rw [List.map_map]; rfl] at hq
  exact hq
theorem tab_size_ok {t : List Int} {r : Nat} {ps : List (Int × List Int)} : CL (k + 1) i_Table_size [.fz (TABD t r ps)] Q X = Q (.fz (.int (t.length : Int))) [some (.fz (TABD t r ps))] := by
  refine Cl_eq ?_ _ _; intro Q X hq; walk_at "go"
  walk_at "pv"
  exact hq
theorem tab_row_ok {t : List Int} {r j : Nat} {ps : List (Int × List Int)} (h : SprOk t r) (hp : Plc ps t) (hj : j < t.length) : CL (k + 4) i_Table_row [.fz (TABD t r ps), .fz (.int j)] Q X = Q (.fz (rowD t r j)) [some (.fz (TABD t r ps)), some (.fz (.int j))] := by
  refine Cl_eq ?_ _ _; intro Q X hq; walk_at "go"
  walk_at "pv"
  simp only [check_state_ok h hj]
  walk_at "pv"
  simp only [mno_Table_row_of, row_of_ok h hp hj]
  walk_at "pv"
  exact hq
theorem cm_neRowD {t : List Int} {r : Nat} {xs : List Nat} {p : Bool → Prop} : wO (cmp2 .ne (.lst (xs.map (rowD t r))) (.lst (xs.map (rowD t r)))) p = p false :=
  cm_neRows (f := fun j => t.getD j 0) (g := fun j => (rowB t r j : Int)) (h := fun j => (rowN t j : Int) * 2 ^ rowB t r j - 2 ^ r)
theorem cm_eqRowD {t : List Int} {r : Nat} {xs : List Nat} {p : Bool → Prop} : wO (cmp2 .eq (.lst (xs.map (rowD t r))) (.lst (xs.map (rowD t r)))) p = p true :=
  cm_eqRows (f := fun j => t.getD j 0) (g := fun j => (rowB t r j : Int)) (h := fun j => (rowN t j : Int) * 2 ^ rowB t r j - 2 ^ r)
theorem right_ok {t : List Int} {r : Nat} (h : SprOk t r) (hr : r ≤ 6) (hsy : ∀ ps, Plc ps t → ps.length < 64) : CL (k + 8) i__law_right [.fz (DI t), .fz (.int r)] Q X = Q (.fz (.bl true)) [some (.fz (DI t)), some (.fz (.int r))] := by
  refine Cl_eq ?_ _ _; intro Q X hq; walk_at "go"
  have hl12 := pow12 h.r2
  have hll := h.l
  have hpos := Nat.two_pow_pos r
  have hl64 : 2 ^ r ≤ 64 := Nat.le_trans (Nat.pow_le_pow_right (by omega) hr) (by decide)
  walk_at "pv"
  refine ⟨by omega, ?_⟩
  rw [show M.lst ((t.map D.int).map M.fz) = MI t by rw [List.map_map]; rfl]
  refine init_m h fun ps hp => ?_
  walk_at "pv"
  simp only [d_objM, tab_toD]
  refine ⟨by omega, ?_⟩
  simp only [law_rows_ok h]
  walk_at "pv"
  simp only [mno_Table_rows, rows_ok h hp]
  walk_at "pv"
  refine ⟨by rw [List.length_range]; omega, ?_⟩
  simp only [mno_Table_spread, tab_spread_ok h]
  walk_at "pv"
  refine ⟨by omega, ?_⟩
  simp only [mno_Table_spread, tab_spread_ok h]
  walk_at "pv"
  simp only [mno_Table_size, tab_size_ok]
  walk_at "pv"
  simp only [mno_Table_bits, tab_bits_ok]
  walk_at "pv"
  simp only [mno_Table_rows, rows_ok h hp]
  walk_at "pv"
  rw [cm_neRowD]
  walk_at "pv"
  refine ⟨ints62_ok (by omega) (by omega), ?_⟩
  rw [Int.toNat_natCast]
  refine wLC_map (fun (j : Nat) => .int (j : Int)) (fun j => .fz (rowD t r j)) (by rw [List.length_range]; omega) (by rfl) (fun j hj => ?_) ?_
  · rw [List.mem_range] at hj
    walk_at "pv"
    simp only [mno_Table_row, tab_row_ok h hp hj]
    walk_at "pv"
  walk_at "pv"
  rw [cm_neRowD]
  walk_at "pv"
  have r0 : ∀ Q X, CL (k + 7) i_Table_row [.fz (TABD t r ps), .fz (.int 0)] Q X = Q (.fz (rowD t r 0)) [some (.fz (TABD t r ps)), some (.fz (.int 0))] := fun Q X => tab_row_ok (j := 0) h hp (by omega)
  simp only [mno_Table_row, r0]
  walk_at "pv"
  rw [show atI (List.map (rowD t r) (List.range t.length)) 0 = some (rowD t r 0) by
    have hz : 0 < ((List.range t.length).map (rowD t r)).length := by rw [List.length_map, List.length_range]; omega
    rw [atI_nat (Int.le_refl 0) (by omega)]
    simp]
  walk_at "pv"
  rw [cm_ne3]
  walk_at "pv"
  simp only [mno_Table_counts, counts_ok h hp (hsy ps hp)]
  walk_at "pv"
  have hsl : (syms t).length < 64 := by
    rw [plc_syms hp, (sortI_perm _).length_eq, List.length_map]
    exact hsy ps hp
  refine ⟨by omega, ?_⟩
  simp only [mno_Table_counts, counts_ok h hp (hsy ps hp)]
  walk_at "pv"
  refine ⟨by omega, ?_⟩
  refine wLC_map D.int (fun s => .fz (pairD (s, ((t.count s : Nat) : Int)))) (by omega) (by rfl) (fun s hs => ?_) ?_
  · walk_at "pv"
  rw [show (syms t).map (fun s => M.fz (pairD (s, ((t.count s : Nat) : Int)))) = (nums t).map fun p => M.fz (pairD p) by rw [List.map_map]; rfl]
  walk_at "pv"
  refine init_ok h fun qs hq2 => ?_
  walk_at "pv"
  simp only [d_objM, tab_toD]
  have hv : SprOk t.reverse r := ⟨by rw [List.length_reverse]; exact hll, h.r1, h.r2, fun x hx => h.s x (List.mem_reverse.mp hx)⟩
  rw [← List.map_reverse]
  refine init_ok hv fun ns hn => ?_
  walk_at "pv"
  simp only [d_objM, tab_toD]
  refine eqq_ok (t := t) (u := t) ?_
  walk_at "pv"
  refine eqq_ok (t := t) (u := t.reverse) ?_
  walk_at "pv"
  rw [← List.map_reverse, cm_eqI_]
  walk_at "pv"
  rw [cm_eqBl]
  walk_at "pv"
  refine nel_ok ?_
  walk_at "pv"
  refine ⟨by omega, ?_⟩
  refine net_ok ?_
  walk_at "pv"
  exact hq
end
end Pv
namespace Pv
open PySem L2
local macro_rules | `(tactic| walk_at "pv") => `(tactic| simp (implicitDefEqProofs := false) only [mno_Table___eq__, mno_Table_spread, mno_Table_size, mno_Table_bits, mno_Table_counts, mno_Table_row_of, mno_Table_row, mno_Table_rows, fne_kept_places, fne_kept_ranks, fne_kept_width, fne_places_kept, fne_places_ranks, fne_places_width, fne_ranks_kept, fne_ranks_places, fne_ranks_width, fne_width_kept, fne_width_places, fne_width_ranks, cs_0, cs_1, ↓wE_eqo, ↓wA_eqo, ↓wE_tupm, ↓wA_tupm, ↓wE_tupv, ↓wA_tupv, kEqo_e, kEqo2_e, kTupm_e, kTupv_e, d_tupM, ↓wTg_tupm, ↓wE_new, ↓wE_meth, kMeth2_e, kMeth_e, kNewR_e, kNew3_e, kNew2_e, kNew_e, isObj, argM, setFld, fput, fget, attrR, fidx, List.findIdx?_cons, List.findIdx?_nil, eq_self, List.set_nil, kPa_e, kTgF_e, count_I, bitlen_I, slc0_eq, slc1_eq, slc2_eq, revR, cm_eqI_, cm_neI_, cm_eqI0, cm_neI0, un_sitems_MD, un_sset_fz, loose_dct, d_dct, set_lst, bmTy, D.isDct, D.isLst, D.isInt, ↓wE_un, ↓wA_un, kUnp_e, backE, kFr_e, ↓wE_frz, cut_scr, cut_fz, cut_f, List.length_append, ixN_30, ixN_31, ixN_32, Nat.zero_add, cm_neInts, cm_eqInts, cm_nePairs, cm_eqPairs, Bool.false_eq_true, lstq_tm, seqq_tm, flat_rep, Int.zero_add, tDs_map, cm_mem_map, all_true, any_false, wO_ite, rangeI_0, rangeI_int, bi_all_map, bi_any_map, bi_sum_map, bi_sum_fz, enumD_map, List.length_map, ↓wA_mv, ↓wA_cst, ↓wA_glb, ↓wA_neg, ↓wA_not, ↓wA_bin, ↓wA_cmp, ↓wA_chain, ↓wA_boo, ↓wA_ite, ↓wA_tup, ↓wA_lst, ↓wA_dict, ↓wA_sub, ↓wA_slc, ↓wA_slc3, ↓wA_rev, ↓wA_attr, ↓wA_call, ↓wA_meth, ↓wA_new, ↓wA_bi, ↓wA_bm, ↓wA_mut, ↓wA_lc, ↓wA_frz, wk_cs, wCl_w, Nat.reduceAdd, Int.reduceEq, Int.reduceLT, Int.reduceLE, Int.reduceAdd, Int.reduceMul, Int.reduceSub, Int.reduceNeg, Int.reduceToNat, decide_true, decide_false, Nat.reduceEqDiff, Nat.reduceMul, Nat.reduceLeDiff, Nat.reducePow, Int.reducePow, Int.sub_zero, Int.cast_ofNat_Int, ↓wE_var, ↓wE_mv, ↓wE_cst, ↓wE_glb, ↓wE_neg, ↓wE_not, ↓wE_bin, ↓wE_cmp, ↓wE_chain, ↓wE_boo, ↓wB_one, ↓wB_cons, ↓wE_ite, ↓wEs_nil, ↓wEs_cons, ↓wE_tup, ↓wE_lst, ↓wE_dict0, ↓wE_sub, ↓wE_slc, ↓wE_slc3, ↓wE_rev, ↓wE_attr, ↓wE_bi, ↓wE_bm, ↓wE_mut, ↓wE_call, ↓wE_lc, ↓wTs_nil, ↓wTs_cons, ↓wA_var, ↓wAs_nil, ↓wAs_cons, ↓wPl_var, ↓wPl_attr, ↓wPl_sub, ↓wIt_list, ↓wIt_range, ↓wIt_enum, ↓wTg_nm, ↓wTg_tup, ↓wTgs_nil, ↓wTgs_cons, ↓wTg_sub, ↓wTg_fld, ↓wSs_nil, ↓wSs_cons, ↓wS_expr, ↓wS_asg, ↓wS_par, ↓wS_aug, ↓wS_retN, ↓wS_ret, ↓wS_iff, ↓wS_for, ↓wS_while, ↓wS_pass, ↓wS_brk, ↓wS_cont, ↓wS_never, ↓wS_frz, wSrc_e, wO_some, wG_true, wIf_true, wIf_false, wIf_not, wSl_ok, wI_int, kAt_e, kOf_e, kBl_e, kBc_e, kVar_e, kMv_e, kNeg2_e, kNeg_e, kNot2_e, kNot_e, kBin2_e, kBin_e, kCmp2_e, kCmp_e, kCh8_e, kCh7_e, kCh6_e, kCh5_e, kCh4_e, kCh3_e, kCh2_e, kCh1_e, kB3_e, kB2_e, kB_e, kE_e, kIte2_e, kIte_e, kEs2_e, kEs_e, kTup_e, kLst_e, kSub2_e, kSub_e, kSlc_e, kS35_e, kS34_e, kS33_e, kS32_e, kS31_e, kRev_e, kAttr_e, kBi_e, kBm2_e, kBm_e, kPr_e, kMut2_e, kMut_e, kRes_e, kExc_e, kCall3_e, kCall2_e, kCall_e, kLc2_e, kLc_e, kQF_e, kTs3_e, kTs2_e, kTs_e, kAv2_e, kAv3_e, kAv_e, kAo2_e, kAo_e, kAs2_e, kAs_e, kPa_e, kPs2_e, kPs_e, kSrc2_e, kSrc_e, kIl_e, kIr2_e, kIr_e, kIe2_e, kIe_e, kNx_e, kSx_e, kAsg2_e, kAsg_e, kPar_e, kAug4_e, kAug3_e, kAug2_e, kAug1_e, kAug_e, kRet2_e, kRet_e, kSs_e, kIf2_e, kIf_e, kUn_e, kUx_e, kFor_e, kFrz_e, kNxU_e, kTg3_e, kTg2_e, kTg_e, kTgF_e, kTgs_e, kSeq_nx, kSeq_rt, kSeq_bk, kSeq_ct, kF2_nx, kF2_ct, kF2_bk, kF2_rt, kW4_nx, kW4_ct, kW4_bk, kW4_rt, d_fz, toD_fz, tDs_fz, toDs_nil, toDs_cons, toDs_app, toD_lst, d_lst, node_fz, node_lst, node_dct, node_obj, loose_fz, loose_f, loose_lst, sto_fz, sto_f, lstq_fz, lstq_f, lstq_t, seqq_fz, seqq_tup, seqq_f, seqq_t, seqq_scr, m_mk, al_mk, shut_fz, shut_f, shut_t, slShut_t, slShut_f, at0, atS, put_sl, slPut_no, slPut_ok, bin_int, ar_add, ar_sub, ar_mul, ar_fdiv, ar_mod, ar_pow, ar_shl, ar_shr, ar_band, ar_bor, bin_addLL, bin_mulLI, bin_addFF, bin_addLF, bin_addFL, cm_lt, cm_le, cm_gt, cm_ge, cm_eqI, cm_neI, tr_bl, tr_int, tr_lst, fold_bl, bi_len, len_lst, len_tup, len_dct, len_scr, bi_max2, bi_min2, bi_abs, bi_intI, bi_intB, bi_isi, bi_list, bi_tuple, atI_0, atI_1, atI_2, sub_lst, sub_tup, sub_scr, sub_M, wO_mapAt, rng1, rng2, rng3, wCl_k, kEnd_rt, kEnd_nx, kEndX_e, kLoop_nx, kLoop_ct, kLoop_bk, kLoop_rt, kStep_e, kBody_e, kCond_e, kCond2_e, kMapEnd_e, kMap_e, kItem_e, kAcc_e, List.set_cons_zero, List.set_cons_succ, List.map_cons, List.map_nil, List.cons_append, List.nil_append, List.replicate_succ, List.replicate_zero, List.any_cons, List.any_nil, List.length_cons, List.length_nil, List.getElem?_cons_zero, List.getElem?_cons_succ, List.append_nil, Bool.not_true, Bool.not_false, Bool.and_true, Bool.true_and, Bool.and_false, Bool.false_and, Bool.or_false, Bool.false_or, Bool.or_true, Bool.true_or, beq_true, beq_false, wIf_not, pick, takeA, giveA, outsOf, unshut, Option.map_some, Option.map_none, Option.bind_some, tset, tsets, setPar, RV.of, isTy, pureE, pureEs, lenOk_e, List.isEmpty_nil, List.isEmpty_cons, pathOk, lstAt, M.get, M.mod, Env.mod, muF, RV.nl, if_true, if_false, reduceIte, wG_dec, wG_true, wO_bind, kTg3_e, fzD, dflA_e, Option.some.injEq, wipeE, plainAt_eq, plainSl_no, plainSl_fz, List.all_cons, List.all_nil, true_and, and_true, wO_map, E.root])
local macro_rules | `(tactic| walk_at "go") => `(tactic| (refine Cl_succ (by rfl) (by rfl) ?_; simp only [List.map_cons, List.map_nil, List.cons_append, List.nil_append, Nat.reduceSub, Nat.sub_self, List.replicate_succ, List.replicate_zero, b_is_integer, d_is_integer, b_is_between, d_is_between, b_is_symbol, d_is_symbol, b_is_size, d_is_size, b_check_spread, d_check_spread, b_check_state, d_check_state, b__law_source_of, d__law_source_of, b__law_next, d__law_next, b__law_one, d__law_one, b__law_cell_at, d__law_cell_at, b__law_symbols, d__law_symbols, b__law_power, d__law_power, b__law_rows, d__law_rows, b__law_right, d__law_right, b_law, d_law, b_Table___init__, d_Table___init__, b_Table___eq__, d_Table___eq__, b_Table_spread, d_Table_spread, b_Table_size, d_Table_size, b_Table_bits, d_Table_bits, b_Table_counts, d_Table_counts, b_Table_row_of, d_Table_row_of, b_Table_row, d_Table_row, b_Table_rows, d_Table_rows]))
section
variable {k : Nat} {Q : QO} {X : XO}
theorem plc_few {t us : List Int} {ps : List (Int × List Int)} (hp : Plc ps t) (h : ∀ x ∈ t, x ∈ us) : ps.length ≤ us.length := by
  have := fin_len hp.nd fun x hx => h x ((hp.mem x).mp hx)
  rwa [List.length_map] at this
theorem law_ok {ns : List Int} (hn : ns.length ≤ 63) (h : ∀ o, Q (.fz (.bl true)) o) : CL 20 i_law [.fz (.scr ns)] Q X := by
  walk_at "go"
  walk_at "pv"
  refine cell_at_ok hn fun z => ?_
  walk_at "pv"
  have hcl := cutL_len (xs := ns) (l := some 1) (h := some 5)
  refine ⟨by omega, ?_⟩
  rw [show (D.int z :: (cutL ns (some 1) (some 5)).map D.int) = (z :: cutL ns (some 1) (some 5)).map D.int from rfl]
  refine wF_map D.int (fun _ e => ∃ t1 t2 t3 t4 t5 t6, Pln t1 ∧ Fre t2 ∧ Pln t3 ∧ Pln t4 ∧ Fre t5 ∧ Fre t6 ∧ e = [.ok (.fz (.scr ns)) true, t1, t2, t3, t4, t5, t6, .no, .no])
    ⟨_, _, _, _, _, _, Pln.no, Fre.no, Pln.no, Pln.no, Fre.no, Fre.no, rfl⟩ ?_ ?_
  · rintro w ws e ⟨t1, t2, t3, t4, t5, t6, f1, f2, f3, f4, f5, f6, rfl⟩
    walk_at "pv"
    simp only [slPut_pln f1]
    walk_at "pv"
    refine source_of_ok fun a b c => ?_
    walk_at "pv"
    simp only [slPut_fre f2]
    walk_at "pv"
    refine ⟨by decide, ?_⟩
    refine wF_ix (I := fun _ e => ∃ a b c t3 t4 t5 t6, Pln t3 ∧ Pln t4 ∧ Fre t5 ∧ Fre t6 ∧ e = [.ok (.fz (.scr ns)) true, .ok (.fz (.int w)) true, .ok (SRC a b c) true, t3, t4, t5, t6, .no, .no])
      ⟨a, b, c, _, _, _, _, f3, f4, f5, f6, rfl⟩ ?_ ?_
    · clear f3 f4 f5 f6
      rintro j hj e ⟨a, b, c, t3, t4, t5, t6, f3, f4, f5, f6, rfl⟩
      simp only [List.length_map, List.length_range] at hj
      simp only [List.getElem_map, List.getElem_range]
      walk_at "pv"
      simp only [slPut_pln f3]
      walk_at "pv"
      refine next_ok (by omega) (by omega) fun r a b c r0 r1 => ?_
      walk_at "pv"
      simp only [slPut_pln f4]
      walk_at "pv"
      refine next_ok (by omega) (by omega) fun m a b c m0 m1 => ?_
      walk_at "pv"
      obtain ⟨mm, hM⟩ : ∃ mm : Nat, 1 + m = (mm : Int) := ⟨(1 + m).toNat, by omega⟩
      obtain ⟨R, hR⟩ : ∃ R : Nat, 1 + r = (R : Int) := ⟨(1 + r).toNat, by omega⟩
      rw [hM, hR]
      refine symbols_ok (by omega) (by omega) fun ss a b c hss hsl => ?_
      have hss2 := hss.s
      walk_at "pv"
      simp only [slPut_fre f5]
      walk_at "pv"
      simp only [lpower_ok (v := (R : Int)) rfl (by omega)]
      walk_at "pv"
      have h64 : 2 ^ R ≤ 64 := Nat.le_trans (Nat.pow_le_pow_right (by omega) (show R ≤ 6 by omega)) (by decide)
      obtain ⟨n, hm⟩ : ∃ m : Nat, m = 2 ^ R := ⟨_, rfl⟩
      rw [← hm] at h64
      rw [show (2 : Int) ^ R = (n : Int) by rw [hm]; simp]
      refine ⟨ints62_ok (by omega) (by omega), ?_⟩
      refine wLC_inv (fun (i : Nat) => .int (i : Int)) (fun ys acc e => ∃ a b c t7 u, Pln t7 ∧ acc = u.map (fun (x : Int) => .fz (.int x)) ∧ u.length + ys.length = n ∧ (∀ x ∈ u, x ∈ ss) ∧ e = [.ok (.fz (.scr ns)) true, .ok (.fz (.int w)) true, .ok (SRC a b c) true, .ok (.fz (.int j)) true, .ok (.fz (.int R)) true, .ok (.fz (DI ss)) true, t6, t7, .no])
        (by simp; omega) ⟨a, b, c, .no, [], Pln.no, rfl, by simp, fun p hp => (nomatch hp), rfl⟩ (by rfl) ?_ ?_
      · rintro s ys acc e ⟨a, b, c, t7, u, f7, rfl, hsn, hu, rfl⟩
        rw [List.length_cons] at hsn
        refine ⟨by simp only [List.all_cons, List.all_nil, plainAt_eq, at0, atS, plainSl_pln f7, Bool.and_self], ?_⟩
        walk_at "pv"
        refine one_int (by omega) (by omega) fun v hv a b c => ?_
        walk_at "pv"
        refine ⟨a, b, c, _, u ++ [v], Pln.ok, mi_snoc, ?_, ?_, rfl⟩
        · rw [List.length_append, List.length_singleton]; omega
        · intro z hz
          rcases List.mem_append.mp hz with hz | hz
          · exact hu z hz
          · rw [List.mem_singleton.mp hz]; exact hv
      · rintro acc e ⟨a, b, c, t7, u, f7, rfl, hsn, hu, rfl⟩
        refine ⟨by simp only [List.all_cons, List.all_nil, plainAt_eq, at0, atS, plainSl_pln f7, Bool.and_self], ?_⟩
        rw [List.length_nil, Nat.add_zero] at hsn
        walk_at "pv"
        simp only [slPut_fre f6]
        walk_at "pv"
        rw [bi_sortedI]
        have hsp : (sortI u).Perm u := sortI_perm u
        have key : ∀ v : List Int, v.length = n → (∀ x ∈ v, x ∈ ss) → SprOk v R ∧ ∀ ps, Plc ps v → ps.length < 64 := fun v hv hs =>
          ⟨⟨by rw [hv, hm], by omega, by omega, fun x hx => hss2 x (hs x hx)⟩, fun ps hp => by have := plc_few hp hs; omega⟩
        have k1 := key u hsn hu
        have k2 := key (sortI u) (by rw [hsp.length_eq]; exact hsn) fun x hx => hu x (hsp.mem_iff.mp hx)
        walk_at "pv"
        refine ⟨by omega, ?_⟩
        refine one_ok (by simp) (by simp) fun i hi a b c => ?_
        obtain ⟨v, hv, v1, v2⟩ : ∃ v : List Int, [D.lst (u.map D.int), D.lst (u.map D.int), D.lst ((sortI u).map D.int)][i] = D.lst (v.map D.int) ∧ SprOk v R ∧ ∀ ps, Plc ps v → ps.length < 64 := by
          simp only [List.length_cons, List.length_nil] at hi
          rcases i with _ | _ | _ | i
          · exact ⟨u, rfl, k1⟩
          · exact ⟨u, rfl, k1⟩
          · exact ⟨sortI u, rfl, k2⟩
          · omega
        rw [hv]
        walk_at "pv"
        simp only [right_ok v1 (by omega) v2]
        walk_at "pv"
        exact ⟨a, b, c, _, _, _, _, Pln.ok, Pln.ok, Fre.ok, Fre.ok, rfl⟩
    · rintro e ⟨a, b, c, t3, t4, t5, t6, f3, f4, f5, f6, rfl⟩
      walk_at "pv"
      exact ⟨_, _, _, _, _, _, Pln.ok, Fre.ok, f3, f4, f5, f6, rfl⟩
  · rintro e ⟨t1, t2, t3, t4, t5, t6, f1, f2, f3, f4, f5, f6, rfl⟩
    walk_at "pv"
    refine ⟨by decide, ?_⟩
    refine wF_ix (I := fun j e => ∃ t7, Pln t7 ∧ e = [.ok (.fz (.scr ns)) true, t1, t2, t3, t4, t5, t6, t7, .no])
      ⟨_, Pln.no, rfl⟩ ?_ ?_
    · rintro j hj e ⟨t7, f7, rfl⟩
      simp only [List.length_map, List.length_range] at hj
      simp only [List.getElem_map, List.getElem_range]
      walk_at "pv"
      simp only [slPut_pln f7]
      walk_at "pv"
      refine ⟨by decide, by decide, by decide, ?_⟩
      have s4 : SprOk [(j : Int) / 27 % 3, (j : Int) / 9 % 3, (j : Int) / 3 % 3, (j : Int) % 3] 2 := ⟨rfl, by decide, by decide, fun x hx => by
        simp only [List.mem_cons, List.not_mem_nil, or_false] at hx
        omega⟩
      rw [show [D.int ((j : Int) / 27 % 3), D.int ((j : Int) / 9 % 3), D.int ((j : Int) / 3 % 3), D.int ((j : Int) % 3)] = [(j : Int) / 27 % 3, (j : Int) / 9 % 3, (j : Int) / 3 % 3, (j : Int) % 3].map D.int from rfl]
      have rr : ∀ Q X, CL 19 i__law_right [.fz (DI [(j : Int) / 27 % 3, (j : Int) / 9 % 3, (j : Int) / 3 % 3, (j : Int) % 3]), .fz (.int 2)] Q X = Q (.fz (.bl true)) [some (.fz (DI [(j : Int) / 27 % 3, (j : Int) / 9 % 3, (j : Int) / 3 % 3, (j : Int) % 3])), some (.fz (.int 2))] := fun Q X => right_ok (r := 2) s4 (by decide) fun ps hp => by have := plc_few hp fun _ h => h; simp at this; omega
      simp only [rr]
      walk_at "pv"
      exact ⟨_, Pln.ok, rfl⟩
    · rintro e ⟨t7, f7, rfl⟩
      walk_at "pv"
      obtain ⟨t0, ht0⟩ : ∃ t : List Int, t = [0, 0, 0, 0, 0, 1, 1, 2] := ⟨_, rfl⟩
      obtain ⟨r0, hr0⟩ : ∃ r : Nat, r = 3 := ⟨_, rfl⟩
      have sp : SprOk t0 r0 := by rw [ht0, hr0]; exact ⟨rfl, by decide, by decide, by decide⟩
      rw [show [D.int 0, D.int 0, D.int 0, D.int 0, D.int 0, D.int 1, D.int 1, D.int 2] = t0.map D.int by rw [ht0]; rfl]
      refine init_ok sp fun ps hp => ?_
      walk_at "pv"
      simp only [d_objM, tab_toD]
      simp only [mno_Table_rows, rows_ok sp hp]
      walk_at "pv"
      have e1 : ((List.range t0.length).map fun j => (t0.getD j 0, (rowB t0 r0 j : Int), (rowN t0 j : Int) * 2 ^ rowB t0 r0 j - 2 ^ r0)) = [(0, 1, 2), (0, 1, 4), (0, 1, 6), (0, 0, 0), (0, 0, 1), (1, 2, 0), (1, 2, 4), (2, 3, 0)] := by
        rw [ht0, hr0]; decide +kernel
      have e2 := congrArg (List.map fun (p : Int × Int × Int) => D.tup [.int p.1, .int p.2.1, .int p.2.2]) e1
      rw [List.map_map] at e2
      have e3 : (List.range t0.length).map (rowD t0 r0) = [D.tup [D.int 0, D.int 1, D.int 2], D.tup [D.int 0, D.int 1, D.int 4], D.tup [D.int 0, D.int 1, D.int 6], D.tup [D.int 0, D.int 0, D.int 0], D.tup [D.int 0, D.int 0, D.int 1], D.tup [D.int 1, D.int 2, D.int 0], D.tup [D.int 1, D.int 2, D.int 4], D.tup [D.int 2, D.int 3, D.int 0]] := e2
      rw [← e3, cm_eqRowD]
      walk_at "pv"
      exact h _
end
theorem law_plain : ∀ ns : List Int, ns.length ≤ 63 → ∃ outs, callN TT [] cs 20 i_law [.fz (.scr ns)] = .ok (.fz (.bl true)) outs := by
  intro ns hn
  have := law_ok (Q := fun m _ => m = .fz (.bl true)) (X := fun _ _ _ => False) hn fun o => rfl
  unfold CL Cl wC at this
  cases h2 : callN TT [] cs 20 i_law [.fz (.scr ns)] with
  | ok m o => rw [h2] at this; exact ⟨o, by rw [this]⟩
  | exc c ds o => rw [h2] at this; exact this.elim
  | stuck => rw [h2] at this; exact this.elim
end Pv
/-! spreadstates_k10_rows_of_tables: the derivations (printed by gen.py). -/
namespace Pv
open PySem PySem.Spec PyProof.Rows L2
def topS (i : Nat) : Stmt := PySem.Challenge.pw_spreadstates_k10_rows_of_tables.main.body.getD i (.Pass ⟨0, 0, 0, 0⟩)
abbrev s0 : Stmt := topS 6
theorem sc0 : FnScope ["value"] ["value"] (defScope s0) := ⟨rfl, rfl, rfl, by decide +kernel, rfl, by decide +kernel, by decide +kernel⟩
abbrev s1 : Stmt := topS 7
theorem sc1 : FnScope ["value", "low", "high"] ["value", "low", "high"] (defScope s1) := ⟨rfl, rfl, rfl, by decide +kernel, rfl, by decide +kernel, by decide +kernel⟩
abbrev s2 : Stmt := topS 11
theorem sc2 : FnScope ["value"] ["value"] (defScope s2) := ⟨rfl, rfl, rfl, by decide +kernel, rfl, by decide +kernel, by decide +kernel⟩
abbrev s3 : Stmt := topS 14
theorem sc3 : FnScope ["value", "bits"] ["value"] (defScope s3) := ⟨rfl, rfl, rfl, by decide +kernel, rfl, by decide +kernel, by decide +kernel⟩
abbrev s4 : Stmt := topS 15
theorem sc4 : FnScope ["value", "at", "item"] ["value"] (defScope s4) := ⟨rfl, rfl, rfl, by decide +kernel, rfl, by decide +kernel, by decide +kernel⟩
abbrev s5 : Stmt := topS 16
theorem sc5 : FnScope ["table", "argument", "value"] ["table", "argument", "value"] (defScope s5) := ⟨rfl, rfl, rfl, by decide +kernel, rfl, by decide +kernel, by decide +kernel⟩
abbrev s6 : Stmt := topS 18
theorem sc6 : FnScope ["_law_cell"] ["_law_cell"] (defScope s6) := ⟨rfl, rfl, rfl, by decide +kernel, rfl, by decide +kernel, by decide +kernel⟩
abbrev s7 : Stmt := topS 19
theorem sc7 : FnScope ["_law_source", "_law_many", "_law_found", "_law_prime", "_law_number"] ["_law_source", "_law_many"] (defScope s7) := ⟨rfl, rfl, rfl, by decide +kernel, rfl, by decide +kernel, by decide +kernel⟩
abbrev s8 : Stmt := topS 20
theorem sc8 : FnScope ["_law_source", "_law_some"] ["_law_source", "_law_some"] (defScope s8) := ⟨rfl, rfl, rfl, by decide +kernel, rfl, by decide +kernel, by decide +kernel⟩
abbrev s9 : Stmt := topS 21
theorem sc9 : FnScope ["_law_script", "_law_index"] ["_law_script", "_law_index"] (defScope s9) := ⟨rfl, rfl, rfl, by decide +kernel, rfl, by decide +kernel, by decide +kernel⟩
abbrev s10 : Stmt := topS 23
theorem sc10 : FnScope ["_law_source", "_law_many", "_law_found", "_law_place", "_law_k", "_law_great"] ["_law_source", "_law_many"] (defScope s10) := ⟨rfl, rfl, rfl, by decide +kernel, rfl, by decide +kernel, by decide +kernel⟩
abbrev s11 : Stmt := topS 24
theorem sc11 : FnScope ["_law_n"] ["_law_n"] (defScope s11) := ⟨rfl, rfl, rfl, by decide +kernel, rfl, by decide +kernel, by decide +kernel⟩
abbrev s12 : Stmt := topS 25
theorem sc12 : FnScope ["_law_spread_here", "_law_bits", "_law_found", "_law_seen", "_law_symbol", "_law_n", "_law_log"] ["_law_spread_here", "_law_bits"] (defScope s12) := ⟨rfl, rfl, rfl, by decide +kernel, rfl, by decide +kernel, by decide +kernel⟩
abbrev s13 : Stmt := topS 26
theorem sc13 : FnScope ["_law_spread_here", "_law_bits", "_law_handed", "_law_table", "_law_rows_here", "_law_heard", "_law_seen", "_law_counts", "_law_other", "_law_turned_here", "_law_k", "_law_one_here"] ["_law_spread_here", "_law_bits"] (defScope s13) := ⟨rfl, rfl, rfl, by decide +kernel, rfl, by decide +kernel, by decide +kernel⟩
abbrev s14 : Stmt := topS 27
theorem sc14 : FnScope ["_law_script", "_law_cell", "_law_source", "_law_turn", "_law_bits", "_law_symbols_here", "_law_spread_here", "_law_k", "_law_rows_here"] ["_law_script"] (defScope s14) := ⟨rfl, rfl, rfl, by decide +kernel, rfl, by decide +kernel, by decide +kernel⟩
abbrev s15 : Stmt := inClass (topS 13) 0
theorem sc15 : FnScope ["self", "spread", "state", "symbol", "places"] ["self", "spread"] (defScope s15) := ⟨rfl, rfl, rfl, by decide +kernel, rfl, by decide +kernel, by decide +kernel⟩
abbrev s16 : Stmt := inClass (topS 13) 1
theorem sc16 : FnScope ["self", "other"] ["self", "other"] (defScope s16) := ⟨rfl, rfl, rfl, by decide +kernel, rfl, by decide +kernel, by decide +kernel⟩
abbrev s17 : Stmt := inClass (topS 13) 2
theorem sc17 : FnScope ["self"] ["self"] (defScope s17) := ⟨rfl, rfl, rfl, by decide +kernel, rfl, by decide +kernel, by decide +kernel⟩
abbrev s18 : Stmt := inClass (topS 13) 3
theorem sc18 : FnScope ["self"] ["self"] (defScope s18) := ⟨rfl, rfl, rfl, by decide +kernel, rfl, by decide +kernel, by decide +kernel⟩
abbrev s19 : Stmt := inClass (topS 13) 4
theorem sc19 : FnScope ["self"] ["self"] (defScope s19) := ⟨rfl, rfl, rfl, by decide +kernel, rfl, by decide +kernel, by decide +kernel⟩
abbrev s20 : Stmt := inClass (topS 13) 5
theorem sc20 : FnScope ["self", "symbol"] ["self"] (defScope s20) := ⟨rfl, rfl, rfl, by decide +kernel, rfl, by decide +kernel, by decide +kernel⟩
abbrev s21 : Stmt := inClass (topS 13) 6
theorem sc21 : FnScope ["self", "state", "symbol", "n", "bits"] ["self", "state"] (defScope s21) := ⟨rfl, rfl, rfl, by decide +kernel, rfl, by decide +kernel, by decide +kernel⟩
abbrev s22 : Stmt := inClass (topS 13) 8
theorem sc22 : FnScope ["self", "state"] ["self", "state"] (defScope s22) := ⟨rfl, rfl, rfl, by decide +kernel, rfl, by decide +kernel, by decide +kernel⟩
abbrev s23 : Stmt := inClass (topS 13) 9
theorem sc23 : FnScope ["self", "state"] ["self"] (defScope s23) := ⟨rfl, rfl, rfl, by decide +kernel, rfl, by decide +kernel, by decide +kernel⟩
def csV : List V := [.int 999, .int 12]
--CUT--
structure Fx (K : PySem.W.Frag) (mg : Str → Option Value) (Γ : Gm) (fd : Nat → FuncData) : Prop where
  F0 : FunD K "is_integer" "is_integer" (defArgs s0) (defBody s0) (defScope s0) [] [] (Γ.fn 0) (fd 0)
  m0 : mg "is_integer" = some (.ref (Γ.fn 0))
  F1 : FunD K "is_between" "is_between" (defArgs s1) (defBody s1) (defScope s1) [] [] (Γ.fn 1) (fd 1)
  m1 : mg "is_between" = some (.ref (Γ.fn 1))
  F2 : FunD K "is_symbol" "is_symbol" (defArgs s2) (defBody s2) (defScope s2) [] [] (Γ.fn 2) (fd 2)
  m2 : mg "is_symbol" = some (.ref (Γ.fn 2))
  F3 : FunD K "is_size" "is_size" (defArgs s3) (defBody s3) (defScope s3) [] [] (Γ.fn 3) (fd 3)
  m3 : mg "is_size" = some (.ref (Γ.fn 3))
  F4 : FunD K "check_spread" "check_spread" (defArgs s4) (defBody s4) (defScope s4) [] [] (Γ.fn 4) (fd 4)
  m4 : mg "check_spread" = some (.ref (Γ.fn 4))
  F5 : FunD K "check_state" "check_state" (defArgs s5) (defBody s5) (defScope s5) [] [] (Γ.fn 5) (fd 5)
  m5 : mg "check_state" = some (.ref (Γ.fn 5))
  F6 : FunD K "_law_source_of" "_law_source_of" (defArgs s6) (defBody s6) (defScope s6) [] [] (Γ.fn 6) (fd 6)
  m6 : mg "_law_source_of" = some (.ref (Γ.fn 6))
  F7 : FunD K "_law_next" "_law_next" (defArgs s7) (defBody s7) (defScope s7) [] [] (Γ.fn 7) (fd 7)
  m7 : mg "_law_next" = some (.ref (Γ.fn 7))
  F8 : FunD K "_law_one" "_law_one" (defArgs s8) (defBody s8) (defScope s8) [] [] (Γ.fn 8) (fd 8)
  m8 : mg "_law_one" = some (.ref (Γ.fn 8))
  F9 : FunD K "_law_cell_at" "_law_cell_at" (defArgs s9) (defBody s9) (defScope s9) [] [] (Γ.fn 9) (fd 9)
  m9 : mg "_law_cell_at" = some (.ref (Γ.fn 9))
  F10 : FunD K "_law_symbols" "_law_symbols" (defArgs s10) (defBody s10) (defScope s10) [] [] (Γ.fn 10) (fd 10)
  m10 : mg "_law_symbols" = some (.ref (Γ.fn 10))
  F11 : FunD K "_law_power" "_law_power" (defArgs s11) (defBody s11) (defScope s11) [] [] (Γ.fn 11) (fd 11)
  m11 : mg "_law_power" = some (.ref (Γ.fn 11))
  F12 : FunD K "_law_rows" "_law_rows" (defArgs s12) (defBody s12) (defScope s12) [] [] (Γ.fn 12) (fd 12)
  m12 : mg "_law_rows" = some (.ref (Γ.fn 12))
  F13 : FunD K "_law_right" "_law_right" (defArgs s13) (defBody s13) (defScope s13) [] [] (Γ.fn 13) (fd 13)
  m13 : mg "_law_right" = some (.ref (Γ.fn 13))
  F14 : FunD K "law" "law" (defArgs s14) (defBody s14) (defScope s14) [] [] (Γ.fn 14) (fd 14)
  m14 : mg "law" = some (.ref (Γ.fn 14))
  F15 : FunD K "__init__" "Table.__init__" (defArgs s15) (defBody s15) (defScope s15) [] [] (Γ.fn 15) (fd 15)
  m15 : Mk K (Γ.cls 0) (Γ.fn 15)
  g_Table : mg "Table" = some (.ref (Γ.cls 0))
  F16 : FunD K "__eq__" "Table.__eq__" (defArgs s16) (defBody s16) (defScope s16) [] [] (Γ.fn 16) (fd 16)
  m16 : Meth K (Γ.cls 0) "__eq__" (Γ.fn 16)
  F17 : FunD K "spread" "Table.spread" (defArgs s17) (defBody s17) (defScope s17) [] [] (Γ.fn 17) (fd 17)
  m17 : Meth K (Γ.cls 0) "spread" (Γ.fn 17)
  F18 : FunD K "size" "Table.size" (defArgs s18) (defBody s18) (defScope s18) [] [] (Γ.fn 18) (fd 18)
  m18 : Meth K (Γ.cls 0) "size" (Γ.fn 18)
  F19 : FunD K "bits" "Table.bits" (defArgs s19) (defBody s19) (defScope s19) [] [] (Γ.fn 19) (fd 19)
  m19 : Meth K (Γ.cls 0) "bits" (Γ.fn 19)
  F20 : FunD K "counts" "Table.counts" (defArgs s20) (defBody s20) (defScope s20) [] [] (Γ.fn 20) (fd 20)
  m20 : Meth K (Γ.cls 0) "counts" (Γ.fn 20)
  F21 : FunD K "row_of" "Table.row_of" (defArgs s21) (defBody s21) (defScope s21) [] [] (Γ.fn 21) (fd 21)
  m21 : Meth K (Γ.cls 0) "row_of" (Γ.fn 21)
  F22 : FunD K "row" "Table.row" (defArgs s22) (defBody s22) (defScope s22) [] [] (Γ.fn 22) (fd 22)
  m22 : Meth K (Γ.cls 0) "row" (Γ.fn 22)
  F23 : FunD K "rows" "Table.rows" (defArgs s23) (defBody s23) (defScope s23) [] [] (Γ.fn 23) (fd 23)
  m23 : Meth K (Γ.cls 0) "rows" (Γ.fn 23)
  b_bool : mg "bool" = none
  b_enumerate : mg "enumerate" = none
  b_int : mg "int" = none
  b_isinstance : mg "isinstance" = none
  b_len : mg "len" = none
  b_list : mg "list" = none
  b_max : mg "max" = none
  b_min : mg "min" = none
  b_range : mg "range" = none
  b_set : mg "set" = none
  b_sorted : mg "sorted" = none
  b_tuple : mg "tuple" = none
  cl : ∀ c, L2.Cls K (Γ.cls c)
  n_kept : ∀ c, NoAttr K (Γ.cls c) "kept"
  n_places : ∀ c, NoAttr K (Γ.cls c) "places"
  n_ranks : ∀ c, NoAttr K (Γ.cls c) "ranks"
  n_width : ∀ c, NoAttr K (Γ.cls c) "width"
  ne0 : NeC K (Γ.cls 0) (Γ.fn 16)
  ic0 : IsiC K (Γ.cls 0)
  if0 : ∀ t, t ∈ (["NoneType", "bool", "int", "str", "list", "tuple", "dict"] : List String) → PySem.W.kitOne K (.type t) (.ref (Γ.cls 0)) = some false
  c0 : ∃ t, mg "MOST_SYMBOL" = some (.int 999 t)
  c1 : ∃ t, mg "MOST_BITS" = some (.int 12 t)
section
variable {P : Program} {w : World} {K : PySem.W.Frag} {mg : Str → Option Value} {base : Heap} {Γ : Gm} {fd : Nat → FuncData} {k : Nat}
def dVf : Nat → Option V := fun n => csV[n]?
theorem dv : DV K Γ cs dVf := ⟨⟨fun n d h v hv H F => by
  match n, h, hv with
  | 0, h, hv => cases h; cases hv; rfl
  | 1, h, hv => cases h; cases hv; rfl
  | n + 2, h, _ => cases h⟩, fun n => by
  match n with
  | 0 => rfl
  | 1 => rfl
  | n + 2 => rfl⟩
theorem p0 (Q : Fx K mg Γ fd) : BSh K (fd 0) ["value"] 1 [] [.arg 0] dVf := .ofB (Q.F0.bindsN fun _ _ _ _ _ _ us hl => match us, hl with | [_], _ => rfl) .nil rfl fun vs xs h e => by
  match vs, h with
  | [a0], _ => cases e; rfl
theorem p1 (Q : Fx K mg Γ fd) : BSh K (fd 1) ["value", "low", "high"] 3 [] [.arg 0, .arg 1, .arg 2] dVf := .ofB (Q.F1.bindsN fun _ _ _ _ _ _ us hl => match us, hl with | [_, _, _], _ => rfl) .nil rfl fun vs xs h e => by
  match vs, h with
  | [a0, a1, a2], _ => cases e; rfl
theorem p2 (Q : Fx K mg Γ fd) : BSh K (fd 2) ["value"] 1 [] [.arg 0] dVf := .ofB (Q.F2.bindsN fun _ _ _ _ _ _ us hl => match us, hl with | [_], _ => rfl) .nil rfl fun vs xs h e => by
  match vs, h with
  | [a0], _ => cases e; rfl
theorem p3 (Q : Fx K mg Γ fd) : BSh K (fd 3) ["value"] 1 [] [.arg 0] dVf := .ofB (Q.F3.bindsN fun _ _ _ _ _ _ us hl => match us, hl with | [_], _ => rfl) .nil rfl fun vs xs h e => by
  match vs, h with
  | [a0], _ => cases e; rfl
theorem p4 (Q : Fx K mg Γ fd) : BSh K (fd 4) ["value"] 1 [] [.arg 0] dVf := .ofB (Q.F4.bindsN fun _ _ _ _ _ _ us hl => match us, hl with | [_], _ => rfl) .nil rfl fun vs xs h e => by
  match vs, h with
  | [a0], _ => cases e; rfl
theorem p5 (Q : Fx K mg Γ fd) : BSh K (fd 5) ["table", "argument", "value"] 3 [] [.arg 0, .arg 1, .arg 2] dVf := .ofB (Q.F5.bindsN fun _ _ _ _ _ _ us hl => match us, hl with | [_, _, _], _ => rfl) .nil rfl fun vs xs h e => by
  match vs, h with
  | [a0, a1, a2], _ => cases e; rfl
theorem p6 (Q : Fx K mg Γ fd) : BSh K (fd 6) ["_law_cell"] 1 [] [.arg 0] dVf := .ofB (Q.F6.bindsN fun _ _ _ _ _ _ us hl => match us, hl with | [_], _ => rfl) .nil rfl fun vs xs h e => by
  match vs, h with
  | [a0], _ => cases e; rfl
theorem p7 (Q : Fx K mg Γ fd) : BSh K (fd 7) ["_law_source", "_law_many"] 2 [] [.arg 0, .arg 1] dVf := .ofB (Q.F7.bindsN fun _ _ _ _ _ _ us hl => match us, hl with | [_, _], _ => rfl) .nil rfl fun vs xs h e => by
  match vs, h with
  | [a0, a1], _ => cases e; rfl
theorem p8 (Q : Fx K mg Γ fd) : BSh K (fd 8) ["_law_source", "_law_some"] 2 [] [.arg 0, .arg 1] dVf := .ofB (Q.F8.bindsN fun _ _ _ _ _ _ us hl => match us, hl with | [_, _], _ => rfl) .nil rfl fun vs xs h e => by
  match vs, h with
  | [a0, a1], _ => cases e; rfl
theorem p9 (Q : Fx K mg Γ fd) : BSh K (fd 9) ["_law_script", "_law_index"] 2 [] [.arg 0, .arg 1] dVf := .ofB (Q.F9.bindsN fun _ _ _ _ _ _ us hl => match us, hl with | [_, _], _ => rfl) .nil rfl fun vs xs h e => by
  match vs, h with
  | [a0, a1], _ => cases e; rfl
theorem p10 (Q : Fx K mg Γ fd) : BSh K (fd 10) ["_law_source", "_law_many"] 2 [] [.arg 0, .arg 1] dVf := .ofB (Q.F10.bindsN fun _ _ _ _ _ _ us hl => match us, hl with | [_, _], _ => rfl) .nil rfl fun vs xs h e => by
  match vs, h with
  | [a0, a1], _ => cases e; rfl
theorem p11 (Q : Fx K mg Γ fd) : BSh K (fd 11) ["_law_n"] 1 [] [.arg 0] dVf := .ofB (Q.F11.bindsN fun _ _ _ _ _ _ us hl => match us, hl with | [_], _ => rfl) .nil rfl fun vs xs h e => by
  match vs, h with
  | [a0], _ => cases e; rfl
theorem p12 (Q : Fx K mg Γ fd) : BSh K (fd 12) ["_law_spread_here", "_law_bits"] 2 [] [.arg 0, .arg 1] dVf := .ofB (Q.F12.bindsN fun _ _ _ _ _ _ us hl => match us, hl with | [_, _], _ => rfl) .nil rfl fun vs xs h e => by
  match vs, h with
  | [a0, a1], _ => cases e; rfl
theorem p13 (Q : Fx K mg Γ fd) : BSh K (fd 13) ["_law_spread_here", "_law_bits"] 2 [] [.arg 0, .arg 1] dVf := .ofB (Q.F13.bindsN fun _ _ _ _ _ _ us hl => match us, hl with | [_, _], _ => rfl) .nil rfl fun vs xs h e => by
  match vs, h with
  | [a0, a1], _ => cases e; rfl
theorem p14 (Q : Fx K mg Γ fd) : BSh K (fd 14) ["_law_script"] 1 [] [.arg 0] dVf := .ofB (Q.F14.bindsN fun _ _ _ _ _ _ us hl => match us, hl with | [_], _ => rfl) .nil rfl fun vs xs h e => by
  match vs, h with
  | [a0], _ => cases e; rfl
theorem p15 (Q : Fx K mg Γ fd) : BSh K (fd 15) ["self", "spread"] 2 [] [.arg 0, .arg 1] dVf := .ofB (Q.F15.bindsN fun _ _ _ _ _ _ us hl => match us, hl with | [_, _], _ => rfl) .nil rfl fun vs xs h e => by
  match vs, h with
  | [a0, a1], _ => cases e; rfl
theorem p16 (Q : Fx K mg Γ fd) : BSh K (fd 16) ["self", "other"] 2 [] [.arg 0, .arg 1] dVf := .ofB (Q.F16.bindsN fun _ _ _ _ _ _ us hl => match us, hl with | [_, _], _ => rfl) .nil rfl fun vs xs h e => by
  match vs, h with
  | [a0, a1], _ => cases e; rfl
theorem p17 (Q : Fx K mg Γ fd) : BSh K (fd 17) ["self"] 1 [] [.arg 0] dVf := .ofB (Q.F17.bindsN fun _ _ _ _ _ _ us hl => match us, hl with | [_], _ => rfl) .nil rfl fun vs xs h e => by
  match vs, h with
  | [a0], _ => cases e; rfl
theorem p18 (Q : Fx K mg Γ fd) : BSh K (fd 18) ["self"] 1 [] [.arg 0] dVf := .ofB (Q.F18.bindsN fun _ _ _ _ _ _ us hl => match us, hl with | [_], _ => rfl) .nil rfl fun vs xs h e => by
  match vs, h with
  | [a0], _ => cases e; rfl
theorem p19 (Q : Fx K mg Γ fd) : BSh K (fd 19) ["self"] 1 [] [.arg 0] dVf := .ofB (Q.F19.bindsN fun _ _ _ _ _ _ us hl => match us, hl with | [_], _ => rfl) .nil rfl fun vs xs h e => by
  match vs, h with
  | [a0], _ => cases e; rfl
theorem p20 (Q : Fx K mg Γ fd) : BSh K (fd 20) ["self"] 1 [] [.arg 0] dVf := .ofB (Q.F20.bindsN fun _ _ _ _ _ _ us hl => match us, hl with | [_], _ => rfl) .nil rfl fun vs xs h e => by
  match vs, h with
  | [a0], _ => cases e; rfl
theorem p21 (Q : Fx K mg Γ fd) : BSh K (fd 21) ["self", "state"] 2 [] [.arg 0, .arg 1] dVf := .ofB (Q.F21.bindsN fun _ _ _ _ _ _ us hl => match us, hl with | [_, _], _ => rfl) .nil rfl fun vs xs h e => by
  match vs, h with
  | [a0, a1], _ => cases e; rfl
theorem p22 (Q : Fx K mg Γ fd) : BSh K (fd 22) ["self", "state"] 2 [] [.arg 0, .arg 1] dVf := .ofB (Q.F22.bindsN fun _ _ _ _ _ _ us hl => match us, hl with | [_, _], _ => rfl) .nil rfl fun vs xs h e => by
  match vs, h with
  | [a0, a1], _ => cases e; rfl
theorem p23 (Q : Fx K mg Γ fd) : BSh K (fd 23) ["self"] 1 [] [.arg 0] dVf := .ofB (Q.F23.bindsN fun _ _ _ _ _ _ us hl => match us, hl with | [_], _ => rfl) .nil rfl fun vs xs h e => by
  match vs, h with
  | [a0], _ => cases e; rfl
theorem bi16 (Q : Fx K mg Γ fd) : Binds K (fd 16) ["self", "other"] [] := Q.F16.bindsN fun _ _ _ _ _ _ us hl => match us, hl with | [_, _], _ => rfl
theorem kw0 (Q : Fx K mg Γ fd) : BSh K (fd 22) ["self", "state"] 1 ["state"] [.arg 0, .arg 1] dVf := by
  obtain ⟨oc, od, dV, kV, doc, pm, an, cdv, ct, osl, e, lk, hcd, hD, hK⟩ := Q.F22.ex
  rcases hD with ⟨_, rfl⟩ | ⟨z, _⟩
  · refine ⟨fun us ws => match us, ws with | [a0], [c0] => [a0, c0] | _, _ => [], fun s us ws kin l1 l2 => ?_, fun vs zs xs us ws l1 l2 r1 r2 hp => ?_⟩
    · match us, l1, ws, l2 with
      | [a0], _, [c0], _ => rw [e]; exact .of_eq rfl
    · match vs, l1, zs, l2 with
      | [va0], _, [vc0], _ =>
        cases hp
        cases r1 with
        | cons q0 r1 =>
        cases r1
        cases r2 with
        | cons t0 r2 =>
        cases r2
        exact .cons q0 (.cons t0 (.nil))
  · exact absurd rfl z
theorem kw1 (Q : Fx K mg Γ fd) : BSh K (fd 15) ["self", "spread"] 1 ["spread"] [.arg 0, .arg 1] dVf := by
  obtain ⟨oc, od, dV, kV, doc, pm, an, cdv, ct, osl, e, lk, hcd, hD, hK⟩ := Q.F15.ex
  rcases hD with ⟨_, rfl⟩ | ⟨z, _⟩
  · refine ⟨fun us ws => match us, ws with | [a0], [c0] => [a0, c0] | _, _ => [], fun s us ws kin l1 l2 => ?_, fun vs zs xs us ws l1 l2 r1 r2 hp => ?_⟩
    · match us, l1, ws, l2 with
      | [a0], _, [c0], _ => rw [e]; exact .of_eq rfl
    · match vs, l1, zs, l2 with
      | [va0], _, [vc0], _ =>
        cases hp
        cases r1 with
        | cons q0 r1 =>
        cases r1
        cases r2 with
        | cons t0 r2 =>
        cases r2
        exact .cons q0 (.cons t0 (.nil))
  · exact absurd rfl z
def dp : Nat → Nat
  | 0 => 0
  | k + 1 => dp k + 1 + 1
structure Fs (P : Program) (w : World) (K : PySem.W.Frag) (mg : Str → Option Value) (base : Heap) (Γ : Gm) (fd : Nat → FuncData) (k : Nat) : Prop where
  f0 : FnOk P w K mg base (L2.CX P w) (dp k) (Γ.fn 0) (fd 0) ["value"] (spI K Γ (callN TT [] cs k) 0)
  f1 : FnOk P w K mg base (L2.CX P w) (dp k) (Γ.fn 1) (fd 1) ["value", "low", "high"] (spI K Γ (callN TT [] cs k) 1)
  f2 : FnOk P w K mg base (L2.CX P w) (dp k) (Γ.fn 2) (fd 2) ["value"] (spI K Γ (callN TT [] cs k) 2)
  f3 : FnOk P w K mg base (L2.CX P w) (dp k) (Γ.fn 3) (fd 3) ["value"] (spI K Γ (callN TT [] cs k) 3)
  f4 : FnOk P w K mg base (L2.CX P w) (dp k) (Γ.fn 4) (fd 4) ["value"] (spI K Γ (callN TT [] cs k) 4)
  f5 : FnOk P w K mg base (L2.CX P w) (dp k) (Γ.fn 5) (fd 5) ["table", "argument", "value"] (spI K Γ (callN TT [] cs k) 5)
  f6 : FnOk P w K mg base (L2.CX P w) (dp k) (Γ.fn 6) (fd 6) ["_law_cell"] (spI K Γ (callN TT [] cs k) 6)
  f7 : FnOk P w K mg base (L2.CX P w) (dp k) (Γ.fn 7) (fd 7) ["_law_source", "_law_many"] (spI K Γ (callN TT [] cs k) 7)
  f8 : FnOk P w K mg base (L2.CX P w) (dp k) (Γ.fn 8) (fd 8) ["_law_source", "_law_some"] (spI K Γ (callN TT [] cs k) 8)
  f9 : FnOk P w K mg base (L2.CX P w) (dp k) (Γ.fn 9) (fd 9) ["_law_script", "_law_index"] (spI K Γ (callN TT [] cs k) 9)
  f10 : FnOk P w K mg base (L2.CX P w) (dp k) (Γ.fn 10) (fd 10) ["_law_source", "_law_many"] (spI K Γ (callN TT [] cs k) 10)
  f11 : FnOk P w K mg base (L2.CX P w) (dp k) (Γ.fn 11) (fd 11) ["_law_n"] (spI K Γ (callN TT [] cs k) 11)
  f12 : FnOk P w K mg base (L2.CX P w) (dp k) (Γ.fn 12) (fd 12) ["_law_spread_here", "_law_bits"] (spI K Γ (callN TT [] cs k) 12)
  f13 : FnOk P w K mg base (L2.CX P w) (dp k) (Γ.fn 13) (fd 13) ["_law_spread_here", "_law_bits"] (spI K Γ (callN TT [] cs k) 13)
  f14 : FnOk P w K mg base (L2.CX P w) (dp k) (Γ.fn 14) (fd 14) ["_law_script"] (spI K Γ (callN TT [] cs k) 14)
  f15 : FnOk P w K mg base (L2.CX P w) (dp k) (Γ.fn 15) (fd 15) ["self", "spread"] (spI K Γ (callN TT [] cs k) 15)
  f16 : FnOk P w K mg base (L2.CX P w) (dp k) (Γ.fn 16) (fd 16) ["self", "other"] (spI K Γ (callN TT [] cs k) 16)
  f17 : FnOk P w K mg base (L2.CX P w) (dp k) (Γ.fn 17) (fd 17) ["self"] (spI K Γ (callN TT [] cs k) 17)
  f18 : FnOk P w K mg base (L2.CX P w) (dp k) (Γ.fn 18) (fd 18) ["self"] (spI K Γ (callN TT [] cs k) 18)
  f19 : FnOk P w K mg base (L2.CX P w) (dp k) (Γ.fn 19) (fd 19) ["self"] (spI K Γ (callN TT [] cs k) 19)
  f20 : FnOk P w K mg base (L2.CX P w) (dp k) (Γ.fn 20) (fd 20) ["self"] (spI K Γ (callN TT [] cs k) 20)
  f21 : FnOk P w K mg base (L2.CX P w) (dp k) (Γ.fn 21) (fd 21) ["self", "state"] (spI K Γ (callN TT [] cs k) 21)
  f22 : FnOk P w K mg base (L2.CX P w) (dp k) (Γ.fn 22) (fd 22) ["self", "state"] (spI K Γ (callN TT [] cs k) 22)
  f23 : FnOk P w K mg base (L2.CX P w) (dp k) (Γ.fn 23) (fd 23) ["self"] (spI K Γ (callN TT [] cs k) 23)
theorem fs_zero : Fs P w K mg base Γ fd 0 := ⟨fn_zero, fn_zero, fn_zero, fn_zero, fn_zero, fn_zero, fn_zero, fn_zero, fn_zero, fn_zero, fn_zero, fn_zero, fn_zero, fn_zero, fn_zero, fn_zero, fn_zero, fn_zero, fn_zero, fn_zero, fn_zero, fn_zero, fn_zero, fn_zero⟩
set_option maxHeartbeats 2000000 in
theorem st0 (Q : Fx K mg Γ fd) (Fk : Fs P w K mg base Γ fd k) : FnOk P w K mg base (L2.CX P w) (dp k + 1 + 1) (Γ.fn 0) (fd 0) ["value"] (spI K Γ (callN TT [] cs (k + 1)) 0) :=
  fn_ok Q.F0 sc0 (fd := d_is_integer) rfl rfl rfl (by decide) (Lio_ok _) fun cdv A outer s H E hr0 tk hp =>
    have hr := Room.mono hr0 (Nat.le_succ (dp k))
    have hu := Room.u65 hr
    have hu1 := Room.u1 hr
    (sss_cons (ss_ret (se_boo (k := true) (sb_cons (k := true) (se_isi (.ty _) isiK_int (by rfl) Q.b_isinstance (se_var rfl (.inl rfl)) (pe_bltn (by rfl) Q.b_int rfl (by rfl))) (sb_one (k := true) (se_not (se_isi (.ty _) isiK_bool (by rfl) Q.b_isinstance (se_var rfl (.inl rfl)) (pe_bltn (by rfl) Q.b_bool rfl (by rfl)))))))) sss_nil)
set_option maxHeartbeats 2000000 in
theorem st1 (Q : Fx K mg Γ fd) (Fk : Fs P w K mg base Γ fd k) : FnOk P w K mg base (L2.CX P w) (dp k + 1 + 1) (Γ.fn 1) (fd 1) ["value", "low", "high"] (spI K Γ (callN TT [] cs (k + 1)) 1) :=
  fn_ok Q.F1 sc1 (fd := d_is_between) rfl rfl rfl (by decide) (Lio_ok _) fun cdv A outer s H E hr0 tk hp =>
    have hr := Room.mono hr0 (Nat.le_succ (dp k))
    have hu := Room.u65 hr
    have hu1 := Room.u1 hr
    (sss_cons (ss_ret (se_boo (k := true) (sb_cons (k := true) (se_call ⟨Fk.f0, Q.m0, Q.F0.kp⟩ hr (by rfl) (p0 Q) tk dv (by decide) (sg_cons (sg_var rfl (.inl rfl)) sg_nil) rfl) (sb_one (k := true) (se_chain (o := .le) (p := .le) hu (se_var rfl (.inl rfl)) (se_var rfl (.inl rfl)) (se_var rfl (.inl rfl))))))) sss_nil)
set_option maxHeartbeats 2000000 in
theorem st2 (Q : Fx K mg Γ fd) (Fk : Fs P w K mg base Γ fd k) : FnOk P w K mg base (L2.CX P w) (dp k + 1 + 1) (Γ.fn 2) (fd 2) ["value"] (spI K Γ (callN TT [] cs (k + 1)) 2) :=
  fn_ok Q.F2 sc2 (fd := d_is_symbol) rfl rfl rfl (by decide) (Lio_ok _) fun cdv A outer s H E hr0 tk hp =>
    have hr := Room.mono hr0 (Nat.le_succ (dp k))
    have hu := Room.u65 hr
    have hu1 := Room.u1 hr
    (sss_cons (ss_ret (se_call ⟨Fk.f1, Q.m1, Q.F1.kp⟩ hr (by rfl) (p1 Q) tk dv (by decide) (sg_cons (sg_var rfl (.inl rfl)) (sg_cons (sg_e se_int) (sg_cons (sg_e (se_glb (pe_glob (v := .int 999) (by rfl) Q.c0.choose_spec ⟨_, rfl⟩) rfl fun _ _ => rfl)) sg_nil))) rfl)) sss_nil)
set_option maxHeartbeats 2000000 in
theorem st3 (Q : Fx K mg Γ fd) (Fk : Fs P w K mg base Γ fd k) : FnOk P w K mg base (L2.CX P w) (dp k + 1 + 1) (Γ.fn 3) (fd 3) ["value"] (spI K Γ (callN TT [] cs (k + 1)) 3) :=
  fn_ok Q.F3 sc3 (fd := d_is_size) rfl rfl rfl (by decide) (Lio_ok _) fun cdv A outer s H E hr0 tk hp =>
    have hr := Room.mono hr0 (Nat.le_succ (dp k))
    have hu := Room.u65 hr
    have hu1 := Room.u1 hr
    (sss_cons (ss_ret (se_cmp (o := .mem) hu (se_var rfl (.inl rfl)) (se_lc (own := [("bits", 1)]) rfl sc3.nd (si_range2 (by rfl) Q.b_range se_int (se_bin (o := .add) (se_glb (pe_glob (v := .int 12) (by rfl) Q.c1.choose_spec ⟨_, rfl⟩) rfl fun _ _ => rfl) se_int)) (blkOk_by (by rfl)) (fun _ _ _ _ _ => (sg_name sc3.nd rfl (.inl rfl) rfl)) (fun _ _ _ _ _ => sts_nil) (fun _ _ _ _ _ => (se_bin (o := .shl) se_int (se_var rfl (.inl rfl)))) (by decide)))) sss_nil)
set_option maxHeartbeats 2000000 in
theorem st4 (Q : Fx K mg Γ fd) (Fk : Fs P w K mg base Γ fd k) : FnOk P w K mg base (L2.CX P w) (dp k + 1 + 1) (Γ.fn 4) (fd 4) ["value"] (spI K Γ (callN TT [] cs (k + 1)) 4) :=
  fn_ok Q.F4 sc4 (fd := d_check_spread) rfl rfl rfl (by decide) (Lio_ok _) fun cdv A outer s H E hr0 tk hp =>
    have hr := Room.mono hr0 (Nat.le_succ (dp k))
    have hu := Room.u65 hr
    have hu1 := Room.u1 hr
    (sss_cons (ss_if (st_not (st_val (se_isi (.ty _) isiK_list (by rfl) Q.b_isinstance (se_var rfl (.inl rfl)) (pe_bltn (by rfl) Q.b_list rfl (by rfl))))) (sss_cons ss_never sss_nil) sss_nil) (sss_cons (ss_if (st_not (st_val (se_call ⟨Fk.f3, Q.m3, Q.F3.kp⟩ hr (by rfl) (p3 Q) tk dv (by decide) (sg_cons (sg_e (se_biB (k := .len) rfl rfl rfl (by rfl) Q.b_len rfl (sa_cons (se_var rfl (.inl rfl)) sa_nil))) sg_nil) rfl))) (sss_cons ss_never sss_nil) sss_nil) (sss_cons (ss_for (t := .tup [.nm 1, .nm 2]) hp rfl (si_enum (by rfl) Q.b_enumerate (sq_var rfl (.inl rfl))) (sg_tup rfl (sgs_cons (sg_name sc4.nd rfl (.inl rfl) rfl) (sgs_cons (sg_name sc4.nd rfl (.inl rfl) rfl) sgs_nil)) rfl) (sss_cons (ss_if (st_not (st_val (se_call ⟨Fk.f2, Q.m2, Q.F2.kp⟩ hr (by rfl) (p2 Q) tk dv (by decide) (sg_cons (sg_var rfl (.inl rfl)) sg_nil) rfl))) (sss_cons ss_never sss_nil) sss_nil) sss_nil)) sss_nil)))
set_option maxHeartbeats 2000000 in
theorem st5 (Q : Fx K mg Γ fd) (Fk : Fs P w K mg base Γ fd k) : FnOk P w K mg base (L2.CX P w) (dp k + 1 + 1) (Γ.fn 5) (fd 5) ["table", "argument", "value"] (spI K Γ (callN TT [] cs (k + 1)) 5) :=
  fn_ok Q.F5 sc5 (fd := d_check_state) rfl rfl rfl (by decide) (Lio_ok _) fun cdv A outer s H E hr0 tk hp =>
    have hr := Room.mono hr0 (Nat.le_succ (dp k))
    have hu := Room.u65 hr
    have hu1 := Room.u1 hr
    (sss_cons (ss_if (st_not (st_val (se_call ⟨Fk.f1, Q.m1, Q.F1.kp⟩ hr (by rfl) (p1 Q) tk dv (by decide) (sg_cons (sg_var rfl (.inl rfl)) (sg_cons (sg_e se_int) (sg_cons (sg_e (se_bin (o := .sub) (se_biB (k := .len) rfl rfl rfl (by rfl) Q.b_len rfl (sa_cons (se_attr Q.cl Q.n_kept (se_var rfl (.inl rfl))) sa_nil)) se_int)) sg_nil))) rfl))) (sss_cons ss_never sss_nil) sss_nil) sss_nil)
set_option maxHeartbeats 2000000 in
theorem st6 (Q : Fx K mg Γ fd) (Fk : Fs P w K mg base Γ fd k) : FnOk P w K mg base (L2.CX P w) (dp k + 1 + 1) (Γ.fn 6) (fd 6) ["_law_cell"] (spI K Γ (callN TT [] cs (k + 1)) 6) :=
  fn_ok Q.F6 sc6 (fd := d__law_source_of) rfl rfl rfl (by decide) (Lio_ok _) fun cdv A outer s H E hr0 tk hp =>
    have hr := Room.mono hr0 (Nat.le_succ (dp k))
    have hu := Room.u65 hr
    have hu1 := Room.u1 hr
    (sss_cons (ss_set sc6.nd rfl (.inl rfl) rfl (se_ite (st_cmp (o := .ge) hu (se_var rfl (.inl rfl)) se_int) (se_var rfl (.inl rfl)) (se_bin (o := .sub) (se_bin (o := .sub) se_int (se_bin (o := .mul) se_int (se_var rfl (.inl rfl)))) se_int))) (sss_cons (ss_ret (se_lst (sa_cons (se_bin (o := .mul) (se_var rfl (.inl rfl)) (se_biT (k := .int) rfl rfl rfl (by rfl) Q.b_int rfl (sa_cons (se_cmp (o := .ge) hu (se_var rfl (.inl rfl)) (se_bin (o := .pow) se_int se_int)) sa_nil))) (sa_cons (se_bin (o := .mod) (se_biT (k := .int) rfl rfl rfl (by rfl) Q.b_int rfl (sa_cons (se_var rfl (.inl rfl)) sa_nil)) se_int) (sa_cons se_int sa_nil))))) sss_nil))
set_option maxHeartbeats 2000000 in
theorem st7 (Q : Fx K mg Γ fd) (Fk : Fs P w K mg base Γ fd k) : FnOk P w K mg base (L2.CX P w) (dp k + 1 + 1) (Γ.fn 7) (fd 7) ["_law_source", "_law_many"] (spI K Γ (callN TT [] cs (k + 1)) 7) :=
  fn_ok Q.F7 sc7 (fd := d__law_next) rfl rfl rfl (by decide) (Lio_ok _) fun cdv A outer s H E hr0 tk hp =>
    have hr := Room.mono hr0 (Nat.le_succ (dp k))
    have hu := Room.u65 hr
    have hu1 := Room.u1 hr
    (sss_cons (ss_if (st_cmp (o := .gt) hu (se_sub hu1 (se_var rfl (.inl rfl)) se_int) se_int) (sss_cons (ss_set sc7.nd rfl (.inl rfl) rfl (se_bin (o := .mod) (se_biT (k := .int) rfl rfl rfl (by rfl) Q.b_int rfl (sa_cons (se_sub hu1 (se_var rfl (.inl rfl)) se_int) sa_nil)) (se_var rfl (.inl rfl)))) (sss_frz (sss_cons (ss_asg (se_bin (o := .fdiv) (se_sub hu1 (se_var rfl (.inl rfl)) se_int) (se_var rfl (.inl rfl))) (sg_subV hu1 rfl (.inl rfl) se_int)) (sss_cons (ss_ret (se_mv rfl (.inl rfl))) sss_nil)))) sss_nil) (sss_cons (ss_asg (se_bin (o := .add) (se_sub hu1 (se_var rfl (.inl rfl)) se_int) se_int) (sg_subV hu1 rfl (.inl rfl) se_int)) (sss_cons (ss_set sc7.nd rfl (.inl rfl) rfl se_int) (sss_cons (ss_set sc7.nd rfl (.inl rfl) rfl (se_bin (o := .mod) (se_biT (k := .int) rfl rfl rfl (by rfl) Q.b_int rfl (sa_cons (se_bin (o := .add) (se_bin (o := .add) (se_sub hu1 (se_var rfl (.inl rfl)) se_int) (se_bin (o := .mul) se_int (se_sub hu1 (se_var rfl (.inl rfl)) se_int))) se_int) sa_nil)) (se_var rfl (.inl rfl)))) (sss_frz (sss_cons (ss_set sc7.nd rfl (.inl rfl) rfl (se_bin (o := .mod) (se_biT (k := .int) rfl rfl rfl (by rfl) Q.b_int rfl (sa_cons (se_bin (o := .mul) (se_var rfl (.inl rfl)) se_int) sa_nil)) (se_var rfl (.inl rfl)))) (sss_frz (sss_cons (ss_set sc7.nd rfl (.inl rfl) rfl (se_bin (o := .mod) (se_biT (k := .int) rfl rfl rfl (by rfl) Q.b_int rfl (sa_cons (se_bin (o := .mul) (se_var rfl (.inl rfl)) (se_bin (o := .add) (se_bin (o := .fdiv) (se_var rfl (.inl rfl)) se_int) se_int)) sa_nil)) (se_var rfl (.inl rfl)))) (sss_frz (sss_cons (ss_set sc7.nd rfl (.inl rfl) rfl (se_bin (o := .mod) (se_biT (k := .int) rfl rfl rfl (by rfl) Q.b_int rfl (sa_cons (se_bin (o := .mul) (se_var rfl (.inl rfl)) (se_bin (o := .add) (se_bin (o := .fdiv) (se_var rfl (.inl rfl)) se_int) se_int)) sa_nil)) se_int)) (sss_frz (sss_cons (ss_ret (se_bin (o := .mod) (se_biT (k := .int) rfl rfl rfl (by rfl) Q.b_int rfl (sa_cons (se_bin (o := .fdiv) (se_var rfl (.inl rfl)) se_int) sa_nil)) (se_var rfl (.inl rfl)))) sss_nil))))))))))))
set_option maxHeartbeats 2000000 in
theorem st8 (Q : Fx K mg Γ fd) (Fk : Fs P w K mg base Γ fd k) : FnOk P w K mg base (L2.CX P w) (dp k + 1 + 1) (Γ.fn 8) (fd 8) ["_law_source", "_law_some"] (spI K Γ (callN TT [] cs (k + 1)) 8) :=
  fn_ok Q.F8 sc8 (fd := d__law_one) rfl rfl rfl (by decide) (Lio_ok _) fun cdv A outer s H E hr0 tk hp =>
    have hr := Room.mono hr0 (Nat.le_succ (dp k))
    have hu := Room.u65 hr
    have hu1 := Room.u1 hr
    (sss_cons (ss_ret (se_sub hu1 (se_var rfl (.inl rfl)) (se_call ⟨Fk.f7, Q.m7, Q.F7.kp⟩ hr (by rfl) (p7 Q) tk dv (by decide) (sg_cons (sg_var rfl (.inl rfl)) (sg_cons (sg_e (se_biB (k := .len) rfl rfl rfl (by rfl) Q.b_len rfl (sa_cons (se_var rfl (.inl rfl)) sa_nil))) sg_nil)) rfl))) sss_nil)
set_option maxHeartbeats 2000000 in
theorem st9 (Q : Fx K mg Γ fd) (Fk : Fs P w K mg base Γ fd k) : FnOk P w K mg base (L2.CX P w) (dp k + 1 + 1) (Γ.fn 9) (fd 9) ["_law_script", "_law_index"] (spI K Γ (callN TT [] cs (k + 1)) 9) :=
  fn_ok Q.F9 sc9 (fd := d__law_cell_at) rfl rfl rfl (by decide) (Lio_ok _) fun cdv A outer s H E hr0 tk hp =>
    have hr := Room.mono hr0 (Nat.le_succ (dp k))
    have hu := Room.u65 hr
    have hu1 := Room.u1 hr
    (sss_cons (ss_ret (se_sub hu1 (se_bin (o := .add) (se_slc3 (se_var rfl (.inl rfl)) (se_var rfl (.inl rfl)) (se_bin (o := .add) (se_var rfl (.inl rfl)) se_int)) (se_lst (sa_cons se_int sa_nil))) se_int)) sss_nil)
set_option maxHeartbeats 2000000 in
theorem st10 (Q : Fx K mg Γ fd) (Fk : Fs P w K mg base Γ fd k) : FnOk P w K mg base (L2.CX P w) (dp k + 1 + 1) (Γ.fn 10) (fd 10) ["_law_source", "_law_many"] (spI K Γ (callN TT [] cs (k + 1)) 10) :=
  fn_ok Q.F10 sc10 (fd := d__law_symbols) rfl rfl rfl (by decide) (Lio_ok _) fun cdv A outer s H E hr0 tk hp =>
    have hr := Room.mono hr0 (Nat.le_succ (dp k))
    have hu := Room.u65 hr
    have hu1 := Room.u1 hr
    (sss_cons (ss_par2 rfl sc10.nd rfl rfl (by decide) rfl rfl (by decide) (sa_cons (se_lst sa_nil) (sa_cons (se_call ⟨Fk.f7, Q.m7, Q.F7.kp⟩ hr (by rfl) (p7 Q) tk dv (by decide) (sg_cons (sg_var rfl (.inl rfl)) (sg_cons (sg_e se_int) sg_nil)) rfl) sa_nil)) rfl) (sss_frz (sss_cons (ss_for (t := .nm 4) hp rfl (si_range1 (by rfl) Q.b_range (se_var rfl (.inl rfl))) (sg_name sc10.nd rfl (.inl rfl) rfl) (sss_cons (ss_expr (se_append rfl (.inl rfl) (se_var rfl (.inl rfl)))) (sss_cons (ss_set sc10.nd rfl (.inl rfl) rfl (se_biB (k := .max2) rfl rfl rfl (by rfl) Q.b_max rfl (sa_cons se_int (sa_cons (se_biB (k := .min2) rfl rfl rfl (by rfl) Q.b_min rfl (sa_cons se_int (sa_cons (se_bin (o := .fdiv) (se_bin (o := .sub) se_int (se_var rfl (.inl rfl))) (se_var rfl (.inl rfl))) sa_nil))) sa_nil)))) (sss_frz (sss_cons (ss_set sc10.nd rfl (.inl rfl) rfl (se_bin (o := .add) (se_bin (o := .add) (se_var rfl (.inl rfl)) se_int) (se_call ⟨Fk.f7, Q.m7, Q.F7.kp⟩ hr (by rfl) (p7 Q) tk dv (by decide) (sg_cons (sg_var rfl (.inl rfl)) (sg_cons (sg_e (se_frz (se_call ⟨Fk.f8, Q.m8, Q.F8.kp⟩ hr (by rfl) (p8 Q) tk dv (by decide) (sg_cons (sg_var rfl (.inl rfl)) (sg_cons (sg_e (se_frz (se_lst (sa_cons se_int (sa_cons se_int (sa_cons se_int (sa_cons (se_var rfl (.inl rfl)) sa_nil))))))) sg_nil)) rfl))) sg_nil)) rfl))) (sss_frz sss_nil)))))) (sss_cons (ss_ret (se_mv rfl (.inl rfl))) sss_nil))))
set_option maxHeartbeats 2000000 in
theorem st11 (Q : Fx K mg Γ fd) (Fk : Fs P w K mg base Γ fd k) : FnOk P w K mg base (L2.CX P w) (dp k + 1 + 1) (Γ.fn 11) (fd 11) ["_law_n"] (spI K Γ (callN TT [] cs (k + 1)) 11) :=
  fn_ok Q.F11 sc11 (fd := d__law_power) rfl rfl rfl (by decide) (Lio_ok _) fun cdv A outer s H E hr0 tk hp =>
    have hr := Room.mono hr0 (Nat.le_succ (dp k))
    have hu := Room.u65 hr
    have hu1 := Room.u1 hr
    (sss_cons (ss_ret (se_bin (o := .shl) se_int (se_var rfl (.inl rfl)))) sss_nil)
set_option maxHeartbeats 2000000 in
theorem st12 (Q : Fx K mg Γ fd) (Fk : Fs P w K mg base Γ fd k) : FnOk P w K mg base (L2.CX P w) (dp k + 1 + 1) (Γ.fn 12) (fd 12) ["_law_spread_here", "_law_bits"] (spI K Γ (callN TT [] cs (k + 1)) 12) :=
  fn_ok Q.F12 sc12 (fd := d__law_rows) rfl rfl rfl (by decide) (Lio_ok _) fun cdv A outer s H E hr0 tk hp =>
    have hr := Room.mono hr0 (Nat.le_succ (dp k))
    have hu := Room.u65 hr
    have hu1 := Room.u1 hr
    (sss_cons (ss_par2 rfl sc12.nd rfl rfl (by decide) rfl rfl (by decide) (sa_cons (se_lst sa_nil) (sa_cons se_dict0 sa_nil)) rfl) (sss_cons (ss_for (t := .nm 4) hp rfl (si_list (sq_var rfl (.inl rfl))) (sg_name sc12.nd rfl (.inl rfl) rfl) (sss_cons (ss_set sc12.nd rfl (.inl rfl) rfl (se_bin (o := .add) (se_count (se_var rfl (.inl rfl)) (se_var rfl (.inl rfl))) (se_get2 hu1 (se_var rfl (.inl rfl)) (se_var rfl (.inl rfl)) se_int ⟨rfl, rfl, rfl, rfl⟩))) (sss_frz (sss_cons (ss_asg (se_bin (o := .add) (se_get2 hu1 (se_var rfl (.inl rfl)) (se_var rfl (.inl rfl)) se_int ⟨rfl, rfl, rfl, rfl⟩) se_int) (sg_subV hu1 rfl (.inl rfl) (se_var rfl (.inl rfl)))) (sss_cons (ss_set sc12.nd rfl (.inl rfl) rfl se_int) (sss_cons (ss_while hp (st_cmp (o := .le) hu (se_call ⟨Fk.f11, Q.m11, Q.F11.kp⟩ hr (by rfl) (p11 Q) tk dv (by decide) (sg_cons (sg_e (se_bin (o := .add) (se_var rfl (.inl rfl)) se_int)) sg_nil) rfl) (se_var rfl (.inl rfl))) (sss_cons (ss_set sc12.nd rfl (.inl rfl) rfl (se_bin (o := .add) (se_var rfl (.inl rfl)) se_int)) (sss_frz sss_nil))) (sss_cons (ss_expr (se_append rfl (.inl rfl) (se_tup (sa_cons (se_var rfl (.inl rfl)) (sa_cons (se_bin (o := .sub) (se_var rfl (.inl rfl)) (se_var rfl (.inl rfl))) (sa_cons (se_bin (o := .sub) (se_bin (o := .mul) (se_var rfl (.inl rfl)) (se_call ⟨Fk.f11, Q.m11, Q.F11.kp⟩ hr (by rfl) (p11 Q) tk dv (by decide) (sg_cons (sg_e (se_bin (o := .sub) (se_var rfl (.inl rfl)) (se_var rfl (.inl rfl)))) sg_nil) rfl)) (se_biB (k := .len) rfl rfl rfl (by rfl) Q.b_len rfl (sa_cons (se_var rfl (.inl rfl)) sa_nil))) sa_nil)))))) sss_nil))))))) (sss_cons (ss_ret (se_mv rfl (.inl rfl))) sss_nil)))
set_option maxHeartbeats 2000000 in
theorem st13 (Q : Fx K mg Γ fd) (Fk : Fs P w K mg base Γ fd k) : FnOk P w K mg base (L2.CX P w) (dp k + 1 + 1) (Γ.fn 13) (fd 13) ["_law_spread_here", "_law_bits"] (spI K Γ (callN TT [] cs (k + 1)) 13) :=
  fn_ok Q.F13 sc13 (fd := d__law_right) rfl rfl rfl (by decide) (Lio_ok _) fun cdv A outer s H E hr0 tk hp =>
    have hr := Room.mono hr0 (Nat.le_succ (dp k))
    have hu := Room.u65 hr
    have hu1 := Room.u1 hr
    (sss_cons (ss_set sc13.nd rfl (.inl rfl) rfl (se_biT (k := .list) rfl rfl rfl (by rfl) Q.b_list rfl (sa_cons (se_var rfl (.inr (.inl rfl))) sa_nil))) (sss_cons (ss_set sc13.nd rfl (.inr rfl) rfl (se_new ⟨Fk.f15, Q.m15, Q.g_Table⟩ hr0 (by rfl) (p15 Q) tk dv (by decide) (sg_cons (sg_var rfl (.inl rfl)) sg_nil) rfl)) (sss_frz (sss_cons (ss_expr (se_append rfl (.inl rfl) se_int)) (sss_cons (ss_set sc13.nd rfl (.inl rfl) rfl (se_call ⟨Fk.f12, Q.m12, Q.F12.kp⟩ hr (by rfl) (p12 Q) tk dv (by decide) (sg_cons (sg_var rfl (.inr (.inl rfl))) (sg_cons (sg_var rfl (.inl rfl)) sg_nil)) rfl)) (sss_frz (sss_cons (ss_set sc13.nd rfl (.inl rfl) rfl (se_meth0 ⟨Fk.f23, Q.m23, Q.cl _⟩ hr (p23 Q) tk dv (by decide) (sg_var rfl (.inr (.inl rfl))))) (sss_cons (ss_expr (se_append rfl (.inl rfl) se_non)) (sss_cons (ss_set sc13.nd rfl (.inl rfl) rfl (se_meth0 ⟨Fk.f17, Q.m17, Q.cl _⟩ hr (p17 Q) tk dv (by decide) (sg_var rfl (.inr (.inl rfl))))) (sss_cons (ss_expr (se_append rfl (.inl rfl) se_int)) (sss_cons (ss_if (st_cmp (o := .ne) hu (se_meth0 ⟨Fk.f17, Q.m17, Q.cl _⟩ hr (p17 Q) tk dv (by decide) (sg_var rfl (.inr (.inl rfl)))) (se_var rfl (.inr (.inl rfl)))) (sss_cons (ss_ret se_bl) sss_nil) sss_nil) (sss_cons (ss_if (st_cmp (o := .ne) hu (se_meth0 ⟨Fk.f18, Q.m18, Q.cl _⟩ hr (p18 Q) tk dv (by decide) (sg_var rfl (.inr (.inl rfl)))) (se_biB (k := .len) rfl rfl rfl (by rfl) Q.b_len rfl (sa_cons (se_var rfl (.inr (.inl rfl))) sa_nil))) (sss_cons (ss_ret se_bl) sss_nil) sss_nil) (sss_cons (ss_if (st_cmp (o := .ne) hu (se_meth0 ⟨Fk.f19, Q.m19, Q.cl _⟩ hr (p19 Q) tk dv (by decide) (sg_var rfl (.inr (.inl rfl)))) (se_var rfl (.inl rfl))) (sss_cons (ss_ret se_bl) sss_nil) sss_nil) (sss_cons (ss_if (st_cmp (o := .ne) hu (se_meth0 ⟨Fk.f23, Q.m23, Q.cl _⟩ hr (p23 Q) tk dv (by decide) (sg_var rfl (.inr (.inl rfl)))) (se_var rfl (.inl rfl))) (sss_cons (ss_ret se_bl) sss_nil) sss_nil) (sss_cons (ss_if (st_boo (k := false) (sw_cons (k := false) (st_cmp (o := .ne) hu (se_lc (own := [("_law_k", 10)]) rfl sc13.nd (si_range1 (by rfl) Q.b_range (se_biB (k := .len) rfl rfl rfl (by rfl) Q.b_len rfl (sa_cons (se_var rfl (.inr (.inl rfl))) sa_nil))) (blkOk_by (by rfl)) (fun _ _ _ _ _ => (sg_name sc13.nd rfl (.inl rfl) rfl)) (fun _ _ _ _ _ => sts_nil) (fun _ _ _ _ _ => (se_meth ⟨Fk.f22, Q.m22, Q.cl _⟩ hr (p22 Q) tkF dv (by decide) (sg_var rfl (.inr (.inl rfl))) (sg_cons (sg_var rfl (.inl rfl)) sg_nil) rfl)) (by decide)) (se_var rfl (.inl rfl))) (sw_one (k := false) (st_cmp (o := .ne) hu (se_methK0 (ks := ["state"]) ⟨Fk.f22, Q.m22, Q.cl _⟩ hr (kw0 Q) tk dv (by decide) (sg_var rfl (.inr (.inl rfl))) (sk_cons (sg_e se_int) sk_nil) rfl) (se_sub hu1 (se_var rfl (.inl rfl)) se_int))))) (sss_cons (ss_ret se_bl) sss_nil) sss_nil) (sss_cons (ss_set sc13.nd rfl (.inl rfl) rfl (se_meth0 ⟨Fk.f20, Q.m20, Q.cl _⟩ hr (p20 Q) tk dv (by decide) (sg_var rfl (.inr (.inl rfl))))) (sss_cons (ss_expr (se_append rfl (.inl rfl) (se_tup (sa_cons se_int (sa_cons se_int sa_nil))))) (sss_cons (ss_if (st_cmp (o := .ne) hu (se_meth0 ⟨Fk.f20, Q.m20, Q.cl _⟩ hr (p20 Q) tk dv (by decide) (sg_var rfl (.inr (.inl rfl)))) (se_lc (own := [("_law_one_here", 11)]) rfl sc13.nd (si_list (sq_e (se_sset rfl (se_var rfl (.inr (.inl rfl))) (by rfl) Q.b_sorted (by rfl) Q.b_set))) (blkOk_by (by rfl)) (fun _ _ _ _ _ => (sg_name sc13.nd rfl (.inl rfl) rfl)) (fun _ _ _ _ _ => sts_nil) (fun _ _ _ _ _ => (se_tup (sa_cons (se_var rfl (.inl rfl)) (sa_cons (se_count (se_var rfl (.inr (.inl rfl))) (se_var rfl (.inl rfl))) sa_nil)))) (by decide))) (sss_cons (ss_ret se_bl) sss_nil) sss_nil) (sss_cons (ss_set sc13.nd rfl (.inl rfl) rfl (se_newK0 (ks := ["spread"]) ⟨Fk.f15, Q.m15, Q.g_Table⟩ hr0 (by rfl) (kw1 Q) tk dv (by decide) (sk_cons (sg_var rfl (.inr (.inl rfl))) sk_nil) rfl)) (sss_frz (sss_cons (ss_set sc13.nd rfl (.inl rfl) rfl (se_new ⟨Fk.f15, Q.m15, Q.g_Table⟩ hr0 (by rfl) (p15 Q) tk dv (by decide) (sg_cons (sg_e (se_frz (se_rev (se_var rfl (.inr (.inl rfl)))))) sg_nil) rfl)) (sss_frz (sss_cons (ss_if (st_not (st_eqo ⟨Fk.f16, Q.m16, Q.cl _⟩ Q.ne0 (bi16 Q) hr0 (se_var rfl (.inr (.inl rfl))) (se_var rfl (.inl rfl)))) (sss_cons (ss_ret se_bl) sss_nil) sss_nil) (sss_cons (ss_if (st_not (st_cmp (o := .eq) hu (se_eqo ⟨Fk.f16, Q.m16, Q.cl _⟩ Q.ne0 (bi16 Q) hr0 (se_var rfl (.inr (.inl rfl))) (se_var rfl (.inl rfl))) (se_cmp (o := .eq) hu (se_var rfl (.inr (.inl rfl))) (se_rev (se_var rfl (.inr (.inl rfl))))))) (sss_cons (ss_ret se_bl) sss_nil) sss_nil) (sss_cons (ss_if (st_not (st_neo ⟨Fk.f16, Q.m16, Q.cl _⟩ Q.ne0 (bi16 Q) hr0 (se_var rfl (.inr (.inl rfl))) (se_var rfl (.inr (.inl rfl))))) (sss_cons (ss_ret se_bl) sss_nil) sss_nil) (sss_cons (ss_ret (se_neo ⟨Fk.f16, Q.m16, Q.cl _⟩ Q.ne0 (bi16 Q) hr0 (se_var rfl (.inr (.inl rfl))) (se_frz (se_biT (k := .tuple) rfl rfl rfl (by rfl) Q.b_tuple rfl (sa_cons (se_var rfl (.inr (.inl rfl))) sa_nil))))) sss_nil))))))))))))))))))))))))))
set_option maxHeartbeats 2000000 in
theorem st14 (Q : Fx K mg Γ fd) (Fk : Fs P w K mg base Γ fd k) : FnOk P w K mg base (L2.CX P w) (dp k + 1 + 1) (Γ.fn 14) (fd 14) ["_law_script"] (spI K Γ (callN TT [] cs (k + 1)) 14) :=
  fn_ok Q.F14 sc14 (fd := d_law) rfl rfl rfl (by decide) (Lio_ok _) fun cdv A outer s H E hr0 tk hp =>
    have hr := Room.mono hr0 (Nat.le_succ (dp k))
    have hu := Room.u65 hr
    have hu1 := Room.u1 hr
    (sss_cons (ss_for (t := .nm 1) hp rfl (si_list (sq_e (se_bin (o := .add) (se_lst (sa_cons (se_call ⟨Fk.f9, Q.m9, Q.F9.kp⟩ hr (by rfl) (p9 Q) tk dv (by decide) (sg_cons (sg_var rfl (.inl rfl)) (sg_cons (sg_e se_int) sg_nil)) rfl) sa_nil)) (se_slc3 (se_var rfl (.inl rfl)) se_int se_int)))) (sg_name sc14.nd rfl (.inl rfl) rfl) (sss_cons (ss_set sc14.nd rfl (.inr rfl) rfl (se_call ⟨Fk.f6, Q.m6, Q.F6.kp⟩ hr (by rfl) (p6 Q) tk dv (by decide) (sg_cons (sg_var rfl (.inl rfl)) sg_nil) rfl)) (sss_cons (ss_for (t := .nm 3) hp rfl (si_range1 (by rfl) Q.b_range se_int) (sg_name sc14.nd rfl (.inl rfl) rfl) (sss_cons (ss_set sc14.nd rfl (.inl rfl) rfl (se_bin (o := .add) se_int (se_call ⟨Fk.f7, Q.m7, Q.F7.kp⟩ hr (by rfl) (p7 Q) tk dv (by decide) (sg_cons (sg_var rfl (.inr (.inl rfl))) (sg_cons (sg_e se_int) sg_nil)) rfl))) (sss_frz (sss_cons (ss_set sc14.nd rfl (.inr rfl) rfl (se_call ⟨Fk.f10, Q.m10, Q.F10.kp⟩ hr (by rfl) (p10 Q) tk dv (by decide) (sg_cons (sg_var rfl (.inr (.inl rfl))) (sg_cons (sg_e (se_frz (se_bin (o := .add) se_int (se_call ⟨Fk.f7, Q.m7, Q.F7.kp⟩ hr (by rfl) (p7 Q) tk dv (by decide) (sg_cons (sg_var rfl (.inr (.inl rfl))) (sg_cons (sg_e se_int) sg_nil)) rfl)))) sg_nil)) rfl)) (sss_frz (sss_cons (ss_setLC rfl rfl rfl (own := [("_law_k", 7)]) rfl sc14.nd (si_range1 (by rfl) Q.b_range (se_call ⟨Fk.f11, Q.m11, Q.F11.kp⟩ hr (by rfl) (p11 Q) tk dv (by decide) (sg_cons (sg_var rfl (.inl rfl)) sg_nil) rfl)) (blkOk_by (by rfl)) (fun _ _ _ _ _ => (sg_name sc14.nd rfl (.inl rfl) rfl)) (fun _ _ _ _ _ => sts_nil) (fun _ _ _ _ _ => (se_call ⟨Fk.f8, Q.m8, Q.F8.kp⟩ hr (by rfl) (p8 Q) tkF dv (by decide) (sg_cons (sg_var rfl (.inr (.inl rfl))) (sg_cons (sg_var rfl (.inr (.inl rfl))) sg_nil)) rfl)) (by decide)) (sss_frz (sss_cons (ss_if (st_not (st_val (se_call ⟨Fk.f13, Q.m13, Q.F13.kp⟩ hr (by rfl) (p13 Q) tk dv (by decide) (sg_cons (sg_e (se_frz (se_call ⟨Fk.f8, Q.m8, Q.F8.kp⟩ hr (by rfl) (p8 Q) tk dv (by decide) (sg_cons (sg_var rfl (.inr (.inl rfl))) (sg_cons (sg_e (se_frz (se_lst (sa_cons (se_var rfl (.inl rfl)) (sa_cons (se_var rfl (.inl rfl)) (sa_cons (se_biB (k := .sorted) rfl rfl rfl (by rfl) Q.b_sorted rfl (sa_cons (se_var rfl (.inl rfl)) sa_nil)) sa_nil)))))) sg_nil)) rfl))) (sg_cons (sg_var rfl (.inl rfl)) sg_nil)) rfl))) (sss_cons (ss_ret se_bl) sss_nil) sss_nil) sss_nil)))))))) sss_nil))) (sss_cons (ss_for (t := .nm 7) hp rfl (si_range1 (by rfl) Q.b_range se_int) (sg_name sc14.nd rfl (.inl rfl) rfl) (sss_cons (ss_if (st_not (st_val (se_call ⟨Fk.f13, Q.m13, Q.F13.kp⟩ hr (by rfl) (p13 Q) tk dv (by decide) (sg_cons (sg_e (se_frz (se_lst (sa_cons (se_bin (o := .mod) (se_biT (k := .int) rfl rfl rfl (by rfl) Q.b_int rfl (sa_cons (se_bin (o := .fdiv) (se_var rfl (.inl rfl)) se_int) sa_nil)) se_int) (sa_cons (se_bin (o := .mod) (se_biT (k := .int) rfl rfl rfl (by rfl) Q.b_int rfl (sa_cons (se_bin (o := .fdiv) (se_var rfl (.inl rfl)) se_int) sa_nil)) se_int) (sa_cons (se_bin (o := .mod) (se_biT (k := .int) rfl rfl rfl (by rfl) Q.b_int rfl (sa_cons (se_bin (o := .fdiv) (se_var rfl (.inl rfl)) se_int) sa_nil)) se_int) (sa_cons (se_bin (o := .mod) (se_biT (k := .int) rfl rfl rfl (by rfl) Q.b_int rfl (sa_cons (se_var rfl (.inl rfl)) sa_nil)) se_int) sa_nil))))))) (sg_cons (sg_e se_int) sg_nil)) rfl))) (sss_cons (ss_ret se_bl) sss_nil) sss_nil) sss_nil)) (sss_cons (ss_set sc14.nd rfl (.inl rfl) rfl (se_meth0 ⟨Fk.f23, Q.m23, Q.cl _⟩ hr (p23 Q) tk dv (by decide) (sg_e (se_frz (se_new ⟨Fk.f15, Q.m15, Q.g_Table⟩ hr0 (by rfl) (p15 Q) tk dv (by decide) (sg_cons (sg_e (se_frz (se_lst (sa_cons se_int (sa_cons se_int (sa_cons se_int (sa_cons se_int (sa_cons se_int (sa_cons se_int (sa_cons se_int (sa_cons se_int sa_nil))))))))))) sg_nil) rfl))))) (sss_frz (sss_cons (ss_ret (se_cmp (o := .eq) hu (se_var rfl (.inl rfl)) (se_lst (sa_cons (se_tup (sa_cons se_int (sa_cons se_int (sa_cons se_int sa_nil)))) (sa_cons (se_tup (sa_cons se_int (sa_cons se_int (sa_cons se_int sa_nil)))) (sa_cons (se_tup (sa_cons se_int (sa_cons se_int (sa_cons se_int sa_nil)))) (sa_cons (se_tup (sa_cons se_int (sa_cons se_int (sa_cons se_int sa_nil)))) (sa_cons (se_tup (sa_cons se_int (sa_cons se_int (sa_cons se_int sa_nil)))) (sa_cons (se_tup (sa_cons se_int (sa_cons se_int (sa_cons se_int sa_nil)))) (sa_cons (se_tup (sa_cons se_int (sa_cons se_int (sa_cons se_int sa_nil)))) (sa_cons (se_tup (sa_cons se_int (sa_cons se_int (sa_cons se_int sa_nil)))) sa_nil))))))))))) sss_nil)))))
set_option maxHeartbeats 2000000 in
theorem st15 (Q : Fx K mg Γ fd) (Fk : Fs P w K mg base Γ fd k) : FnOk P w K mg base (L2.CX P w) (dp k + 1 + 1) (Γ.fn 15) (fd 15) ["self", "spread"] (spI K Γ (callN TT [] cs (k + 1)) 15) :=
  fn_ok Q.F15 sc15 (fd := d_Table___init__) rfl rfl rfl (by decide) (Lio_ok _) fun cdv A outer s H E hr0 tk hp =>
    have hr := Room.mono hr0 (Nat.le_succ (dp k))
    have hu := Room.u65 hr
    have hu1 := Room.u1 hr
    (sss_cons (ss_expr (se_call ⟨Fk.f4, Q.m4, Q.F4.kp⟩ hr (by rfl) (p4 Q) tk dv (by decide) (sg_cons (sg_var rfl (.inl rfl)) sg_nil) rfl)) (sss_cons (ss_asg (se_biT (k := .tuple) rfl rfl rfl (by rfl) Q.b_tuple rfl (sa_cons (se_var rfl (.inl rfl)) sa_nil)) (sg_fldP Q.cl Q.n_kept pl_var (pe_var rfl (.inl rfl) (by decide) (by decide)))) (sss_cons (ss_asg se_dict0 (sg_fldP Q.cl Q.n_places pl_var (pe_var rfl (.inl rfl) (by decide) (by decide)))) (sss_cons (ss_asg (se_lst sa_nil) (sg_fldP Q.cl Q.n_ranks pl_var (pe_var rfl (.inl rfl) (by decide) (by decide)))) (sss_cons (ss_for (t := .tup [.nm 2, .nm 3]) hp rfl (si_enum (by rfl) Q.b_enumerate (sq_var rfl (.inl rfl))) (sg_tup rfl (sgs_cons (sg_name sc15.nd rfl (.inl rfl) rfl) (sgs_cons (sg_name sc15.nd rfl (.inl rfl) rfl) sgs_nil)) rfl) (sss_cons (ss_set sc15.nd rfl (.inl rfl) rfl (se_get2 hu1 (se_attr Q.cl Q.n_places (se_var rfl (.inl rfl))) (se_var rfl (.inl rfl)) (se_lst sa_nil) ⟨rfl, rfl, rfl, rfl⟩)) (sss_frz (sss_cons (ss_expr (se_appendP (pl_fld Q.cl Q.n_ranks) (pe_plf rfl (.inl rfl)) (se_biB (k := .len) rfl rfl rfl (by rfl) Q.b_len rfl (sa_cons (se_var rfl (.inl rfl)) sa_nil)))) (sss_cons (ss_asg (se_frz (se_bin (o := .add) (se_var rfl (.inl rfl)) (se_lst (sa_cons (se_var rfl (.inl rfl)) sa_nil)))) (sg_subP (pl_fld Q.cl Q.n_places) (pe_plf rfl (.inl rfl)) hu1 (se_var rfl (.inl rfl)))) sss_nil))))) (sss_cons (ss_asg (se_bin (o := .sub) (se_bits (se_biB (k := .len) rfl rfl rfl (by rfl) Q.b_len rfl (sa_cons (se_var rfl (.inl rfl)) sa_nil))) se_int) (sg_fldP Q.cl Q.n_width pl_var (pe_var rfl (.inl rfl) (by decide) (by decide)))) sss_nil))))))
set_option maxHeartbeats 2000000 in
theorem st16 (Q : Fx K mg Γ fd) (Fk : Fs P w K mg base Γ fd k) : FnOk P w K mg base (L2.CX P w) (dp k + 1 + 1) (Γ.fn 16) (fd 16) ["self", "other"] (spI K Γ (callN TT [] cs (k + 1)) 16) :=
  fn_ok Q.F16 sc16 (fd := d_Table___eq__) rfl rfl rfl (by decide) (Lio_ok _) fun cdv A outer s H E hr0 tk hp =>
    have hr := Room.mono hr0 (Nat.le_succ (dp k))
    have hu := Room.u65 hr
    have hu1 := Room.u1 hr
    (sss_cons (ss_ret (se_boo (k := true) (sb_cons (k := true) (se_isi (.own _) (isiK_cls Q.ic0 Q.if0) (by rfl) Q.b_isinstance (se_var rfl (.inl rfl)) (pe_glob (v := .ref (Γ.cls 0)) (by rfl) Q.g_Table rfl)) (sb_one (k := true) (se_cmp (o := .eq) hu (se_attr Q.cl Q.n_kept (se_var rfl (.inl rfl))) (se_attr Q.cl Q.n_kept (se_var rfl (.inl rfl)))))))) sss_nil)
set_option maxHeartbeats 2000000 in
theorem st17 (Q : Fx K mg Γ fd) (Fk : Fs P w K mg base Γ fd k) : FnOk P w K mg base (L2.CX P w) (dp k + 1 + 1) (Γ.fn 17) (fd 17) ["self"] (spI K Γ (callN TT [] cs (k + 1)) 17) :=
  fn_ok Q.F17 sc17 (fd := d_Table_spread) rfl rfl rfl (by decide) (Lio_ok _) fun cdv A outer s H E hr0 tk hp =>
    have hr := Room.mono hr0 (Nat.le_succ (dp k))
    have hu := Room.u65 hr
    have hu1 := Room.u1 hr
    (sss_cons (ss_ret (se_biT (k := .list) rfl rfl rfl (by rfl) Q.b_list rfl (sa_cons (se_attr Q.cl Q.n_kept (se_var rfl (.inl rfl))) sa_nil))) sss_nil)
set_option maxHeartbeats 2000000 in
theorem st18 (Q : Fx K mg Γ fd) (Fk : Fs P w K mg base Γ fd k) : FnOk P w K mg base (L2.CX P w) (dp k + 1 + 1) (Γ.fn 18) (fd 18) ["self"] (spI K Γ (callN TT [] cs (k + 1)) 18) :=
  fn_ok Q.F18 sc18 (fd := d_Table_size) rfl rfl rfl (by decide) (Lio_ok _) fun cdv A outer s H E hr0 tk hp =>
    have hr := Room.mono hr0 (Nat.le_succ (dp k))
    have hu := Room.u65 hr
    have hu1 := Room.u1 hr
    (sss_cons (ss_ret (se_biB (k := .len) rfl rfl rfl (by rfl) Q.b_len rfl (sa_cons (se_attr Q.cl Q.n_kept (se_var rfl (.inl rfl))) sa_nil))) sss_nil)
set_option maxHeartbeats 2000000 in
theorem st19 (Q : Fx K mg Γ fd) (Fk : Fs P w K mg base Γ fd k) : FnOk P w K mg base (L2.CX P w) (dp k + 1 + 1) (Γ.fn 19) (fd 19) ["self"] (spI K Γ (callN TT [] cs (k + 1)) 19) :=
  fn_ok Q.F19 sc19 (fd := d_Table_bits) rfl rfl rfl (by decide) (Lio_ok _) fun cdv A outer s H E hr0 tk hp =>
    have hr := Room.mono hr0 (Nat.le_succ (dp k))
    have hu := Room.u65 hr
    have hu1 := Room.u1 hr
    (sss_cons (ss_ret (se_attr Q.cl Q.n_width (se_var rfl (.inl rfl)))) sss_nil)
set_option maxHeartbeats 2000000 in
theorem st20 (Q : Fx K mg Γ fd) (Fk : Fs P w K mg base Γ fd k) : FnOk P w K mg base (L2.CX P w) (dp k + 1 + 1) (Γ.fn 20) (fd 20) ["self"] (spI K Γ (callN TT [] cs (k + 1)) 20) :=
  fn_ok Q.F20 sc20 (fd := d_Table_counts) rfl rfl rfl (by decide) (Lio_ok _) fun cdv A outer s H E hr0 tk hp =>
    have hr := Room.mono hr0 (Nat.le_succ (dp k))
    have hu := Room.u65 hr
    have hu1 := Room.u1 hr
    (sss_cons (ss_ret (se_lc (own := [("symbol", 1)]) rfl sc20.nd (si_list (sq_e (se_biB (k := .sorted) rfl rfl rfl (by rfl) Q.b_sorted rfl (sa_cons (se_attr Q.cl Q.n_places (se_var rfl (.inr (.inl rfl)))) sa_nil)))) (blkOk_by (by rfl)) (fun _ _ _ _ _ => (sg_name sc20.nd rfl (.inl rfl) rfl)) (fun _ _ _ _ _ => sts_nil) (fun _ _ _ _ _ => (se_tup (sa_cons (se_var rfl (.inl rfl)) (sa_cons (se_biB (k := .len) rfl rfl rfl (by rfl) Q.b_len rfl (sa_cons (se_sub hu1 (se_attr Q.cl Q.n_places (se_var rfl (.inr (.inl rfl)))) (se_var rfl (.inl rfl))) sa_nil)) sa_nil)))) (by decide))) sss_nil)
set_option maxHeartbeats 2000000 in
theorem st21 (Q : Fx K mg Γ fd) (Fk : Fs P w K mg base Γ fd k) : FnOk P w K mg base (L2.CX P w) (dp k + 1 + 1) (Γ.fn 21) (fd 21) ["self", "state"] (spI K Γ (callN TT [] cs (k + 1)) 21) :=
  fn_ok Q.F21 sc21 (fd := d_Table_row_of) rfl rfl rfl (by decide) (Lio_ok _) fun cdv A outer s H E hr0 tk hp =>
    have hr := Room.mono hr0 (Nat.le_succ (dp k))
    have hu := Room.u65 hr
    have hu1 := Room.u1 hr
    (sss_cons (ss_set sc21.nd rfl (.inl rfl) rfl (se_sub hu1 (se_attr Q.cl Q.n_kept (se_var rfl (.inl rfl))) (se_var rfl (.inl rfl)))) (sss_frz (sss_cons (ss_set sc21.nd rfl (.inl rfl) rfl (se_bin (o := .add) (se_biB (k := .len) rfl rfl rfl (by rfl) Q.b_len rfl (sa_cons (se_sub hu1 (se_attr Q.cl Q.n_places (se_var rfl (.inl rfl))) (se_var rfl (.inl rfl))) sa_nil)) (se_sub hu1 (se_attr Q.cl Q.n_ranks (se_var rfl (.inl rfl))) (se_var rfl (.inl rfl))))) (sss_frz (sss_cons (ss_set sc21.nd rfl (.inl rfl) rfl (se_bin (o := .sub) (se_attr Q.cl Q.n_width (se_var rfl (.inl rfl))) (se_bin (o := .sub) (se_bits (se_var rfl (.inl rfl))) se_int))) (sss_frz (sss_cons (ss_ret (se_tup (sa_cons (se_mv rfl (.inl rfl)) (sa_cons (se_var rfl (.inl rfl)) (sa_cons (se_bin (o := .sub) (se_bin (o := .shl) (se_var rfl (.inl rfl)) (se_var rfl (.inl rfl))) (se_biB (k := .len) rfl rfl rfl (by rfl) Q.b_len rfl (sa_cons (se_attr Q.cl Q.n_kept (se_var rfl (.inl rfl))) sa_nil))) sa_nil))))) sss_nil)))))))
set_option maxHeartbeats 2000000 in
theorem st22 (Q : Fx K mg Γ fd) (Fk : Fs P w K mg base Γ fd k) : FnOk P w K mg base (L2.CX P w) (dp k + 1 + 1) (Γ.fn 22) (fd 22) ["self", "state"] (spI K Γ (callN TT [] cs (k + 1)) 22) :=
  fn_ok Q.F22 sc22 (fd := d_Table_row) rfl rfl rfl (by decide) (Lio_ok _) fun cdv A outer s H E hr0 tk hp =>
    have hr := Room.mono hr0 (Nat.le_succ (dp k))
    have hu := Room.u65 hr
    have hu1 := Room.u1 hr
    (sss_cons (ss_expr (se_call ⟨Fk.f5, Q.m5, Q.F5.kp⟩ hr (by rfl) (p5 Q) tk dv (by decide) (sg_cons (sg_var rfl (.inl rfl)) (sg_cons (sg_e se_str) (sg_cons (sg_var rfl (.inl rfl)) sg_nil))) rfl)) (sss_cons (ss_ret (se_meth ⟨Fk.f21, Q.m21, Q.cl _⟩ hr (p21 Q) tk dv (by decide) (sg_var rfl (.inl rfl)) (sg_cons (sg_var rfl (.inl rfl)) sg_nil) rfl)) sss_nil))
set_option maxHeartbeats 2000000 in
theorem st23 (Q : Fx K mg Γ fd) (Fk : Fs P w K mg base Γ fd k) : FnOk P w K mg base (L2.CX P w) (dp k + 1 + 1) (Γ.fn 23) (fd 23) ["self"] (spI K Γ (callN TT [] cs (k + 1)) 23) :=
  fn_ok Q.F23 sc23 (fd := d_Table_rows) rfl rfl rfl (by decide) (Lio_ok _) fun cdv A outer s H E hr0 tk hp =>
    have hr := Room.mono hr0 (Nat.le_succ (dp k))
    have hu := Room.u65 hr
    have hu1 := Room.u1 hr
    (sss_cons (ss_ret (se_lc (own := [("state", 1)]) rfl sc23.nd (si_range1 (by rfl) Q.b_range (se_biB (k := .len) rfl rfl rfl (by rfl) Q.b_len rfl (sa_cons (se_attr Q.cl Q.n_kept (se_var rfl (.inr (.inl rfl)))) sa_nil))) (blkOk_by (by rfl)) (fun _ _ _ _ _ => (sg_name sc23.nd rfl (.inl rfl) rfl)) (fun _ _ _ _ _ => sts_nil) (fun _ _ _ _ _ => (se_meth ⟨Fk.f21, Q.m21, Q.cl _⟩ hr (p21 Q) tkF dv (by decide) (sg_var rfl (.inr (.inl rfl))) (sg_cons (sg_var rfl (.inl rfl)) sg_nil) rfl)) (by decide))) sss_nil)
theorem fs_succ (Q : Fx K mg Γ fd) (Fk : Fs P w K mg base Γ fd k) : Fs P w K mg base Γ fd (k + 1) := ⟨st0 Q Fk, st1 Q Fk, st2 Q Fk, st3 Q Fk, st4 Q Fk, st5 Q Fk, st6 Q Fk, st7 Q Fk, st8 Q Fk, st9 Q Fk, st10 Q Fk, st11 Q Fk, st12 Q Fk, st13 Q Fk, st14 Q Fk, st15 Q Fk, st16 Q Fk, st17 Q Fk, st18 Q Fk, st19 Q Fk, st20 Q Fk, st21 Q Fk, st22 Q Fk, st23 Q Fk⟩
theorem fs_all (Q : Fx K mg Γ fd) : ∀ k, Fs P w K mg base Γ fd k
  | 0 => fs_zero
  | k + 1 => fs_succ Q (fs_all Q k)
end
end Pv
namespace Pv
open PySem PySem.Spec PyProof.Rows L2
def spL (K : PySem.W.Frag) : Sp := fun vs H Q _ => ∃ (a : Addr) (ns : List Int), vs = [.ref a] ∧ SqL K H a (ns.map V.int) ∧ ns.length ≤ 63 ∧ ∀ H', Q (.bl true) H'
theorem spL_of {K : PySem.W.Frag} {Γ : Gm} {vs : List V} {H : Hp} {Q : VK} {E : XK} (h : spL K vs H Q E) : spI K Γ (callN TT [] cs 20) 14 vs H Q E := by
  obtain ⟨a, ns, rfl, hs, hl, q⟩ := h
  obtain ⟨outs, ho⟩ := law_plain ns hl
  refine ⟨fun c => ∃ o, H c = some o, [.fz (.scr ns)], [], ⟨.ref a, [], [], [], rfl, rfl, ⟨rfl, a, rfl, hs, ?_⟩, rfl, rfl⟩, List.nodup_nil, fun _ h => (nomatch h), fun _ h => h, ?_⟩
  · rcases hs with (h | ⟨o, h⟩) | h
    · exact .inl ⟨_, h⟩
    · exact .inl ⟨_, h⟩
    · exact .inr fun _ => .inr h
  · rw [ho]
    intro v H' ⟨F', fo, fr, _, _, hm, _⟩
    obtain ⟨_, hv⟩ := hm
    cases hv
    exact q H'
theorem all_mk {P : Program} {w : World} {K : PySem.W.Frag} {h : Heap} {mg : Str → Option Value} {fa : Addr} (X : K.In h) (G : h.Ns mainGlobals mg) (hfa : mg "law" = some (.ref fa))
    {oc0 kV0 dc0 pm0 cd0 ct0 : Value} {od0 an0 : Option Addr} {sl0 : Array (Option Value)} {g0 : Addr}
    {oc1 kV1 dc1 pm1 cd1 ct1 : Value} {od1 an1 : Option Addr} {sl1 : Array (Option Value)} {g1 : Addr}
    {oc2 kV2 dc2 pm2 cd2 ct2 : Value} {od2 an2 : Option Addr} {sl2 : Array (Option Value)} {g2 : Addr}
    {oc3 kV3 dc3 pm3 cd3 ct3 : Value} {od3 an3 : Option Addr} {sl3 : Array (Option Value)} {g3 : Addr}
    {oc4 kV4 dc4 pm4 cd4 ct4 : Value} {od4 an4 : Option Addr} {sl4 : Array (Option Value)} {g4 : Addr}
    {oc5 kV5 dc5 pm5 cd5 ct5 : Value} {od5 an5 : Option Addr} {sl5 : Array (Option Value)} {g5 : Addr}
    {oc6 kV6 dc6 pm6 cd6 ct6 : Value} {od6 an6 : Option Addr} {sl6 : Array (Option Value)} {g6 : Addr}
    {oc7 kV7 dc7 pm7 cd7 ct7 : Value} {od7 an7 : Option Addr} {sl7 : Array (Option Value)} {g7 : Addr}
    {oc8 kV8 dc8 pm8 cd8 ct8 : Value} {od8 an8 : Option Addr} {sl8 : Array (Option Value)} {g8 : Addr}
    {oc9 kV9 dc9 pm9 cd9 ct9 : Value} {od9 an9 : Option Addr} {sl9 : Array (Option Value)} {g9 : Addr}
    {oc10 kV10 dc10 pm10 cd10 ct10 : Value} {od10 an10 : Option Addr} {sl10 : Array (Option Value)} {g10 : Addr}
    {oc11 kV11 dc11 pm11 cd11 ct11 : Value} {od11 an11 : Option Addr} {sl11 : Array (Option Value)} {g11 : Addr}
    {oc12 kV12 dc12 pm12 cd12 ct12 : Value} {od12 an12 : Option Addr} {sl12 : Array (Option Value)} {g12 : Addr}
    {oc13 kV13 dc13 pm13 cd13 ct13 : Value} {od13 an13 : Option Addr} {sl13 : Array (Option Value)} {g13 : Addr}
    {oc14 kV14 dc14 pm14 cd14 ct14 : Value} {od14 an14 : Option Addr} {sl14 : Array (Option Value)} {g14 : Addr}
    {oc15 kV15 dc15 pm15 cd15 ct15 : Value} {od15 an15 : Option Addr} {sl15 : Array (Option Value)} {g15 : Addr}
    {oc16 kV16 dc16 pm16 cd16 ct16 : Value} {od16 an16 : Option Addr} {sl16 : Array (Option Value)} {g16 : Addr}
    {oc17 kV17 dc17 pm17 cd17 ct17 : Value} {od17 an17 : Option Addr} {sl17 : Array (Option Value)} {g17 : Addr}
    {oc18 kV18 dc18 pm18 cd18 ct18 : Value} {od18 an18 : Option Addr} {sl18 : Array (Option Value)} {g18 : Addr}
    {oc19 kV19 dc19 pm19 cd19 ct19 : Value} {od19 an19 : Option Addr} {sl19 : Array (Option Value)} {g19 : Addr}
    {oc20 kV20 dc20 pm20 cd20 ct20 : Value} {od20 an20 : Option Addr} {sl20 : Array (Option Value)} {g20 : Addr}
    {oc21 kV21 dc21 pm21 cd21 ct21 : Value} {od21 an21 : Option Addr} {sl21 : Array (Option Value)} {g21 : Addr}
    {oc22 kV22 dc22 pm22 cd22 ct22 : Value} {od22 an22 : Option Addr} {sl22 : Array (Option Value)} {g22 : Addr}
    {oc23 kV23 dc23 pm23 cd23 ct23 : Value} {od23 an23 : Option Addr} {sl23 : Array (Option Value)} {g23 : Addr}
    {C0 : Addr}
    {nm0 nq0 : Str} {nN0 : Addr} {nbs0 nsub0 : List Value} {nhd0 nab0 : Bool} {nsn0 : List Str} {ncol0 : Option Bool} {ndd0 : Option Addr} {nk00 nk10 nk20 nk30 nk50 : Option Value} {nid0 : String}
    {t0 : Tok}
    {t1 : Tok}
    (aC0 : PySem.W.nsIn K mainGlobals "Table" = some (some (.ref C0))) (pg0 : PySem.W.plainGet K C0 Str.empty = true) (hd0 : PySem.W.hasDictIn K C0 = true) (po0 : PySem.W.plainOver K C0 = true) (sa0 : PySem.W.findIn K (.ref C0) "__setattr__" = some (some (.builtin "object.__setattr__"))) (mk0 : PySem.W.makesIn K C0 = true) (kc0 : PySem.W.keepIn K (.ref C0) = true)
    (no0 : K.lookup C0 = some (excClassObj nm0 nq0 C0 nN0 nbs0 [.type "object"] nhd0 nsn0 nsub0 nab0 ncol0 ndd0 nk00 nk10 nk20 nk30 nk50 nid0)) (nn0 : PySem.W.nsOkIn K nN0 = true) (ne0 : PySem.W.nsIn K nN0 "__ne__" = some none) (nf0 : PySem.W.nsIn K nN0 "__eq__" = some (some (.ref g16))) (nl0 : PySem.W.subIn K (.type "list") (.ref C0) = some false) (nt0 : PySem.W.subIn K (.type "tuple") (.ref C0) = some false)
    (ia0 : PySem.W.findIn K (.ref C0) "__class__" = some (some (.builtin "object.__class__"))) (ig0 : PySem.W.specialIn K (.builtin "object.__class__") "__get__" = some (some (.builtin "getset_descriptor.__get__"))) (it0 : PySem.W.takesIn K (.builtin "object.__class__") = some true) (im0 : PySem.W.mroIn K C0 (.type "object") = some true) (iC0 : PySem.W.isClsIn K C0 = true) (iT0 : PySem.W.typeIn K (.ref C0) = some (.type "type")) (kNoneType0 : PySem.W.subIn K (.type "NoneType") (.ref C0) = some false) (kbool0 : PySem.W.subIn K (.type "bool") (.ref C0) = some false) (kint0 : PySem.W.subIn K (.type "int") (.ref C0) = some false) (kstr0 : PySem.W.subIn K (.type "str") (.ref C0) = some false) (klist0 : PySem.W.subIn K (.type "list") (.ref C0) = some false) (ktuple0 : PySem.W.subIn K (.type "tuple") (.ref C0) = some false) (kdict0 : PySem.W.subIn K (.type "dict") (.ref C0) = some false)
    (n_kept0 : PySem.W.findIn K (.ref C0) "kept" = some none)
    (n_places0 : PySem.W.findIn K (.ref C0) "places" = some none)
    (n_ranks0 : PySem.W.findIn K (.ref C0) "ranks" = some none)
    (n_width0 : PySem.W.findIn K (.ref C0) "width" = some none)
    (a0 : PySem.W.nsIn K mainGlobals "is_integer" = some (some (.ref g0))) (l0 : K.lookup g0 = some ⟨oc0, od0, .func (PySem.W.fnOf "is_integer" "is_integer" (defArgs s0) (defBody s0) (defScope s0) .none kV0 dc0 pm0 an0 cd0 ct0), sl0⟩) (c0 : PySem.W.codeIn K cd0 "is_integer" = true) (k0 : PySem.W.keepIn K (.ref g0) = true)
    (a1 : PySem.W.nsIn K mainGlobals "is_between" = some (some (.ref g1))) (l1 : K.lookup g1 = some ⟨oc1, od1, .func (PySem.W.fnOf "is_between" "is_between" (defArgs s1) (defBody s1) (defScope s1) .none kV1 dc1 pm1 an1 cd1 ct1), sl1⟩) (c1 : PySem.W.codeIn K cd1 "is_between" = true) (k1 : PySem.W.keepIn K (.ref g1) = true)
    (a2 : PySem.W.nsIn K mainGlobals "is_symbol" = some (some (.ref g2))) (l2 : K.lookup g2 = some ⟨oc2, od2, .func (PySem.W.fnOf "is_symbol" "is_symbol" (defArgs s2) (defBody s2) (defScope s2) .none kV2 dc2 pm2 an2 cd2 ct2), sl2⟩) (c2 : PySem.W.codeIn K cd2 "is_symbol" = true) (k2 : PySem.W.keepIn K (.ref g2) = true)
    (a3 : PySem.W.nsIn K mainGlobals "is_size" = some (some (.ref g3))) (l3 : K.lookup g3 = some ⟨oc3, od3, .func (PySem.W.fnOf "is_size" "is_size" (defArgs s3) (defBody s3) (defScope s3) .none kV3 dc3 pm3 an3 cd3 ct3), sl3⟩) (c3 : PySem.W.codeIn K cd3 "is_size" = true) (k3 : PySem.W.keepIn K (.ref g3) = true)
    (a4 : PySem.W.nsIn K mainGlobals "check_spread" = some (some (.ref g4))) (l4 : K.lookup g4 = some ⟨oc4, od4, .func (PySem.W.fnOf "check_spread" "check_spread" (defArgs s4) (defBody s4) (defScope s4) .none kV4 dc4 pm4 an4 cd4 ct4), sl4⟩) (c4 : PySem.W.codeIn K cd4 "check_spread" = true) (k4 : PySem.W.keepIn K (.ref g4) = true)
    (a5 : PySem.W.nsIn K mainGlobals "check_state" = some (some (.ref g5))) (l5 : K.lookup g5 = some ⟨oc5, od5, .func (PySem.W.fnOf "check_state" "check_state" (defArgs s5) (defBody s5) (defScope s5) .none kV5 dc5 pm5 an5 cd5 ct5), sl5⟩) (c5 : PySem.W.codeIn K cd5 "check_state" = true) (k5 : PySem.W.keepIn K (.ref g5) = true)
    (a6 : PySem.W.nsIn K mainGlobals "_law_source_of" = some (some (.ref g6))) (l6 : K.lookup g6 = some ⟨oc6, od6, .func (PySem.W.fnOf "_law_source_of" "_law_source_of" (defArgs s6) (defBody s6) (defScope s6) .none kV6 dc6 pm6 an6 cd6 ct6), sl6⟩) (c6 : PySem.W.codeIn K cd6 "_law_source_of" = true) (k6 : PySem.W.keepIn K (.ref g6) = true)
    (a7 : PySem.W.nsIn K mainGlobals "_law_next" = some (some (.ref g7))) (l7 : K.lookup g7 = some ⟨oc7, od7, .func (PySem.W.fnOf "_law_next" "_law_next" (defArgs s7) (defBody s7) (defScope s7) .none kV7 dc7 pm7 an7 cd7 ct7), sl7⟩) (c7 : PySem.W.codeIn K cd7 "_law_next" = true) (k7 : PySem.W.keepIn K (.ref g7) = true)
    (a8 : PySem.W.nsIn K mainGlobals "_law_one" = some (some (.ref g8))) (l8 : K.lookup g8 = some ⟨oc8, od8, .func (PySem.W.fnOf "_law_one" "_law_one" (defArgs s8) (defBody s8) (defScope s8) .none kV8 dc8 pm8 an8 cd8 ct8), sl8⟩) (c8 : PySem.W.codeIn K cd8 "_law_one" = true) (k8 : PySem.W.keepIn K (.ref g8) = true)
    (a9 : PySem.W.nsIn K mainGlobals "_law_cell_at" = some (some (.ref g9))) (l9 : K.lookup g9 = some ⟨oc9, od9, .func (PySem.W.fnOf "_law_cell_at" "_law_cell_at" (defArgs s9) (defBody s9) (defScope s9) .none kV9 dc9 pm9 an9 cd9 ct9), sl9⟩) (c9 : PySem.W.codeIn K cd9 "_law_cell_at" = true) (k9 : PySem.W.keepIn K (.ref g9) = true)
    (a10 : PySem.W.nsIn K mainGlobals "_law_symbols" = some (some (.ref g10))) (l10 : K.lookup g10 = some ⟨oc10, od10, .func (PySem.W.fnOf "_law_symbols" "_law_symbols" (defArgs s10) (defBody s10) (defScope s10) .none kV10 dc10 pm10 an10 cd10 ct10), sl10⟩) (c10 : PySem.W.codeIn K cd10 "_law_symbols" = true) (k10 : PySem.W.keepIn K (.ref g10) = true)
    (a11 : PySem.W.nsIn K mainGlobals "_law_power" = some (some (.ref g11))) (l11 : K.lookup g11 = some ⟨oc11, od11, .func (PySem.W.fnOf "_law_power" "_law_power" (defArgs s11) (defBody s11) (defScope s11) .none kV11 dc11 pm11 an11 cd11 ct11), sl11⟩) (c11 : PySem.W.codeIn K cd11 "_law_power" = true) (k11 : PySem.W.keepIn K (.ref g11) = true)
    (a12 : PySem.W.nsIn K mainGlobals "_law_rows" = some (some (.ref g12))) (l12 : K.lookup g12 = some ⟨oc12, od12, .func (PySem.W.fnOf "_law_rows" "_law_rows" (defArgs s12) (defBody s12) (defScope s12) .none kV12 dc12 pm12 an12 cd12 ct12), sl12⟩) (c12 : PySem.W.codeIn K cd12 "_law_rows" = true) (k12 : PySem.W.keepIn K (.ref g12) = true)
    (a13 : PySem.W.nsIn K mainGlobals "_law_right" = some (some (.ref g13))) (l13 : K.lookup g13 = some ⟨oc13, od13, .func (PySem.W.fnOf "_law_right" "_law_right" (defArgs s13) (defBody s13) (defScope s13) .none kV13 dc13 pm13 an13 cd13 ct13), sl13⟩) (c13 : PySem.W.codeIn K cd13 "_law_right" = true) (k13 : PySem.W.keepIn K (.ref g13) = true)
    (a14 : PySem.W.nsIn K mainGlobals "law" = some (some (.ref g14))) (l14 : K.lookup g14 = some ⟨oc14, od14, .func (PySem.W.fnOf "law" "law" (defArgs s14) (defBody s14) (defScope s14) .none kV14 dc14 pm14 an14 cd14 ct14), sl14⟩) (c14 : PySem.W.codeIn K cd14 "law" = true) (k14 : PySem.W.keepIn K (.ref g14) = true)
    (a15 : PySem.W.findIn K (.ref C0) "__init__" = some (some (.ref g15))) (i15 : PySem.W.isFn K (.ref g15) = true) (l15 : K.lookup g15 = some ⟨oc15, od15, .func (PySem.W.fnOf "__init__" "Table.__init__" (defArgs s15) (defBody s15) (defScope s15) .none kV15 dc15 pm15 an15 cd15 ct15), sl15⟩) (c15 : PySem.W.codeIn K cd15 "Table.__init__" = true) (k15 : PySem.W.keepIn K (.ref g15) = true)
    (a16 : PySem.W.findIn K (.ref C0) "__eq__" = some (some (.ref g16))) (i16 : PySem.W.isFn K (.ref g16) = true) (l16 : K.lookup g16 = some ⟨oc16, od16, .func (PySem.W.fnOf "__eq__" "Table.__eq__" (defArgs s16) (defBody s16) (defScope s16) .none kV16 dc16 pm16 an16 cd16 ct16), sl16⟩) (c16 : PySem.W.codeIn K cd16 "Table.__eq__" = true) (k16 : PySem.W.keepIn K (.ref g16) = true)
    (a17 : PySem.W.findIn K (.ref C0) "spread" = some (some (.ref g17))) (i17 : PySem.W.isFn K (.ref g17) = true) (l17 : K.lookup g17 = some ⟨oc17, od17, .func (PySem.W.fnOf "spread" "Table.spread" (defArgs s17) (defBody s17) (defScope s17) .none kV17 dc17 pm17 an17 cd17 ct17), sl17⟩) (c17 : PySem.W.codeIn K cd17 "Table.spread" = true) (k17 : PySem.W.keepIn K (.ref g17) = true)
    (a18 : PySem.W.findIn K (.ref C0) "size" = some (some (.ref g18))) (i18 : PySem.W.isFn K (.ref g18) = true) (l18 : K.lookup g18 = some ⟨oc18, od18, .func (PySem.W.fnOf "size" "Table.size" (defArgs s18) (defBody s18) (defScope s18) .none kV18 dc18 pm18 an18 cd18 ct18), sl18⟩) (c18 : PySem.W.codeIn K cd18 "Table.size" = true) (k18 : PySem.W.keepIn K (.ref g18) = true)
    (a19 : PySem.W.findIn K (.ref C0) "bits" = some (some (.ref g19))) (i19 : PySem.W.isFn K (.ref g19) = true) (l19 : K.lookup g19 = some ⟨oc19, od19, .func (PySem.W.fnOf "bits" "Table.bits" (defArgs s19) (defBody s19) (defScope s19) .none kV19 dc19 pm19 an19 cd19 ct19), sl19⟩) (c19 : PySem.W.codeIn K cd19 "Table.bits" = true) (k19 : PySem.W.keepIn K (.ref g19) = true)
    (a20 : PySem.W.findIn K (.ref C0) "counts" = some (some (.ref g20))) (i20 : PySem.W.isFn K (.ref g20) = true) (l20 : K.lookup g20 = some ⟨oc20, od20, .func (PySem.W.fnOf "counts" "Table.counts" (defArgs s20) (defBody s20) (defScope s20) .none kV20 dc20 pm20 an20 cd20 ct20), sl20⟩) (c20 : PySem.W.codeIn K cd20 "Table.counts" = true) (k20 : PySem.W.keepIn K (.ref g20) = true)
    (a21 : PySem.W.findIn K (.ref C0) "row_of" = some (some (.ref g21))) (i21 : PySem.W.isFn K (.ref g21) = true) (l21 : K.lookup g21 = some ⟨oc21, od21, .func (PySem.W.fnOf "row_of" "Table.row_of" (defArgs s21) (defBody s21) (defScope s21) .none kV21 dc21 pm21 an21 cd21 ct21), sl21⟩) (c21 : PySem.W.codeIn K cd21 "Table.row_of" = true) (k21 : PySem.W.keepIn K (.ref g21) = true)
    (a22 : PySem.W.findIn K (.ref C0) "row" = some (some (.ref g22))) (i22 : PySem.W.isFn K (.ref g22) = true) (l22 : K.lookup g22 = some ⟨oc22, od22, .func (PySem.W.fnOf "row" "Table.row" (defArgs s22) (defBody s22) (defScope s22) .none kV22 dc22 pm22 an22 cd22 ct22), sl22⟩) (c22 : PySem.W.codeIn K cd22 "Table.row" = true) (k22 : PySem.W.keepIn K (.ref g22) = true)
    (a23 : PySem.W.findIn K (.ref C0) "rows" = some (some (.ref g23))) (i23 : PySem.W.isFn K (.ref g23) = true) (l23 : K.lookup g23 = some ⟨oc23, od23, .func (PySem.W.fnOf "rows" "Table.rows" (defArgs s23) (defBody s23) (defScope s23) .none kV23 dc23 pm23 an23 cd23 ct23), sl23⟩) (c23 : PySem.W.codeIn K cd23 "Table.rows" = true) (k23 : PySem.W.keepIn K (.ref g23) = true)
    (x0 : PySem.W.nsIn K mainGlobals "MOST_SYMBOL" = some (some (.int 999 t0)))
    (x1 : PySem.W.nsIn K mainGlobals "MOST_BITS" = some (some (.int 12 t1)))
    (z_bool : PySem.W.nsIn K mainGlobals "bool" = some none)
    (z_enumerate : PySem.W.nsIn K mainGlobals "enumerate" = some none)
    (z_int : PySem.W.nsIn K mainGlobals "int" = some none)
    (z_isinstance : PySem.W.nsIn K mainGlobals "isinstance" = some none)
    (z_len : PySem.W.nsIn K mainGlobals "len" = some none)
    (z_list : PySem.W.nsIn K mainGlobals "list" = some none)
    (z_max : PySem.W.nsIn K mainGlobals "max" = some none)
    (z_min : PySem.W.nsIn K mainGlobals "min" = some none)
    (z_range : PySem.W.nsIn K mainGlobals "range" = some none)
    (z_set : PySem.W.nsIn K mainGlobals "set" = some none)
    (z_sorted : PySem.W.nsIn K mainGlobals "sorted" = some none)
    (z_tuple : PySem.W.nsIn K mainGlobals "tuple" = some none) :
    ∃ fd : FuncData, (∀ (s : Shared) (v : Value), BindsTo s fd ⟨[v], []⟩ [("_law_script", v)]) ∧ ∀ base : Heap, K.In base → base.Ns mainGlobals mg → FnOk P w K mg base (L2.CX P w) 40 fa fd ["_law_script"] (spL K) := by
  have e := hfa.symm.trans (PySem.W.mg_of X G a14)
  cases e
  let Γ : Gm := ⟨fun n => match n with | 0 => C0 | _ + 1 => C0, fun n => [g0, g1, g2, g3, g4, g5, g6, g7, g8, g9, g10, g11, g12, g13, fa, g15, g16, g17, g18, g19, g20, g21, g22, g23].getD n 0, fun _ => 0, fun _ => []⟩
  let fd : Nat → FuncData := fun n => match n with
    | 0 => PySem.W.fnOf "is_integer" "is_integer" (defArgs s0) (defBody s0) (defScope s0) .none kV0 dc0 pm0 an0 cd0 ct0
    | 1 => PySem.W.fnOf "is_between" "is_between" (defArgs s1) (defBody s1) (defScope s1) .none kV1 dc1 pm1 an1 cd1 ct1
    | 2 => PySem.W.fnOf "is_symbol" "is_symbol" (defArgs s2) (defBody s2) (defScope s2) .none kV2 dc2 pm2 an2 cd2 ct2
    | 3 => PySem.W.fnOf "is_size" "is_size" (defArgs s3) (defBody s3) (defScope s3) .none kV3 dc3 pm3 an3 cd3 ct3
    | 4 => PySem.W.fnOf "check_spread" "check_spread" (defArgs s4) (defBody s4) (defScope s4) .none kV4 dc4 pm4 an4 cd4 ct4
    | 5 => PySem.W.fnOf "check_state" "check_state" (defArgs s5) (defBody s5) (defScope s5) .none kV5 dc5 pm5 an5 cd5 ct5
    | 6 => PySem.W.fnOf "_law_source_of" "_law_source_of" (defArgs s6) (defBody s6) (defScope s6) .none kV6 dc6 pm6 an6 cd6 ct6
    | 7 => PySem.W.fnOf "_law_next" "_law_next" (defArgs s7) (defBody s7) (defScope s7) .none kV7 dc7 pm7 an7 cd7 ct7
    | 8 => PySem.W.fnOf "_law_one" "_law_one" (defArgs s8) (defBody s8) (defScope s8) .none kV8 dc8 pm8 an8 cd8 ct8
    | 9 => PySem.W.fnOf "_law_cell_at" "_law_cell_at" (defArgs s9) (defBody s9) (defScope s9) .none kV9 dc9 pm9 an9 cd9 ct9
    | 10 => PySem.W.fnOf "_law_symbols" "_law_symbols" (defArgs s10) (defBody s10) (defScope s10) .none kV10 dc10 pm10 an10 cd10 ct10
    | 11 => PySem.W.fnOf "_law_power" "_law_power" (defArgs s11) (defBody s11) (defScope s11) .none kV11 dc11 pm11 an11 cd11 ct11
    | 12 => PySem.W.fnOf "_law_rows" "_law_rows" (defArgs s12) (defBody s12) (defScope s12) .none kV12 dc12 pm12 an12 cd12 ct12
    | 13 => PySem.W.fnOf "_law_right" "_law_right" (defArgs s13) (defBody s13) (defScope s13) .none kV13 dc13 pm13 an13 cd13 ct13
    | 15 => PySem.W.fnOf "__init__" "Table.__init__" (defArgs s15) (defBody s15) (defScope s15) .none kV15 dc15 pm15 an15 cd15 ct15
    | 16 => PySem.W.fnOf "__eq__" "Table.__eq__" (defArgs s16) (defBody s16) (defScope s16) .none kV16 dc16 pm16 an16 cd16 ct16
    | 17 => PySem.W.fnOf "spread" "Table.spread" (defArgs s17) (defBody s17) (defScope s17) .none kV17 dc17 pm17 an17 cd17 ct17
    | 18 => PySem.W.fnOf "size" "Table.size" (defArgs s18) (defBody s18) (defScope s18) .none kV18 dc18 pm18 an18 cd18 ct18
    | 19 => PySem.W.fnOf "bits" "Table.bits" (defArgs s19) (defBody s19) (defScope s19) .none kV19 dc19 pm19 an19 cd19 ct19
    | 20 => PySem.W.fnOf "counts" "Table.counts" (defArgs s20) (defBody s20) (defScope s20) .none kV20 dc20 pm20 an20 cd20 ct20
    | 21 => PySem.W.fnOf "row_of" "Table.row_of" (defArgs s21) (defBody s21) (defScope s21) .none kV21 dc21 pm21 an21 cd21 ct21
    | 22 => PySem.W.fnOf "row" "Table.row" (defArgs s22) (defBody s22) (defScope s22) .none kV22 dc22 pm22 an22 cd22 ct22
    | 23 => PySem.W.fnOf "rows" "Table.rows" (defArgs s23) (defBody s23) (defScope s23) .none kV23 dc23 pm23 an23 cd23 ct23
    | _ => PySem.W.fnOf "law" "law" (defArgs s14) (defBody s14) (defScope s14) .none kV14 dc14 pm14 an14 cd14 ct14
  have Q : Fx K mg Γ fd := ⟨⟨⟨oc0, od0, .none, kV0, dc0, pm0, an0, cd0, ct0, sl0, rfl, l0, c0, .inl ⟨rfl, rfl⟩, .inl rfl⟩, k0⟩, PySem.W.mg_of X G a0, ⟨⟨oc1, od1, .none, kV1, dc1, pm1, an1, cd1, ct1, sl1, rfl, l1, c1, .inl ⟨rfl, rfl⟩, .inl rfl⟩, k1⟩, PySem.W.mg_of X G a1, ⟨⟨oc2, od2, .none, kV2, dc2, pm2, an2, cd2, ct2, sl2, rfl, l2, c2, .inl ⟨rfl, rfl⟩, .inl rfl⟩, k2⟩, PySem.W.mg_of X G a2, ⟨⟨oc3, od3, .none, kV3, dc3, pm3, an3, cd3, ct3, sl3, rfl, l3, c3, .inl ⟨rfl, rfl⟩, .inl rfl⟩, k3⟩, PySem.W.mg_of X G a3, ⟨⟨oc4, od4, .none, kV4, dc4, pm4, an4, cd4, ct4, sl4, rfl, l4, c4, .inl ⟨rfl, rfl⟩, .inl rfl⟩, k4⟩, PySem.W.mg_of X G a4, ⟨⟨oc5, od5, .none, kV5, dc5, pm5, an5, cd5, ct5, sl5, rfl, l5, c5, .inl ⟨rfl, rfl⟩, .inl rfl⟩, k5⟩, PySem.W.mg_of X G a5, ⟨⟨oc6, od6, .none, kV6, dc6, pm6, an6, cd6, ct6, sl6, rfl, l6, c6, .inl ⟨rfl, rfl⟩, .inl rfl⟩, k6⟩, PySem.W.mg_of X G a6, ⟨⟨oc7, od7, .none, kV7, dc7, pm7, an7, cd7, ct7, sl7, rfl, l7, c7, .inl ⟨rfl, rfl⟩, .inl rfl⟩, k7⟩, PySem.W.mg_of X G a7, ⟨⟨oc8, od8, .none, kV8, dc8, pm8, an8, cd8, ct8, sl8, rfl, l8, c8, .inl ⟨rfl, rfl⟩, .inl rfl⟩, k8⟩, PySem.W.mg_of X G a8, ⟨⟨oc9, od9, .none, kV9, dc9, pm9, an9, cd9, ct9, sl9, rfl, l9, c9, .inl ⟨rfl, rfl⟩, .inl rfl⟩, k9⟩, PySem.W.mg_of X G a9, ⟨⟨oc10, od10, .none, kV10, dc10, pm10, an10, cd10, ct10, sl10, rfl, l10, c10, .inl ⟨rfl, rfl⟩, .inl rfl⟩, k10⟩, PySem.W.mg_of X G a10, ⟨⟨oc11, od11, .none, kV11, dc11, pm11, an11, cd11, ct11, sl11, rfl, l11, c11, .inl ⟨rfl, rfl⟩, .inl rfl⟩, k11⟩, PySem.W.mg_of X G a11, ⟨⟨oc12, od12, .none, kV12, dc12, pm12, an12, cd12, ct12, sl12, rfl, l12, c12, .inl ⟨rfl, rfl⟩, .inl rfl⟩, k12⟩, PySem.W.mg_of X G a12, ⟨⟨oc13, od13, .none, kV13, dc13, pm13, an13, cd13, ct13, sl13, rfl, l13, c13, .inl ⟨rfl, rfl⟩, .inl rfl⟩, k13⟩, PySem.W.mg_of X G a13, ⟨⟨oc14, od14, .none, kV14, dc14, pm14, an14, cd14, ct14, sl14, rfl, l14, c14, .inl ⟨rfl, rfl⟩, .inl rfl⟩, k14⟩, PySem.W.mg_of X G a14, ⟨⟨oc15, od15, .none, kV15, dc15, pm15, an15, cd15, ct15, sl15, rfl, l15, c15, .inl ⟨rfl, rfl⟩, .inl rfl⟩, k15⟩, ⟨mk0, a15, i15, kc0⟩, PySem.W.mg_of X G aC0, ⟨⟨oc16, od16, .none, kV16, dc16, pm16, an16, cd16, ct16, sl16, rfl, l16, c16, .inl ⟨rfl, rfl⟩, .inl rfl⟩, k16⟩, ⟨a16, i16, k16⟩, ⟨⟨oc17, od17, .none, kV17, dc17, pm17, an17, cd17, ct17, sl17, rfl, l17, c17, .inl ⟨rfl, rfl⟩, .inl rfl⟩, k17⟩, ⟨a17, i17, k17⟩, ⟨⟨oc18, od18, .none, kV18, dc18, pm18, an18, cd18, ct18, sl18, rfl, l18, c18, .inl ⟨rfl, rfl⟩, .inl rfl⟩, k18⟩, ⟨a18, i18, k18⟩, ⟨⟨oc19, od19, .none, kV19, dc19, pm19, an19, cd19, ct19, sl19, rfl, l19, c19, .inl ⟨rfl, rfl⟩, .inl rfl⟩, k19⟩, ⟨a19, i19, k19⟩, ⟨⟨oc20, od20, .none, kV20, dc20, pm20, an20, cd20, ct20, sl20, rfl, l20, c20, .inl ⟨rfl, rfl⟩, .inl rfl⟩, k20⟩, ⟨a20, i20, k20⟩, ⟨⟨oc21, od21, .none, kV21, dc21, pm21, an21, cd21, ct21, sl21, rfl, l21, c21, .inl ⟨rfl, rfl⟩, .inl rfl⟩, k21⟩, ⟨a21, i21, k21⟩, ⟨⟨oc22, od22, .none, kV22, dc22, pm22, an22, cd22, ct22, sl22, rfl, l22, c22, .inl ⟨rfl, rfl⟩, .inl rfl⟩, k22⟩, ⟨a22, i22, k22⟩, ⟨⟨oc23, od23, .none, kV23, dc23, pm23, an23, cd23, ct23, sl23, rfl, l23, c23, .inl ⟨rfl, rfl⟩, .inl rfl⟩, k23⟩, ⟨a23, i23, k23⟩, PySem.W.mg_none_of X G z_bool, PySem.W.mg_none_of X G z_enumerate, PySem.W.mg_none_of X G z_int, PySem.W.mg_none_of X G z_isinstance, PySem.W.mg_none_of X G z_len, PySem.W.mg_none_of X G z_list, PySem.W.mg_none_of X G z_max, PySem.W.mg_none_of X G z_min, PySem.W.mg_none_of X G z_range, PySem.W.mg_none_of X G z_set, PySem.W.mg_none_of X G z_sorted, PySem.W.mg_none_of X G z_tuple, (fun c => by
    match c with
    | 0 => exact ⟨pg0, hd0, po0, sa0⟩
    | _ + 1 => exact ⟨pg0, hd0, po0, sa0⟩), (fun c => by
    match c with
    | 0 => exact n_kept0
    | _ + 1 => exact n_kept0), (fun c => by
    match c with
    | 0 => exact n_places0
    | _ + 1 => exact n_places0), (fun c => by
    match c with
    | 0 => exact n_ranks0
    | _ + 1 => exact n_ranks0), (fun c => by
    match c with
    | 0 => exact n_width0
    | _ + 1 => exact n_width0), ⟨⟨nm0, nq0, nN0, nbs0, nhd0, nsn0, nsub0, nab0, ncol0, ndd0, nk00, nk10, nk20, nk30, nk50, nid0, no0, nn0, ne0, nf0⟩, nl0, nt0⟩, ⟨⟨pg0, hd0, po0, sa0⟩, ia0, ig0, it0, im0⟩, (fun t ht => by
    simp only [List.mem_cons, List.not_mem_nil, or_false] at ht
    rcases ht with rfl | rfl | rfl | rfl | rfl | rfl | rfl
    · exact kit_no iC0 iT0 kNoneType0
    · exact kit_no iC0 iT0 kbool0
    · exact kit_no iC0 iT0 kint0
    · exact kit_no iC0 iT0 kstr0
    · exact kit_no iC0 iT0 klist0
    · exact kit_no iC0 iT0 ktuple0
    · exact kit_no iC0 iT0 kdict0), ⟨t0, PySem.W.mg_of X G x0⟩, ⟨t1, PySem.W.mg_of X G x1⟩⟩
  exact ⟨fd 14, fun s v => .of_eq rfl, fun base _ _ => (fs_all (P := P) (w := w) (base := base) Q 20).f14.imp fun vs H Q E h => spL_of h⟩
end Pv
open PySem PySem.W PyProof.Rows
set_option maxHeartbeats 0 in
theorem PySem.Challenge.cw_spreadstates_k10_rows_of_tables_holds : PySem.Challenge.rw_spreadstates_k10_rows_of_tables.Holds := by
  w_on; o_law; k_head; (case hw => w_witness2)
  k_fill
  refine L2.walk_of (l := PySem.Challenge.rw_spreadstates_k10_rows_of_tables) (n := 63) (k := 40) (x := "_law_script") (CX := fun w => L2.CX (PySem.Challenge.rw_spreadstates_k10_rows_of_tables).prog w) (sp := fun w => Pv.spL _) rfl (by decide) rfl ⟨rfl, by decide, by decide⟩ (fun w h Y => PySem.W.kIn_of Y) ?F (fun _ _ a ns hl _ hS => ⟨a, ns, rfl, hS, hl, fun _ => rfl⟩) (fun _ _ _ _ _ h => Pv.cx_false h)
  case F =>
    intro w mg fa h KX G hmg
    refine' Pv.all_mk KX G hmg ?aC0 ?pg0 ?hd0 ?po0 ?sa0 ?mk0 ?kc0 ?no0 ?nn0 ?ne0 ?nf0 ?nl0 ?nt0 ?ia0 ?ig0 ?it0 ?im0 ?iC0 ?iT0 ?kNoneType0 ?kbool0 ?kint0 ?kstr0 ?klist0 ?ktuple0 ?kdict0 ?n_kept0 ?n_places0 ?n_ranks0 ?n_width0 ?a0 ?l0 ?c0 ?k0 ?a1 ?l1 ?c1 ?k1 ?a2 ?l2 ?c2 ?k2 ?a3 ?l3 ?c3 ?k3 ?a4 ?l4 ?c4 ?k4 ?a5 ?l5 ?c5 ?k5 ?a6 ?l6 ?c6 ?k6 ?a7 ?l7 ?c7 ?k7 ?a8 ?l8 ?c8 ?k8 ?a9 ?l9 ?c9 ?k9 ?a10 ?l10 ?c10 ?k10 ?a11 ?l11 ?c11 ?k11 ?a12 ?l12 ?c12 ?k12 ?a13 ?l13 ?c13 ?k13 ?a14 ?l14 ?c14 ?k14 ?a15 ?i15 ?l15 ?c15 ?k15 ?a16 ?i16 ?l16 ?c16 ?k16 ?a17 ?i17 ?l17 ?c17 ?k17 ?a18 ?i18 ?l18 ?c18 ?k18 ?a19 ?i19 ?l19 ?c19 ?k19 ?a20 ?i20 ?l20 ?c20 ?k20 ?a21 ?i21 ?l21 ?c21 ?k21 ?a22 ?i22 ?l22 ?c22 ?k22 ?a23 ?i23 ?l23 ?c23 ?k23 ?x0 ?x1 ?z_bool ?z_enumerate ?z_int ?z_isinstance ?z_len ?z_list ?z_max ?z_min ?z_range ?z_set ?z_sorted ?z_tuple
    (case aC0 => k_is)
    (case pg0 => k_is)
    (case hd0 => k_is)
    (case po0 => k_is)
    (case sa0 => k_is)
    (case mk0 => k_is)
    (case kc0 => k_is)
    (case no0 => k_is)
    (case nn0 => kernel_rfl)
    (case ne0 => k_is)
    (case nf0 => k_is)
    (case nl0 => k_is)
    (case nt0 => k_is)
    (case ia0 => k_is)
    (case ig0 => k_is)
    (case it0 => k_is)
    (case im0 => k_is)
    (case iC0 => k_is)
    (case iT0 => k_is)
    (case kNoneType0 => k_is)
    (case kbool0 => k_is)
    (case kint0 => k_is)
    (case kstr0 => k_is)
    (case klist0 => k_is)
    (case ktuple0 => k_is)
    (case kdict0 => k_is)
    (case n_kept0 => k_is)
    (case n_places0 => k_is)
    (case n_ranks0 => k_is)
    (case n_width0 => k_is)
    (case a0 => k_is)
    (case l0 => k_is)
    (case c0 => k_is)
    (case k0 => k_is)
    (case a1 => k_is)
    (case l1 => k_is)
    (case c1 => k_is)
    (case k1 => k_is)
    (case a2 => k_is)
    (case l2 => k_is)
    (case c2 => k_is)
    (case k2 => k_is)
    (case a3 => k_is)
    (case l3 => k_is)
    (case c3 => k_is)
    (case k3 => k_is)
    (case a4 => k_is)
    (case l4 => k_is)
    (case c4 => k_is)
    (case k4 => k_is)
    (case a5 => k_is)
    (case l5 => k_is)
    (case c5 => k_is)
    (case k5 => k_is)
    (case a6 => k_is)
    (case l6 => k_is)
    (case c6 => k_is)
    (case k6 => k_is)
    (case a7 => k_is)
    (case l7 => k_is)
    (case c7 => k_is)
    (case k7 => k_is)
    (case a8 => k_is)
    (case l8 => k_is)
    (case c8 => k_is)
    (case k8 => k_is)
    (case a9 => k_is)
    (case l9 => k_is)
    (case c9 => k_is)
    (case k9 => k_is)
    (case a10 => k_is)
    (case l10 => k_is)
    (case c10 => k_is)
    (case k10 => k_is)
    (case a11 => k_is)
    (case l11 => k_is)
    (case c11 => k_is)
    (case k11 => k_is)
    (case a12 => k_is)
    (case l12 => k_is)
    (case c12 => k_is)
    (case k12 => k_is)
    (case a13 => k_is)
    (case l13 => k_is)
    (case c13 => k_is)
    (case k13 => k_is)
    (case a14 => k_is)
    (case l14 => k_is)
    (case c14 => k_is)
    (case k14 => k_is)
    (case a15 => k_is)
    (case i15 => k_is)
    (case l15 => k_is)
    (case c15 => k_is)
    (case k15 => k_is)
    (case a16 => k_is)
    (case i16 => k_is)
    (case l16 => k_is)
    (case c16 => k_is)
    (case k16 => k_is)
    (case a17 => k_is)
    (case i17 => k_is)
    (case l17 => k_is)
    (case c17 => k_is)
    (case k17 => k_is)
    (case a18 => k_is)
    (case i18 => k_is)
    (case l18 => k_is)
    (case c18 => k_is)
    (case k18 => k_is)
    (case a19 => k_is)
    (case i19 => k_is)
    (case l19 => k_is)
    (case c19 => k_is)
    (case k19 => k_is)
    (case a20 => k_is)
    (case i20 => k_is)
    (case l20 => k_is)
    (case c20 => k_is)
    (case k20 => k_is)
    (case a21 => k_is)
    (case i21 => k_is)
    (case l21 => k_is)
    (case c21 => k_is)
    (case k21 => k_is)
    (case a22 => k_is)
    (case i22 => k_is)
    (case l22 => k_is)
    (case c22 => k_is)
    (case k22 => k_is)
    (case a23 => k_is)
    (case i23 => k_is)
    (case l23 => k_is)
    (case c23 => k_is)
    (case k23 => k_is)
    (case x0 => k_is)
    (case x1 => k_is)
    (case z_bool => k_is)
    (case z_enumerate => k_is)
    (case z_int => k_is)
    (case z_isinstance => k_is)
    (case z_len => k_is)
    (case z_list => k_is)
    (case z_max => k_is)
    (case z_min => k_is)
    (case z_range => k_is)
    (case z_set => k_is)
    (case z_sorted => k_is)
    (case z_tuple => k_is)
